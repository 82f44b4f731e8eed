import PyProof.Rows.All
import Wide.All
import OpenK.AllK
import Wide.FinOn
import HandS.ForMost
import HandS.Zip
import HandS.Wide
import HandS.TupAny
import HandS.TupMul
import HandS.IsInst
import HandS.SortInts
import KE.DatumOrd
import PyProof.WalksMore
import HandS.Deep
import HandS.Flow
import HandS.Style
import HandS.Conv
import KE.KTupSum
import HandS.Iter
import KE.GoesEnum
import KE.GoesZip
import HandS.Comp
import HandS.NoneIn
import HandS.Ends
import HandS.Words
import PyProof.ReprRoads
import HandS.Exc
import HandS.ExcInit
import HandS.Nested
import KE.KExcSuper
import KE.KSuper
import HandS.ExcIs
import HandS.ExcField
import HandS.HotCalls
import KE.KExcIs
import PyProof.FitsInt
import KE.KEqDeep
import PyProof.ReprBulk
import KE.RegKIsAll
import KE.RegKTryMore
import KE.RegKSuper
import PySem.Challenge.RW_cardspunched_k57_papers_and_arguments_of
set_option Elab.async false
set_option linter.all false
/-! Ev, part A: a small language of pure data, its evaluator (no heap: lists that a name owns are values).
The programs' texts are turned into it (part D), and what it answers is what the model answers (parts B to E). -/
namespace Ev
open PySem

/-- what a name holds: data; a list of its own (l); the same while it is walked (k); a list that is only read (r); a def by its number -/
inductive W where
  | d (x : PyData) | l (xs : List PyData) | k (xs : List PyData) | r (xs : List PyData) | f (n : Nat)
abbrev Env := List (Option W)
/-- what an expression gives: data; a new list; the list of a name; a list that is only read; a def -/
inductive Rv where
  | v (x : PyData) | n (xs : List PyData) | p (i : Nat) | r (xs : List PyData) | f (n : Nat)
/-- an outcome: fine; an own error by its class's number and its field; not looked at -/
inductive Rs (α : Type) where
  | ok (a : α) | ex (c : Nat) (a : PyData) | bad
def Rs.bind {α β : Type} : Rs α → (α → Rs β) → Rs β
  | .ok a, g => g a
  | .ex c a, _ => .ex c a
  | .bad, _ => .bad
def ofO {α : Type} : Option α → Rs α
  | some a => .ok a
  | none => .bad

/-- the data of what an expression gave, as it stands in the names now -/
def datW : W → Option PyData
  | .d x => some x
  | .l xs => some (.list xs)
  | .k xs => some (.list xs)
  | .r _ => none
  | .f _ => none
def dat (env : Env) : Rv → Option PyData
  | .v x => some x
  | .n xs => some (.list xs)
  | .p i => match env[i]? with
    | some (some w) => datW w
    | _ => none
  | .r _ => none
  | .f _ => none
/-- the data to be kept elsewhere: a name's own list is its own no more -/
def keep (env : Env) : Rv → Option (Env × PyData)
  | .v x => some (env, x)
  | .n xs => some (env, .list xs)
  | .p i => match env[i]? with
    | some (some (.l xs)) => some (env.set i (some (.d (.list xs))), .list xs)
    | some (some (.d x)) => some (env, x)
    | _ => none
  | .r _ => none
  | .f _ => none
def rdName (env : Env) (i : Nat) : Option Rv := match env[i]? with
  | some (some (.d x)) => some (.v x)
  | some (some (.l _)) => some (.p i)
  | some (some (.k _)) => some (.p i)
  | some (some (.r xs)) => some (.r xs)
  | some (some (.f n)) => some (.f n)
  | _ => none
/-- a name is bound -/
def bindN (env : Env) (i : Nat) : Rv → Option Env
  | .v x => if i < env.length then some (env.set i (some (.d x))) else none
  | .n xs => if i < env.length then some (env.set i (some (.l xs))) else none
  | .f n => if i < env.length then some (env.set i (some (.f n))) else none
  | .p _ => none
  | .r _ => none

/-! ### operations on data -/
inductive BOp where | add | sub | mul | fdiv | mod | pow
  deriving DecidableEq
inductive COp where | eq | ne | lt | le | gt | ge | isN | notN | inn | nin
  deriving DecidableEq
inductive Ty where | int | bool | str | tuple
  deriving DecidableEq
inductive B1 where | len | all | any | sum | min | max | tuple | list | sorted | abs | int | repr
  deriving DecidableEq
inductive B2 where | max | min
  deriving DecidableEq

def asInts : List PyData → Option (List Int)
  | [] => some []
  | .int i :: r => (asInts r).map (i :: ·)
  | _ :: _ => none
/-- the truths of bools and ints -/
def asTr : List PyData → Option (List Bool)
  | [] => some []
  | .bool b :: r => (asTr r).map (b :: ·)
  | .int i :: r => (asTr r).map ((i != 0) :: ·)
  | _ :: _ => none
def rep {α : Type} (n : Nat) (xs : List α) : List α := (List.replicate n xs).flatten
def sml (i : Int) : Bool := decide (-(2 ^ 64) < i) && decide (i < 2 ^ 64)

def opBin : BOp → PyData → PyData → Option Rv
  | .add, .int i, .int j => some (.v (.int (i + j)))
  | .add, .str a, .str b => if a.length + b.length ≤ sizeLine then some (.v (.str (a ++ b))) else none
  | .add, .tuple xs, .tuple ys => if xs.length + ys.length ≤ sizeLine then some (.v (.tuple (xs ++ ys))) else none
  | .add, .list xs, .list ys => if xs.length + ys.length ≤ sizeLine then some (.n (xs ++ ys)) else none
  | .sub, .int i, .int j => some (.v (.int (i - j)))
  | .mul, .int i, .int j => if sml i || sml j || decide (i.natAbs.log2 + j.natAbs.log2 < 1000000) then some (.v (.int (i * j))) else none
  | .mul, .tuple xs, .int k => if -(2 ^ 63) ≤ k ∧ k ≤ 100000 ∧ k.toNat * xs.length ≤ 1000000 then some (.v (.tuple (rep k.toNat xs))) else none
  | .mul, .list xs, .int k => if -(2 ^ 63) ≤ k ∧ k < 2 ^ 63 ∧ xs.length * k.toNat ≤ sizeLine then some (.n (rep k.toNat xs)) else none
  | .fdiv, .int i, .int j => if j ≠ 0 ∧ j.natAbs.log2 < 9000 then some (.v (.int (i.fdiv j))) else none
  | .mod, .int i, .int j => if j ≠ 0 then some (.v (.int (i.fmod j))) else none
  | .pow, .int i, .int j => if 0 ≤ j ∧ j ≤ 1000 ∧ sml i = true then some (.v (.int (i ^ j.toNat))) else none
  | _, _, _ => none

/-- a list of ints or texts told in full -/
def shp (x : PyData) : Bool := SeqAt.shaped x
def cmpI (o : COp) (i j : Int) : Bool := match o with
  | .lt => decide (i < j) | .le => decide (i ≤ j) | .gt => decide (j < i) | .ge => decide (j ≤ i) | _ => false
def opCmp : COp → PyData → PyData → Option Bool
  | .eq, x, y => if shp x && shp y then some (PyData.eqv x y) else none
  | .ne, x, y => if shp x && shp y then some (!PyData.eqv x y) else none
  | .isN, x, .none => some (match x with | .none => true | _ => false)
  | .notN, x, .none => some (match x with | .none => false | _ => true)
  | .inn, x, .list ys => if shp x && shp (.list ys) then some (ys.any fun z => PyData.eqv z x) else none
  | .nin, x, .list ys => if shp x && shp (.list ys) then some (!ys.any fun z => PyData.eqv z x) else none
  | .inn, x, .tuple ys => if shp x && shp (.tuple ys) then some (ys.any fun z => PyData.eqv z x) else none
  | .nin, x, .tuple ys => if shp x && shp (.tuple ys) then some (!ys.any fun z => PyData.eqv z x) else none
  | .lt, .int i, .int j => some (decide (i < j))
  | .le, .int i, .int j => some (decide (i ≤ j))
  | .gt, .int i, .int j => some (decide (j < i))
  | .ge, .int i, .int j => some (decide (j ≤ i))
  | _, _, _ => none

def opSub : PyData → PyData → Option PyData
  | .list xs, .int i => L2.atI xs i
  | .tuple xs, .int i => L2.atI xs i
  | _, _ => none
def cut {α : Type} (xs : List α) (lo hi : Option Int) : List α :=
  (xs.drop (HT.sIx xs.length 0 lo)).take (HT.sIx xs.length xs.length hi - HT.sIx xs.length 0 lo)
def opSlc (lo hi : Option Int) : PyData → Option Rv
  | .list xs => some (.n (cut xs lo hi))
  | .tuple xs => some (.v (.tuple (cut xs lo hi)))
  | _ => none
def tru : PyData → Option Bool
  | .none => some false
  | .bool b => some b
  | .int i => some (i != 0)
  | .list xs => some (!xs.isEmpty)
  | .tuple xs => some (!xs.isEmpty)
  | _ => none
def isTy : Ty → PyData → Option Bool
  | .int, .int _ => some true
  | .int, .bool _ => some true
  | .int, .none => some false
  | .int, .str _ => some false
  | .int, .list _ => some false
  | .int, .tuple _ => some false
  | .bool, .int _ => some false
  | .bool, .bool _ => some true
  | .bool, .none => some false
  | .bool, .str _ => some false
  | .bool, .list _ => some false
  | .bool, .tuple _ => some false
  | .str, .int _ => some false
  | .str, .bool _ => some false
  | .str, .none => some false
  | .str, .str _ => some true
  | .str, .list _ => some false
  | .str, .tuple _ => some false
  | .tuple, .int _ => some false
  | .tuple, .bool _ => some false
  | .tuple, .none => some false
  | .tuple, .str _ => some false
  | .tuple, .list _ => some false
  | .tuple, .tuple _ => some true
  | _, .dict _ => none
def ins (i : Int) : List Int → List Int
  | [] => [i]
  | j :: r => if i ≤ j then i :: j :: r else j :: ins i r
def isort : List Int → List Int
  | [] => []
  | i :: r => ins i (isort r)
def least : Int → List Int → Int
  | m, [] => m
  | m, j :: r => least (if j < m then j else m) r
def most : Int → List Int → Int
  | m, [] => m
  | m, j :: r => most (if m < j then j else m) r
def seqOf : PyData → Option (List PyData)
  | .list xs => some xs
  | .tuple xs => some xs
  | _ => none
/-- the text of a list, a tuple -/
def shw (x : PyData) : Option Rv := if x.showable && decide (x.shown.length ≤ sizeLine) && decide (x.depth ≤ 64) && !x.hasDict then some (.v (.str x.shown)) else none
/-- the first of the least of data that are alike -/
def dmin : List PyData → Option Rv
  | [] => none
  | x :: xs => if ((x :: xs).all fun a => (x :: xs).all fun b => PySem.W.alike a b) && ((x :: xs).all fun a => match a with | .none => false | _ => true) && decide (PyData.depthAll (x :: xs) ≤ 60) && !PyData.hasDictAll (x :: xs) then some (.v (PySem.W.minD x xs)) else none
def minI (xs : List PyData) : Option Rv := (asInts xs).bind fun is => match is with | [] => none | i :: r => some (.v (.int (least i r)))
def minX (xs : List PyData) : Option Rv := match minI xs with
  | some r => some r
  | none => dmin xs
def opB1 : B1 → PyData → Option Rv
  | .len, .list xs => some (.v (.int xs.length))
  | .len, .tuple xs => some (.v (.int xs.length))
  | .len, .str a => if a.length ≤ sizeLine then some (.v (.int a.length)) else none
  | .all, x => (seqOf x).bind fun xs => (asTr xs).map fun bs => .v (.bool (bs.all id))
  | .any, x => (seqOf x).bind fun xs => (asTr xs).map fun bs => .v (.bool (bs.any id))
  | .sum, x => (seqOf x).bind fun xs => (asInts xs).map fun is => .v (.int is.sum)
  | .min, x => (seqOf x).bind minX
  | .max, x => (seqOf x).bind fun xs => (asInts xs).bind fun is => match is with | [] => none | i :: r => some (.v (.int (most i r)))
  | .tuple, .list xs => some (.v (.tuple xs))
  | .tuple, .tuple xs => some (.v (.tuple xs))
  | .list, .list xs => some (.n xs)
  | .list, .tuple xs => some (.n xs)
  | .sorted, .list xs => (asInts xs).map fun is => .n ((isort is).map .int)
  | .abs, .int i => some (.v (.int (if i < 0 then -i else i)))
  | .int, .int i => some (.v (.int i))
  | .int, .bool b => some (.v (.int (if b then 1 else 0)))
  | .repr, x => shw x
  | _, _ => none
def opB2 : B2 → PyData → PyData → Option PyData
  | .max, .int i, .int j => some (.int (if j > i then j else i))
  | .min, .int i, .int j => some (.int (if j < i then j else i))
  | _, _, _ => none
/-- the place of the first that is the same -/
def plc (xs : List PyData) (y : PyData) : Option Nat := if shp (.list xs) && shp y then xs.findIdx? (fun z => PyData.eqv z y) else none
end Ev

/-! Ev, part B: the little language and its evaluator. -/
namespace Ev
open PySem

inductive Tgt where
  | n (i : Nat) | t (ts : List Tgt)
inductive ME where
  | c (x : PyData)
  | v (i : Nat)
  | fn (n : Nat)
  | tup (es : List ME)
  | lst (es : List ME)
  | bin (o : BOp) (a b : ME)
  | neg (a : ME)
  | cmp (o : COp) (a b : ME)
  | chn (o p : COp) (a b c : ME)
  | ch3 (o p q : COp) (a b c d : ME)
  | and (a b : ME)
  | or (a b : ME)
  | not (a : ME)
  | ife (t a b : ME)
  | sub (a i : ME)
  | slc (a : ME) (lo hi : Option ME)
  | rev (a : ME)
  | b1 (o : B1) (a : ME)
  | b2 (o : B2) (a b : ME)
  | isi (a : ME) (t : Ty)
  | lrg (a b : ME)
  | app (i : Nat) (e : ME)
  | ext (i : Nat) (e : ME)
  | popA (i : Nat) (e : ME)
  | idx (i : Nat) (e : ME)
  | call (f : Nat) (as : List ME)
  | callv (tb : List (Str × Nat)) (i : Nat) (as : List ME)
  | lc (own : List Nat) (tg : Tgt) (w : Nat) (its : List ME) (ifs : List ME) (e : ME)
  | bad
/-- how a loop's items are told (w): 0 the items of one; 1, 2, 3 a range; 4 enumerate; 5 zip -/
inductive MS where
  | asg (t : Tgt) (e : ME)
  | par (is : List Nat) (es : List ME)
  | sets (ts : List (Nat × ME)) (es : List ME)
  | mix (ts : List (Nat × Option ME)) (es : List ME)
  | unp (ts : List Tgt) (e : ME)
  | aug (i : Nat) (o : BOp) (e : ME)
  | augs (i : Nat) (ix : ME) (o : BOp) (e : ME)
  | exp (e : ME)
  | ite (t : ME) (a b : List MS)
  | ret (e : ME)
  | retN
  | for_ (tg : Tgt) (w : Nat) (its : List ME) (body : List MS)
  | whl (t : ME) (body : List MS)
  | brk
  | cnt
  | pas
  | rai (c : Nat) (e : ME)
  | tryw (b : List MS)
  | tryf (k : Bool) (b : List MS)
  | bad

/-- a def, by its arguments: what it gives, and what its parameters hold then -/
abbrev Sem := List W → Rs (Rv × List (Option W))
abbrev Tab := Nat → Option Sem

/-! ### targets -/
mutual
def asgT : Tgt → PyData → Env → Option Env
  | .n i, x, env => if i < env.length then some (env.set i (some (.d x))) else none
  | .t ts, .tuple xs, env => asgTs ts xs env
  | .t _, _, _ => none
def asgTs : List Tgt → List PyData → Env → Option Env
  | [], [], env => some env
  | t :: ts, x :: xs, env => match asgT t x env with
    | some env' => asgTs ts xs env'
    | none => none
  | _, _, _ => none
end

/-! ### walks -/
/-- the items of a thing that is walked; a name's list is locked -/
def lockR (env : Env) : Rv → Option (Env × List PyData × List Nat)
  | .v (.list xs) => some (env, xs, [])
  | .v (.tuple xs) => some (env, xs, [])
  | .n xs => some (env, xs, [])
  | .r xs => some (env, xs, [])
  | .p i => match env[i]? with
    | some (some (.l xs)) => some (env.set i (some (.k xs)), xs, [i])
    | some (some (.k xs)) => some (env, xs, [])
    | some (some (.d (.list xs))) => some (env, xs, [])
    | _ => none
  | _ => none
def unlock1 (env : Env) (i : Nat) : Option Env := match env[i]? with
  | some (some (.k xs)) => some (env.set i (some (.l xs)))
  | _ => none
def unlock : Env → List Nat → Option Env
  | env, [] => some env
  | env, i :: r => match unlock env r with
    | some env' => unlock1 env' i
    | none => none
def upto (lo : Int) : Nat → List PyData
  | 0 => []
  | n + 1 => .int lo :: upto (lo + 1) n
def stepto (lo c : Int) : Nat → List PyData
  | 0 => []
  | n + 1 => .int lo :: stepto (lo + c) c n
def numd (k : Int) : List PyData → List PyData
  | [] => []
  | x :: r => .tuple [.int k, x] :: numd (k + 1) r
def pairs : List PyData → List PyData → List PyData
  | x :: xs, y :: ys => .tuple [x, y] :: pairs xs ys
  | _, _ => []
def triples : List PyData → List PyData → List PyData → List PyData
  | x :: xs, y :: ys, z :: zs => .tuple [x, y, z] :: triples xs ys zs
  | _, _, _ => []
/-- what is walked is a list -/
def isLs : Rv → Bool
  | .v (.tuple _) => false
  | _ => true
def items1 (env : Env) (rs : List Rv) : Option (Env × List PyData × List Nat) := match rs with
  | [.v (.int b)] => if -1000000000000000 ≤ b ∧ b ≤ 1000000000000000 then some (env, upto 0 b.toNat, []) else none
  | _ => none
def items2 (env : Env) (rs : List Rv) : Option (Env × List PyData × List Nat) := match rs with
  | [.v (.int a), .v (.int b)] => if -1000000000000000 ≤ a ∧ a ≤ 1000000000000000 ∧ b ≤ 1000000000000000 ∧ -1000000000000000 ≤ b then some (env, upto a (b - a).toNat, []) else none
  | _ => none
def items3 (env : Env) (rs : List Rv) : Option (Env × List PyData × List Nat) := match rs with
  | [.v (.int a), .v (.int b), .v (.int c)] => if c ≠ 0 ∧ c.natAbs < 1073741824 ∧ Builtin.Range.small a b c = true then some (env, stepto a c (Builtin.Range.rangeSize a b c).toNat, []) else none
  | _ => none
def items4 (env : Env) (rs : List Rv) : Option (Env × List PyData × List Nat) := match rs with
  | [r] => match lockR env r with
    | some (env', xs, ls) => some (env', numd 0 xs, ls)
    | none => none
  | _ => none
def items5 (env : Env) (rs : List Rv) : Option (Env × List PyData × List Nat) := match rs with
  | [r, q] => match lockR env r with
    | some (env', xs, ls) => match lockR env' q with
      | some (env2, ys, ms) => some (env2, pairs xs ys, ls ++ ms)
      | none => none
    | none => none
  | _ => none
def items6 (env : Env) (rs : List Rv) : Option (Env × List PyData × List Nat) := match rs with
  | [r, q, t] => match lockR env r with
    | some (env', xs, ls) => match lockR env' q with
      | some (env2, ys, ms) => match lockR env2 t with
        | some (env3, zs, ns) => some (env3, triples xs ys zs, ls ++ (ms ++ ns))
        | none => none
      | none => none
    | none => none
  | _ => none
def items0 (env : Env) (rs : List Rv) : Option (Env × List PyData × List Nat) := match rs with
  | [r] => lockR env r
  | _ => none
def items : Nat → Env → List Rv → Option (Env × List PyData × List Nat)
  | 0 => items0
  | 1 => items1
  | 2 => items2
  | 3 => items3
  | 4 => items4
  | 5 => items5
  | 6 => items6
  | _ => fun _ _ => none
def wipeE (env : Env) : List Nat → Env
  | [] => env
  | i :: r => (wipeE env r).set i none
/-- behind a comprehension its own names are as they were -/
def restE (env0 env : Env) : List Nat → Env
  | [] => env
  | i :: r => (restE env0 env r).set i (env0.getD i none)

/-! ### calls -/
def lend (env : Env) : List Rv → List Nat → Option (List W)
  | [], _ => some []
  | .v x :: r, ls => (lend env r ls).map (.d x :: ·)
  | .n xs :: r, ls => (lend env r ls).map (.d (.list xs) :: ·)
  | .r xs :: r, ls => (lend env r ls).map (.r xs :: ·)
  | .f n :: r, ls => (lend env r ls).map (.f n :: ·)
  | .p i :: r, ls => if i ∈ ls then none else match env[i]? with
    | some (some (.l xs)) => (lend env r (i :: ls)).map (.l xs :: ·)
    | some (some (.d x)) => (lend env r ls).map (.d x :: ·)
    | _ => none
def back (env : Env) : List Rv → List (Option W) → Env
  | .p i :: r, o :: os => back (match env[i]? with
      | some (some (.l _)) => env.set i o
      | _ => env) r os
  | _ :: r, _ :: os => back env r os
  | _, _ => env
def noLent (env : Env) : List Rv → Bool
  | [] => true
  | .p i :: r => (match env[i]? with
      | some (some (.l _)) => false
      | _ => true) && noLent env r
  | _ :: r => noLent env r
def callW (s : Sem) (env : Env) (rs : List Rv) : Rs (Env × Rv) :=
  match lend env rs [] with
  | none => .bad
  | some ws => match s ws with
    | .ok (r, os) => if os.length = rs.length then .ok (back env rs os, r) else .bad
    | .ex c a => if noLent env rs then .ex c a else .bad
    | .bad => .bad

/-! ### expressions -/
/-- one turn of a comprehension after another -/
def lcGo (turn : PyData → Env → Rs (Env × Option PyData)) : List PyData → Env → List PyData → Rs (Env × List PyData)
  | [], env, acc => .ok (env, acc)
  | x :: xs, env, acc => match turn x env with
    | .ok (env', some y) => lcGo turn xs env' (acc ++ [y])
    | .ok (env', none) => lcGo turn xs env' acc
    | _ => .bad
def keepAll (env : Env) : List Rv → Option (Env × List PyData)
  | [] => some (env, [])
  | r :: rs => match keep env r with
    | some (env', x) => match keepAll env' rs with
      | some (env2, xs) => some (env2, x :: xs)
      | none => none
    | none => none
/-- the name has a list of its own -/
def isL (env : Env) (i : Nat) : Bool := match env[i]? with
  | some (some (.l _)) => true
  | _ => false
def truR (env : Env) (r : Rv) : Option Bool := (dat env r).bind tru
section
variable (G : Tab)
mutual
def ev : ME → Env → Rs (Env × Rv)
  | .c x, env => .ok (env, .v x)
  | .v i, env => match rdName env i with
    | some r => .ok (env, r)
    | none => .bad
  | .fn n, env => .ok (env, .f n)
  | .tup es, env => (evs es env).bind fun p => match keepAll p.1 p.2 with
    | some (env', xs) => if xs.length ≤ sizeLine then .ok (env', .v (.tuple xs)) else .bad
    | none => .bad
  | .lst es, env => (evs es env).bind fun p => match keepAll p.1 p.2 with
    | some (env', xs) => if xs.length ≤ sizeLine then .ok (env', .n xs) else .bad
    | none => .bad
  | .bin o a b, env => (ev a env).bind fun p => (ev b p.1).bind fun q => match dat q.1 p.2, dat q.1 q.2 with
    | some x, some y => (ofO (opBin o x y)).bind fun r => .ok (q.1, r)
    | _, _ => .bad
  | .neg a, env => (ev a env).bind fun p => match dat p.1 p.2 with
    | some (.int i) => .ok (p.1, .v (.int (-i)))
    | _ => .bad
  | .cmp o a b, env => (ev a env).bind fun p => (ev b p.1).bind fun q => match dat q.1 p.2, dat q.1 q.2 with
    | some x, some y => (ofO (opCmp o x y)).bind fun r => .ok (q.1, .v (.bool r))
    | _, _ => .bad
  | .chn o o' a b c, env => (ev a env).bind fun p => (ev b p.1).bind fun q => match dat q.1 p.2, dat q.1 q.2 with
    | some x, some y => (ofO (opCmp o x y)).bind fun r => if r then (ev c q.1).bind fun t => match dat t.1 q.2, dat t.1 t.2 with
        | some y', some z => (ofO (opCmp o' y' z)).bind fun r' => .ok (t.1, .v (.bool r'))
        | _, _ => .bad
      else .ok (q.1, .v (.bool false))
    | _, _ => .bad
  | .ch3 o o' o'' a b c d, env => (ev a env).bind fun p => (ev b p.1).bind fun q => match dat q.1 p.2, dat q.1 q.2 with
    | some x, some y => (ofO (opCmp o x y)).bind fun r => if r then (ev c q.1).bind fun t => match dat t.1 q.2, dat t.1 t.2 with
        | some y', some z => (ofO (opCmp o' y' z)).bind fun r' => if r' then (ev d t.1).bind fun u => match dat u.1 t.2, dat u.1 u.2 with
            | some z', some w => (ofO (opCmp o'' z' w)).bind fun r'' => .ok (u.1, .v (.bool r''))
            | _, _ => .bad
          else .ok (t.1, .v (.bool false))
        | _, _ => .bad
      else .ok (q.1, .v (.bool false))
    | _, _ => .bad
  | .and a b, env => (ev a env).bind fun p => match truR p.1 p.2 with
    | some true => ev b p.1
    | some false => .ok p
    | none => .bad
  | .or a b, env => (ev a env).bind fun p => match truR p.1 p.2 with
    | some true => .ok p
    | some false => ev b p.1
    | none => .bad
  | .not a, env => (ev a env).bind fun p => match truR p.1 p.2 with
    | some k => .ok (p.1, .v (.bool (!k)))
    | none => .bad
  | .ife t a b, env => (ev t env).bind fun p => match truR p.1 p.2 with
    | some true => ev a p.1
    | some false => ev b p.1
    | none => .bad
  | .sub a i, env => (ev a env).bind fun p => (ev i p.1).bind fun q => match dat q.1 p.2, dat q.1 q.2 with
    | some x, some y => (ofO (opSub x y)).bind fun z => .ok (q.1, .v z)
    | _, _ => .bad
  | .slc a lo hi, env => (ev a env).bind fun p => (evo lo p.1).bind fun q => (evo hi q.1).bind fun t => match dat t.1 p.2 with
    | some x => (ofO (opSlc q.2 t.2 x)).bind fun r => .ok (t.1, r)
    | _ => .bad
  | .rev a, env => (ev a env).bind fun p => match dat p.1 p.2 with
    | some (.list xs) => .ok (p.1, .n xs.reverse)
    | some (.tuple xs) => .ok (p.1, .v (.tuple xs.reverse))
    | _ => .bad
  | .b1 o a, env => (ev a env).bind fun p => match o, p.2 with
    | .list, .r xs => .ok (p.1, .n xs)
    | .len, .r xs => .ok (p.1, .v (.int xs.length))
    | _, _ => match dat p.1 p.2 with
      | some x => (ofO (opB1 o x)).bind fun r => .ok (p.1, r)
      | none => .bad
  | .b2 o a b, env => (ev a env).bind fun p => (ev b p.1).bind fun q => match dat q.1 p.2, dat q.1 q.2 with
    | some x, some y => (ofO (opB2 o x y)).bind fun r => .ok (q.1, .v r)
    | _, _ => .bad
  | .isi a t, env => (ev a env).bind fun p => match dat p.1 p.2 with
    | some x => (ofO (isTy t x)).bind fun b => .ok (p.1, .v (.bool b))
    | none => .bad
  | .lrg a b, env => (ev a env).bind fun p => (ev b p.1).bind fun q => match p.2, q.2 with
    | .v (.int i), .v (.int j) => if -1000000 ≤ i ∧ i ≤ 1000000 ∧ -1000000 ≤ j ∧ j ≤ 1000000 then .ok (q.1, .n (upto i (j - i).toNat)) else .bad
    | _, _ => .bad
  | .app i e, env => if isL env i then (ev e env).bind fun p => match keep p.1 p.2 with
    | some (env', x) => match env'[i]? with
      | some (some (.l xs)) => if xs.length < sizeLine then .ok (env'.set i (some (.l (xs ++ [x]))), .v .none) else .bad
      | _ => .bad
    | none => .bad
    else .bad
  | .ext i e, env => if isL env i then (ev e env).bind fun p => match p.1[i]?, dat p.1 p.2 with
    | some (some (.l xs)), some (.list ys) => if xs.length + ys.length ≤ sizeLine then .ok (p.1.set i (some (.l (xs ++ ys))), .v .none) else .bad
    | _, _ => .bad
    else .bad
  | .idx i e, env => if isL env i then (ev e env).bind fun p => match p.1[i]?, dat p.1 p.2 with
    | some (some (.l xs)), some y => match plc xs y with
      | some j => .ok (p.1, .v (.int (j : Nat)))
      | none => .bad
    | _, _ => .bad
    else .bad
  | .popA i e, env => if isL env i then (ev e env).bind fun p => match p.1[i]?, p.2 with
    | some (some (.l xs)), .v (.int k) => if 0 ≤ k then match xs[k.toNat]? with
        | some y => if k < 9223372036854775808 then .ok (p.1.set i (some (.l (xs.eraseIdx k.toNat))), .v y) else .bad
        | none => .bad
      else .bad
    | _, _ => .bad
    else .bad
  | .call f as, env => match G f with
    | none => .bad
    | some s => (evs as env).bind fun p => callW s p.1 p.2
  | .callv tb i as, env => match env[i]? with
    | some (some (.d (.dict [(.str x, .none)]))) => match tb.lookup x with
      | none => .bad
      | some f => match G f with
        | none => .bad
        | some s => (evs as env).bind fun p => callW s p.1 p.2
    | _ => .bad
  | .lc own tg w its ifs e, env => (evs its env).bind fun p => match items w p.1 p.2 with
    | none => .bad
    | some (env1, xs, ls) => match lcGo (fun x en => match asgT tg x en with
          | none => .bad
          | some en1 => (evt ifs en1).bind fun q => if q.2 then (ev e q.1).bind fun t => match keep t.1 t.2 with
              | some (en2, y) => .ok (wipeE en2 own, some y)
              | none => .bad
            else .ok (wipeE q.1 own, none)) xs (wipeE env1 own) [] with
        | .ok (env2, acc) => if acc.length ≤ sizeLine then match unlock (restE env1 env2 own) ls with
            | some env3 => .ok (env3, .n acc)
            | none => .bad
          else .bad
        | _ => .bad
  | .bad, _ => .bad
def evs : List ME → Env → Rs (Env × List Rv)
  | [], env => .ok (env, [])
  | e :: es, env => (ev e env).bind fun p => (evs es p.1).bind fun q => .ok (q.1, p.2 :: q.2)
/-- the tests of a comprehension -/
def evt : List ME → Env → Rs (Env × Bool)
  | [], env => .ok (env, true)
  | e :: es, env => (ev e env).bind fun p => match truR p.1 p.2 with
    | some true => evt es p.1
    | some false => .ok (p.1, false)
    | none => .bad
def evo : Option ME → Env → Rs (Env × Option Int)
  | none, env => .ok (env, none)
  | some e, env => (ev e env).bind fun p => match p.2 with
    | .v (.int i) => .ok (p.1, some i)
    | _ => .bad
end

/-! ### statements -/
inductive Ou where
  | nx (e : Env) | rt (e : Env) (r : Rv) | bk (e : Env) | ct (e : Env) | ex (c : Nat) (a : PyData) | bad
def Ou.of {α : Type} : Rs α → (α → Ou) → Ou
  | .ok a, g => g a
  | .ex c a, _ => .ex c a
  | .bad, _ => .bad
def forGo (turn : PyData → Env → Ou) : List PyData → Env → Ou
  | [], env => .nx env
  | x :: xs, env => match turn x env with
    | .nx e => forGo turn xs e
    | .ct e => forGo turn xs e
    | .bk e => .bk e
    | o => o
def whlGo (test : Env → Rs (Env × Bool)) (body : Env → Ou) : Nat → Env → Ou
  | 0, _ => .bad
  | n + 1, env => match test env with
    | .ok (e, true) => match body e with
      | .nx e' => whlGo test body n e'
      | .ct e' => whlGo test body n e'
      | .bk e' => .nx e'
      | o => o
    | .ok (e, false) => .nx e
    | .ex c a => .ex c a
    | .bad => .bad
/-- the lists that were walked are the names' own again -/
def opened (ls : List Nat) : Ou → Ou
  | .nx e => match unlock e ls with
    | some e' => .nx e'
    | none => .bad
  | .bk e => match unlock e ls with
    | some e' => .nx e'
    | none => .bad
  | .rt e r => match unlock e ls with
    | some e' => .rt e' r
    | none => .bad
  | .ct _ => .bad
  | .ex c a => .ex c a
  | .bad => .bad
/-- names' own lists that are stored anew are kept -/
def settle (env : Env) : List Rv → Option (Env × List Rv)
  | [] => some (env, [])
  | .p i :: rs => match keep env (.p i) with
    | some (e1, x) => match settle e1 rs with
      | some (e2, qs) => some (e2, .v x :: qs)
      | none => none
    | none => none
  | r :: rs => match settle env rs with
    | some (e2, qs) => some (e2, r :: qs)
    | none => none
def bindAll (env : Env) : List Nat → List Rv → Option Env
  | [], [] => some env
  | i :: is, r :: rs => match bindN env i r with
    | some e => bindAll e is rs
    | none => none
  | _, _ => none
/-- places of names' own lists are stored, one after another -/
def setAll (evl : ME → Env → Rs (Env × Rv)) : List (Nat × ME) → List PyData → Env → Option Env
  | [], [], env => some env
  | (i, ix) :: ts, y :: ys, env => if isL env i then match evl ix env with
    | .ok (e1, .v (.int k)) => match e1[i]? with
      | some (some (.l xs)) => match L2.ixN xs.length k with
        | some j => setAll evl ts ys (e1.set i (some (.l (xs.set j y))))
        | none => none
      | _ => none
    | _ => none
    else none
  | _, _, _ => none
/-- names and places are stored, one after another -/
def setMix (evl : ME → Env → Rs (Env × Rv)) : List (Nat × Option ME) → List PyData → Env → Option Env
  | [], [], env => some env
  | (i, none) :: ts, y :: ys, env => if i < env.length then setMix evl ts ys (env.set i (some (.d y))) else none
  | (i, some ix) :: ts, y :: ys, env => if isL env i then match evl ix env with
    | .ok (e1, .v (.int k)) => match e1[i]? with
      | some (some (.l xs)) => match L2.ixN xs.length k with
        | some j => setMix evl ts ys (e1.set i (some (.l (xs.set j y))))
        | none => none
      | _ => none
    | _ => none
    else none
  | _, _, _ => none
/-- name op= value -/
def augT : BOp → PyData → PyData → Option PyData
  | .add, .int i, .int j => some (.int (i + j))
  | .sub, .int i, .int j => some (.int (i - j))
  | .mul, .int i, .int j => if sml i || sml j then some (.int (i * j)) else none
  | .fdiv, .int i, .int j => if 0 < j ∧ j < 1073741824 then some (.int (i / j)) else none
  | .mod, .int i, .int j => if 0 < j then some (.int (i % j)) else none
  | .add, .str a, .str b => if a.length + b.length ≤ sizeLine then some (.str (a ++ b)) else none
  | _, _, _ => none
def turns : Nat := 1000000
/-- the word for an own error by its class and its field -/
def wordD : Nat → PyData → Option Str
  | 0, .int i => if i.natAbs.log2 < 1900 then some (Str.ofString "text " ++ Str.ofString (toString i)) else none
  | 1, .str s => if s.length ≤ 1000 then some (Str.ofString "deck " ++ s) else none
  | 2, .str s => if s.length ≤ 1000 then some (Str.ofString "argument " ++ s) else none
  | 3, .str s => if s.length ≤ 1000 then some (Str.ofString "paper " ++ s) else none
  | 4, .str s => if s.length ≤ 1000 then some (Str.ofString "many " ++ s) else none
  | _, _ => none
/-- no name has a list of its own -/
def noOwn (env : Env) : Bool := env.all fun w => match w with
  | some (.l _) => false
  | some (.k _) => false
  | _ => true
/-- a try whose errors are told by their word -/
def tryO (env : Env) : Ou → Ou
  | .ex c a => match wordD c a with
    | some x => .rt env (.v (.str x))
    | none => .bad
  | .rt e r => .rt e r
  | .nx e => .nx e
  | _ => .bad
/-- the word that a handler tells itself -/
def wordF (k : Bool) : Nat → PyData → Option Str
  | 1, .str s => if s.length ≤ 1000 then some (Str.ofString "deck " ++ s) else none
  | 2, .str s => if s.length ≤ 1000 then some (Str.ofString "argument " ++ s) else none
  | 3, .str s => if s.length ≤ 1000 then some (Str.ofString "" ++ s) else none
  | 4, .str s => if k = true ∧ s.length ≤ 1000 then some (Str.ofString "many " ++ s) else none
  | _, _ => none
def tryF (k : Bool) (env : Env) : Ou → Ou
  | .ex c a => match wordF k c a with
    | some x => .rt env (.v (.str x))
    | none => .bad
  | .rt e r => .rt e r
  | .nx e => .nx e
  | _ => .bad
mutual
def exs1 : MS → Env → Ou
  | .asg tg e, env => .of (ev G e env) fun p => match p.2 with
    | .v x => match asgT tg x p.1 with
      | some env' => .nx env'
      | none => .bad
    | _ => .bad
  | .par is es, env => .of (evs G es env) fun p => match settle p.1 p.2 with
    | some (e1, qs) => match bindAll e1 is qs with
      | some env' => .nx env'
      | none => .bad
    | none => .bad
  | .sets ts es, env => .of (evs G es env) fun p => match keepAll p.1 p.2 with
    | some (env1, ys) => match setAll (fun e en => ev G e en) ts ys env1 with
      | some env' => .nx env'
      | none => .bad
    | none => .bad
  | .mix ts es, env => .of (evs G es env) fun p => match keepAll p.1 p.2 with
    | some (env1, ys) => match setMix (fun e en => ev G e en) ts ys env1 with
      | some env' => .nx env'
      | none => .bad
    | none => .bad
  | .unp ts e, env => .of (ev G e env) fun p => match p.2 with
    | .n xs => match asgTs ts xs p.1 with
      | some env' => .nx env'
      | none => .bad
    | _ => .bad
  | .aug i o e, env => match rdName env i with
    | some (.v x) => .of (ev G e env) fun p => match dat p.1 p.2 with
      | some y => match augT o x y with
        | some z => if i < p.1.length then .nx (p.1.set i (some (.d z))) else .bad
        | none => .bad
      | none => .bad
    | _ => .bad
  | .augs i ix o e, env => if isL env i then .of (ev G ix env) fun p => match p.2 with
    | .v (.int k) => match p.1[i]? with
      | some (some (.l xs)) => if 0 ≤ k then match xs[k.toNat]? with
        | some x => .of (ev G e p.1) fun q => match dat q.1 q.2 with
          | some y => match augT o x y with
            | some z => match q.1[i]? with
              | some (some (.l ys)) => match L2.ixN ys.length k with
                | some j => .nx (q.1.set i (some (.l (ys.set j z))))
                | none => .bad
              | _ => .bad
            | none => .bad
          | none => .bad
        | none => .bad
        else .bad
      | _ => .bad
    | _ => .bad
    else .bad
  | .exp e, env => .of (ev G e env) fun p => .nx p.1
  | .ite t a b, env => .of (ev G t env) fun p => match truR p.1 p.2 with
    | some true => exs a p.1
    | some false => exs b p.1
    | none => .bad
  | .ret e, env => .of (ev G e env) fun p => .rt p.1 p.2
  | .retN, env => .rt env (.v .none)
  | .for_ tg w its body, env => .of (evs G its env) fun p => match items w p.1 p.2 with
    | none => .bad
    | some (env1, xs, ls) => opened ls (forGo (fun x e => match asgT tg x e with
        | none => .bad
        | some e1 => exs body e1) xs env1)
  | .whl t body, env => whlGo (fun e => (ev G t e).bind fun p => match truR p.1 p.2 with
      | some k => .ok (p.1, k)
      | none => .bad) (fun e => exs body e) turns env
  | .brk, env => .bk env
  | .cnt, env => .ct env
  | .pas, env => .nx env
  | .rai c e, env => .of (ev G e env) fun p => match p.2 with
    | .v x => .ex c x
    | _ => .bad
  | .tryw b, env => if noOwn env then tryO env (exs b env) else .bad
  | .tryf k b, env => if noOwn env then tryF k env (exs b env) else .bad
  | .bad, _ => .bad
def exs : List MS → Env → Ou
  | [], env => .nx env
  | s :: r, env => match exs1 s env with
    | .nx e => exs r e
    | o => o
end

/-! ### defs -/
mutual
/-- the names that a statement stores -/
def sto : MS → List Nat
  | .asg t _ => stoT t
  | .par is _ => is
  | .mix ts _ => ts.filterMap fun t => match t.2 with
    | none => some t.1
    | some _ => none
  | .unp ts _ => stoTs ts
  | .aug i _ _ => [i]
  | .ite _ a b => stos a ++ stos b
  | .for_ t _ _ b => stoT t ++ stos b
  | .whl _ b => stos b
  | .tryw b => stos b
  | .tryf _ b => stos b
  | _ => []
def stos : List MS → List Nat
  | [] => []
  | s :: r => sto s ++ stos r
def stoT : Tgt → List Nat
  | .n i => [i]
  | .t ts => stoTs ts
def stoTs : List Tgt → List Nat
  | [] => []
  | t :: r => stoT t ++ stoTs r
end
/-- an owned list at a parameter that the body stores anew is not looked at -/
def lentOk (st : List Nat) : Nat → List W → Bool
  | _, [] => true
  | i, .l _ :: r => !st.contains i && lentOk st (i + 1) r
  | i, _ :: r => lentOk st (i + 1) r
/-- what is handed back -/
def giveR (env : Env) (ar : Nat) : Rv → Option (Env × Rv)
  | .p i => match env[i]? with
    | some (some (.l xs)) => if i < ar then some (env.set i (some (.d (.list xs))), .v (.list xs)) else some (env.set i none, .n xs)
    | some (some (.d x)) => some (env, .v x)
    | _ => none
  | .r _ => none
  | r => some (env, r)
/-- a def by its body: ar parameters, many names -/
def runDef (ar many : Nat) (body : List MS) : Sem := fun ws =>
  if ws.length = ar ∧ lentOk (stos body) 0 ws = true then
    match exs G body (ws.map some ++ List.replicate (many - ar) none) with
    | .nx e => .ok (.v .none, e.take ar)
    | .rt e r => match giveR e ar r with
      | some (e', r') => .ok (r', e'.take ar)
      | none => .bad
    | .ex c a => .ex c a
    | _ => .bad
  else .bad
end
end Ev

/-! Ev, part C: what it means that names and heap hold what Ev says; steps. -/
namespace Ev
open PySem L2 PyProof.Rows

variable {K : PySem.W.Frag} {fa : Nat → V → Prop}

/-! ### data that nobody changes: its lists stand outside Z -/
mutual
inductive Fz (K : PySem.W.Frag) (H : Hp) (Z : Addr → Prop) : V → PyData → Prop
  | non : Fz K H Z V.non .none
  | bl (b : Bool) : Fz K H Z (V.bl b) (.bool b)
  | int (i : Int) : Fz K H Z (V.int i) (.int i)
  | str (x : Str) : Fz K H Z (V.str x) (.str x)
  | lst {a : Addr} {xs : List V} {ds : List PyData} : H a = some (HO.lst xs) → ¬ Z a → FzAll K H Z xs ds → Fz K H Z (V.ref a) (.list ds)
  | tup {a : Addr} {xs : List V} {ds : List PyData} : SqT K H a xs → FzAll K H Z xs ds → Fz K H Z (V.ref a) (.tuple ds)
  | fn {f : Addr} {x : Str} : PySem.W.nsIn K mainGlobals x = some (some (.ref f)) → Fz K H Z (V.ref f) (.dict [(.str x, .none)])
inductive FzAll (K : PySem.W.Frag) (H : Hp) (Z : Addr → Prop) : List V → List PyData → Prop
  | nil : FzAll K H Z [] []
  | cons {v : V} {vs : List V} {d : PyData} {ds : List PyData} : Fz K H Z v d → FzAll K H Z vs ds → FzAll K H Z (v :: vs) (d :: ds)
end

/-- Z holds lists alone -/
def Zl (Z : Addr → Prop) (H : Hp) : Prop := ∀ a, Z a → ∃ vs, H a = some (HO.lst vs)
/-- a step: outside Mu all stands; Z grows by new ones, loses of Mu alone -/
structure Stp (Mu Z : Addr → Prop) (H : Hp) (Mu' Z' : Addr → Prop) (H' : Hp) : Prop where
  keep : ∀ a o, H a = some o → ¬ Mu a → H' a = some o
  dom : ∀ a o, H a = some o → ∃ o', H' a = some o'
  zold : ∀ a, Z a → ¬ Mu a → Z' a
  znew : ∀ a, Z' a → Z a ∨ H a = none
  mnew : ∀ a, Mu' a → Mu a ∨ H a = none
  muz : ∀ a, Mu a → Z a
  zl : Zl Z H

theorem Stp.refl {Mu Z : Addr → Prop} {H : Hp} (m : ∀ a, Mu a → Z a) (z : Zl Z H) : Stp Mu Z H Mu Z H :=
  ⟨fun _ _ h _ => h, fun _ o h => ⟨o, h⟩, fun _ h _ => h, fun _ h => .inl h, fun _ h => .inl h, m, z⟩
theorem Stp.trans {Mu Z Mu1 Z1 Mu2 Z2 : Addr → Prop} {H H1 H2 : Hp} (s : Stp Mu Z H Mu1 Z1 H1) (t : Stp Mu1 Z1 H1 Mu2 Z2 H2) : Stp Mu Z H Mu2 Z2 H2 := by
  have nm : ∀ a o, H a = some o → ¬ Mu a → ¬ Mu1 a := fun a o h n q => by
    rcases s.mnew a q with q | q
    · exact n q
    · rw [h] at q; cases q
  have dn : ∀ a, H1 a = none → Mu a ∨ H a = none := fun a h => by
    cases q : H a with
    | none => exact .inr rfl
    | some o =>
      obtain ⟨o', q'⟩ := s.dom a o q
      rw [h] at q'; cases q'
  refine ⟨fun a o h n => t.keep a o (s.keep a o h n) (nm a o h n), fun a o h => (let ⟨o1, h1⟩ := s.dom a o h; t.dom a o1 h1), fun a h n => ?_, fun a h => ?_, fun a h => ?_, s.muz, s.zl⟩
  · obtain ⟨vs, q⟩ := s.zl a h
    exact t.zold a (s.zold a h n) (nm a _ q n)
  · rcases t.znew a h with q | q
    · exact s.znew a q
    · rcases dn a q with q | q
      · exact .inl (s.muz a q)
      · exact .inr q
  · rcases t.mnew a h with q | q
    · exact s.mnew a q
    · exact dn a q

theorem SqT.step {Mu Z Mu' Z' : Addr → Prop} {H H' : Hp} {a : Addr} {xs : List V} (s : Stp Mu Z H Mu' Z' H') (h : SqT K H a xs) : SqT K H' a xs := by
  have nl : ∀ b u, H b = some u → (∀ vs, u ≠ .lst vs) → H' b = some u := fun b u q n => s.keep b u q fun m => by
    obtain ⟨vs, e⟩ := s.zl b (s.muz b m)
    rw [q] at e
    exact n vs (Option.some.inj e)
  rcases h with (h | ⟨o, h⟩) | h
  · exact .inl (.inl (nl a _ h fun vs e => by cases e))
  · exact .inl (.inr ⟨o, nl a _ h fun vs e => by cases e⟩)
  · exact .inr h
mutual
theorem Fz.step {Mu Z Mu' Z' : Addr → Prop} {H H' : Hp} (s : Stp Mu Z H Mu' Z' H') : ∀ {v : V} {d : PyData}, Fz K H Z v d → Fz K H' Z' v d
  | _, _, .non => .non
  | _, _, .bl b => .bl b
  | _, _, .int i => .int i
  | _, _, .str x => .str x
  | _, _, .lst h n r => .lst (s.keep _ _ h fun m => n (s.muz _ m)) (fun z => by
      rcases s.znew _ z with q | q
      · exact n q
      · rw [h] at q; cases q) (FzAll.step s r)
  | _, _, .tup h r => .tup (SqT.step s h) (FzAll.step s r)
  | _, _, .fn h => .fn h
theorem FzAll.step {Mu Z Mu' Z' : Addr → Prop} {H H' : Hp} (s : Stp Mu Z H Mu' Z' H') : ∀ {vs : List V} {ds : List PyData}, FzAll K H Z vs ds → FzAll K H' Z' vs ds
  | _, _, .nil => .nil
  | _, _, .cons h r => .cons (Fz.step s h) (FzAll.step s r)
end
mutual
theorem Fz.dp {H : Hp} {Z : Addr → Prop} : ∀ {v : V} {d : PyData}, Fz K H Z v d → d.hasDict = false → Dp K H v d
  | _, _, .non, _ => .non
  | _, _, .bl b, _ => .bl b
  | _, _, .int i, _ => .int i
  | _, _, .str x, _ => .str x
  | _, _, .lst h _ r, n => .lst (.inl (.inl h)) (FzAll.dp r (by simpa only [PyData.hasDict] using n))
  | _, _, .tup h r, n => .tup h (FzAll.dp r (by simpa only [PyData.hasDict] using n))
  | _, _, .fn _, n => by simp [PyData.hasDict] at n
theorem FzAll.dp {H : Hp} {Z : Addr → Prop} : ∀ {vs : List V} {ds : List PyData}, FzAll K H Z vs ds → PyData.hasDictAll ds = false → DpAll K H vs ds
  | _, _, .nil, _ => .nil
  | _, _, .cons h r, n => by
    simp only [PyData.hasDictAll, Bool.or_eq_false_iff] at n
    exact .cons (Fz.dp h n.1) (FzAll.dp r n.2)
end
theorem nodict {d : PyData} (h : SeqAt.shaped d = true) : d.hasDict = false := PyData.hasDict_of_canLay d (SeqAt.canLay_of_shaped h)
section
variable {H : Hp} {Z : Addr → Prop}
theorem FzAll.length : ∀ {vs : List V} {ds : List PyData}, FzAll K H Z vs ds → vs.length = ds.length
  | _, _, .nil => rfl
  | _, _, .cons _ r => by rw [List.length_cons, List.length_cons, FzAll.length r]
theorem FzAll.append : ∀ {vs us : List V} {ds es : List PyData}, FzAll K H Z vs ds → FzAll K H Z us es → FzAll K H Z (vs ++ us) (ds ++ es)
  | _, _, _, _, .nil, q => q
  | _, _, _, _, .cons h r, q => .cons h (FzAll.append r q)
theorem FzAll.get : ∀ {vs : List V} {ds : List PyData} {i : Nat} {d : PyData}, FzAll K H Z vs ds → ds[i]? = some d → ∃ v, vs[i]? = some v ∧ Fz K H Z v d
  | _, _, _, _, .nil, e => by simp at e
  | _, _, 0, _, .cons h _, e => by simp at e; subst e; exact ⟨_, rfl, h⟩
  | _, _, i + 1, d, .cons _ r, e => by
    obtain ⟨v, h1, h2⟩ := FzAll.get (i := i) (d := d) r (by simpa using e)
    exact ⟨v, by simpa using h1, h2⟩
theorem FzAll.getV : ∀ {vs : List V} {ds : List PyData} {i : Nat} {v : V}, FzAll K H Z vs ds → vs[i]? = some v → ∃ d, ds[i]? = some d ∧ Fz K H Z v d
  | _, _, _, _, .nil, e => by simp at e
  | _, _, 0, _, .cons h _, e => by simp at e; subst e; exact ⟨_, rfl, h⟩
  | _, _, i + 1, d, .cons _ r, e => by
    obtain ⟨v, h1, h2⟩ := FzAll.getV (i := i) (v := d) r (by simpa using e)
    exact ⟨v, by simpa using h1, h2⟩
theorem FzAll.set {v : V} {d : PyData} (h : Fz K H Z v d) : ∀ {vs : List V} {ds : List PyData} (i : Nat), FzAll K H Z vs ds → FzAll K H Z (vs.set i v) (ds.set i d)
  | _, _, _, .nil => .nil
  | _, _, 0, .cons _ r => .cons h r
  | _, _, i + 1, .cons q r => .cons q (FzAll.set h i r)
theorem FzAll.take : ∀ {vs : List V} {ds : List PyData} (n : Nat), FzAll K H Z vs ds → FzAll K H Z (vs.take n) (ds.take n)
  | _, _, 0, _ => .nil
  | _, _, _ + 1, .nil => .nil
  | _, _, n + 1, .cons q r => .cons q (FzAll.take n r)
theorem FzAll.drop : ∀ {vs : List V} {ds : List PyData} (n : Nat), FzAll K H Z vs ds → FzAll K H Z (vs.drop n) (ds.drop n)
  | _, _, 0, r => r
  | _, _, _ + 1, .nil => .nil
  | _, _, n + 1, .cons _ r => FzAll.drop n r
theorem FzAll.erase : ∀ {vs : List V} {ds : List PyData} (n : Nat), FzAll K H Z vs ds → FzAll K H Z (vs.eraseIdx n) (ds.eraseIdx n)
  | _, _, _, .nil => .nil
  | _, _, 0, .cons _ r => r
  | _, _, n + 1, .cons q r => .cons q (FzAll.erase n r)
theorem FzAll.rev {vs : List V} {ds : List PyData} (h : FzAll K H Z vs ds) : FzAll K H Z vs.reverse ds.reverse := by
  induction vs generalizing ds with
  | nil => cases h; exact .nil
  | cons v vs ih =>
    cases h with
    | cons q r =>
      rw [List.reverse_cons, List.reverse_cons]
      exact (ih r).append (.cons q .nil)
theorem FzAll.cut {vs : List V} {ds : List PyData} {lo hi : Option Int} (h : FzAll K H Z vs ds) : FzAll K H Z (cutV vs lo hi) (Ev.cut ds lo hi) := by
  unfold cutV Ev.cut
  rw [h.length]
  exact (h.drop _).take _
theorem FzAll.rep {vs : List V} {ds : List PyData} (h : FzAll K H Z vs ds) : ∀ n : Nat, FzAll K H Z (List.replicate n vs).flatten (Ev.rep n ds)
  | 0 => .nil
  | n + 1 => by
    unfold Ev.rep
    rw [List.replicate_succ, List.replicate_succ, List.flatten_cons, List.flatten_cons]
    exact h.append (FzAll.rep h n)
theorem FzAll.ints : ∀ {vs : List V} {ds : List PyData} {is : List Int}, FzAll K H Z vs ds → asInts ds = some is → vs = is.map V.int
  | _, _, _, .nil, e => by cases e; rfl
  | _, _, is, .cons (d := d) h r, e => by
    cases d <;> try (simp [asInts] at e; done)
    rename_i i
    cases h
    simp only [asInts, Option.map_eq_some_iff] at e
    obtain ⟨js, e1, rfl⟩ := e
    rw [FzAll.ints r e1]
    rfl
theorem FzAll.ofInts : ∀ is : List Int, FzAll K H Z (is.map V.int) (is.map PyData.int)
  | [] => .nil
  | i :: r => .cons (.int i) (FzAll.ofInts r)
end

/-- data that is read now: as Fz, but a list at the top may be a name's own -/
inductive Ds (K : PySem.W.Frag) (H : Hp) (Z : Addr → Prop) : V → PyData → Prop
  | of {v : V} {d : PyData} : Fz K H Z v d → Ds K H Z v d
  | own {a : Addr} {xs : List V} {ds : List PyData} : H a = some (HO.lst xs) → FzAll K H Z xs ds → Ds K H Z (V.ref a) (.list ds)
theorem Ds.dp {H : Hp} {Z : Addr → Prop} {v : V} {d : PyData} (h : Ds K H Z v d) (n : d.hasDict = false) : Dp K H v d := by
  cases h with
  | of h => exact h.dp n
  | own h r => exact .lst (.inl (.inl h)) (r.dp (by simpa only [PyData.hasDict] using n))
theorem Ds.list {H : Hp} {Z : Addr → Prop} {v : V} {ds : List PyData} (h : Ds K H Z v (.list ds)) : ∃ a vs, v = V.ref a ∧ H a = some (.lst vs) ∧ FzAll K H Z vs ds := by
  cases h with
  | of h => cases h with | lst h _ r => exact ⟨_, _, rfl, h, r⟩
  | own h r => exact ⟨_, _, rfl, h, r⟩
theorem Ds.tuple {H : Hp} {Z : Addr → Prop} {v : V} {ds : List PyData} (h : Ds K H Z v (.tuple ds)) : ∃ a vs, v = V.ref a ∧ SqT K H a vs ∧ FzAll K H Z vs ds := by
  cases h with
  | of h => cases h with | tup h r => exact ⟨_, _, rfl, h, r⟩
theorem Ds.int {H : Hp} {Z : Addr → Prop} {v : V} {i : Int} (h : Ds K H Z v (.int i)) : v = .int i := by
  cases h with
  | of h => cases h; rfl
theorem Ds.str {H : Hp} {Z : Addr → Prop} {v : V} {i : Str} (h : Ds K H Z v (.str i)) : v = .str i := by
  cases h with
  | of h => cases h; rfl
theorem Ds.bool {H : Hp} {Z : Addr → Prop} {v : V} {i : Bool} (h : Ds K H Z v (.bool i)) : v = .bl i := by
  cases h with
  | of h => cases h; rfl
theorem Ds.none_ {H : Hp} {Z : Addr → Prop} {v : V} (h : Ds K H Z v .none) : v = .non := by
  cases h with
  | of h => cases h; rfl
theorem Ds.dict {H : Hp} {Z : Addr → Prop} {v : V} {kvs : List (PyData × PyData)} (h : Ds K H Z v (.dict kvs)) : ∃ f, v = V.ref f := by
  cases h with
  | of h => cases h with | fn h => exact ⟨_, rfl⟩

/-! ### what a name holds, what an expression gave -/
/-- a list that is known and only read -/
def RdL (K : PySem.W.Frag) (H : Hp) (a : Addr) (vs : List V) : Prop := (∃ o, H a = some (HO.frz o (HO.lst vs))) ∨
  ∃ (o : Obj) (its : Array Value) (n : Nat), K.lookup a = some o ∧ o.cls = .type "list" ∧ o.dict = none ∧ o.data = .seq its n ∧ its.size ≤ sizeLine ∧ Vals vs its.toList
def Wok (K : PySem.W.Frag) (fa : Nat → V → Prop) (H : Hp) (Z : Addr → Prop) : W → V → Prop
  | .d x, v => Fz K H Z v x
  | .l xs, v => ∃ a vs, v = V.ref a ∧ H a = some (.lst vs) ∧ Z a ∧ FzAll K H Z vs xs
  | .k xs, v => ∃ a vs, v = V.ref a ∧ H a = some (.lst vs) ∧ Z a ∧ FzAll K H Z vs xs
  | .r xs, v => ∃ a vs, v = V.ref a ∧ RdL K H a vs ∧ FzAll K H Z vs xs
  | .f n, v => fa n v
/-- the names whose list is theirs -/
def ownd (env : Env) (i : Nat) : Prop := ∃ xs, env[i]? = some (some (W.l xs)) ∨ env[i]? = some (some (W.k xs))
/-- the addresses that may be changed -/
def Own (σ : L2.St) (env : Env) (a : Addr) : Prop := ∃ (i : Nat) (xs : List PyData), env[i]? = some (some (W.l xs)) ∧ σ[i]? = some (some (V.ref a))
structure Eok (K : PySem.W.Frag) (fa : Nat → V → Prop) (H : Hp) (Z : Addr → Prop) (σ : L2.St) (env : Env) : Prop where
  nm : ∀ (i : Nat) (w : W), env[i]? = some (some w) → ∃ v, σ[i]? = some (some v) ∧ Wok K fa H Z w v
  apart : ∀ (i j : Nat) (a : Addr), ownd env i → ownd env j → σ[i]? = some (some (V.ref a)) → σ[j]? = some (some (V.ref a)) → i = j
  zl : Zl Z H
  len : env.length = σ.length
theorem Eok.muz {H : Hp} {Z : Addr → Prop} {σ : L2.St} {env : Env} (h : Eok K fa H Z σ env) : ∀ a, Own σ env a → Z a := fun a ⟨i, xs, e1, e2⟩ => by
  obtain ⟨v, e3, b, vs, rfl, _, hz, _⟩ := h.nm i _ e1
  rw [e2] at e3
  cases e3
  exact hz
theorem RdL.sq {H : Hp} {a : Addr} {vs : List V} (h : RdL K H a vs) : SqL K H a vs := by
  rcases h with h | h
  · exact .inl (.inr h)
  · exact .inr h
theorem RdL.step {Mu Z Mu' Z' : Addr → Prop} {H H' : Hp} {a : Addr} {vs : List V} (s : Stp Mu Z H Mu' Z' H') (h : RdL K H a vs) : RdL K H' a vs := by
  rcases h with ⟨o, h⟩ | h
  · refine .inl ⟨o, s.keep a _ h fun m => ?_⟩
    obtain ⟨ys, e⟩ := s.zl a (s.muz a m)
    rw [h] at e
    cases e
  · exact .inr h
end Ev

/-! Ev, part D: the readings of expressions. -/
namespace Ev
open PySem L2 PyProof.Rows

variable {K : PySem.W.Frag} {fa : Nat → V → Prop}
def RvOk (K : PySem.W.Frag) (fa : Nat → V → Prop) (H0 H : Hp) (Z : Addr → Prop) (σ : L2.St) : Rv → V → Prop
  | .v x, v => Fz K H Z v x
  | .n xs, v => ∃ a vs, v = V.ref a ∧ H a = some (HO.lst vs) ∧ Z a ∧ H0 a = none ∧ FzAll K H Z vs xs
  | .p i, v => σ[i]? = some (some v)
  | .r xs, v => ∃ a vs, v = V.ref a ∧ RdL K H a vs ∧ FzAll K H Z vs xs
  | .f n, v => fa n v

/-- between: from H0 (names env0, owned Z0) to H -/
structure Mid (K : PySem.W.Frag) (fa : Nat → V → Prop) (σ : L2.St) (H0 : Hp) (Z0 : Addr → Prop) (env0 : Env) (H : Hp) (Z : Addr → Prop) (env : Env) : Prop where
  st : Stp (Own σ env0) Z0 H0 (Own σ env) Z H
  mo : ∀ a, Own σ env a → Own σ env0 a
  mw : ∀ i, ownd env i → ownd env0 i
  sl : ∀ (i : Nat) (a : Addr), ownd env i → σ[i]? = some (some (V.ref a)) → ∃ vs, H0 a = some (HO.lst vs)
  kk : ∀ (i : Nat) (xs : List PyData), env[i]? = some (some (W.k xs)) → env0[i]? = some (some (W.k xs))
  ok : Eok K fa H Z σ env
section
variable {σ : L2.St} {H0 H H1 H2 : Hp} {Z0 Z Z1 Z2 : Addr → Prop} {env0 env env1 env2 : Env} {v : V} {r : Rv} {x : PyData}
theorem Eok.slot (h : Eok K fa H Z σ env) {i : Nat} {a : Addr} (o : ownd env i) (e : σ[i]? = some (some (V.ref a))) : Z a ∧ ∃ vs, H a = some (HO.lst vs) := by
  obtain ⟨xs, o | o⟩ := o
  · obtain ⟨v, e1, b, vs, rfl, h1, h2, _⟩ := h.nm i _ o
    rw [e] at e1; cases e1; exact ⟨h2, vs, h1⟩
  · obtain ⟨v, e1, b, vs, rfl, h1, h2, _⟩ := h.nm i _ o
    rw [e] at e1; cases e1; exact ⟨h2, vs, h1⟩
theorem Mid.refl (h : Eok K fa H Z σ env) : Mid K fa σ H Z env H Z env := ⟨.refl h.muz h.zl, fun _ h => h, fun _ h => h, fun _ _ o e => (h.slot o e).2, fun _ _ h => h, h⟩
theorem Mid.trans (a : Mid K fa σ H0 Z0 env0 H1 Z1 env1) (b : Mid K fa σ H1 Z1 env1 H2 Z2 env2) : Mid K fa σ H0 Z0 env0 H2 Z2 env2 :=
  ⟨a.st.trans b.st, fun x h => a.mo x (b.mo x h), fun i h => a.mw i (b.mw i h), fun i x h e => a.sl i x (b.mw i h) e, fun i xs h => a.kk i xs (b.kk i xs h), b.ok⟩
theorem Mid.old (m : Mid K fa σ H0 Z0 env0 H Z env) {a : Addr} (h : Own σ env a) : ∃ vs, H0 a = some (HO.lst vs) := m.st.zl a (m.st.muz a (m.mo a h))
theorem Mid.fresh (m : Mid K fa σ H0 Z0 env0 H Z env) {a : Addr} (h : H a = none) : H0 a = none := by
  cases q : H0 a with
  | none => rfl
  | some o =>
    obtain ⟨o', q'⟩ := m.st.dom a o q
    rw [h] at q'; cases q'
/-- what was given stays so over a further step -/
theorem RvOk.on (m : Mid K fa σ H0 Z0 env0 H Z env) (n : Mid K fa σ H Z env H1 Z1 env1) (h : RvOk K fa H0 H Z σ r v) : RvOk K fa H0 H1 Z1 σ r v := by
  cases r with
  | v x => exact Fz.step n.st h
  | n xs =>
    obtain ⟨a, vs, rfl, h1, h2, h3, h4⟩ := h
    have na : ¬ Own σ env a := fun q => by
      obtain ⟨us, e⟩ := m.old q
      rw [h3] at e; cases e
    exact ⟨a, vs, rfl, n.st.keep a _ h1 na, n.st.zold a h2 na, h3, FzAll.step n.st h4⟩
  | p i => exact h
  | r xs =>
    obtain ⟨a, vs, rfl, h1, h4⟩ := h
    exact ⟨a, vs, rfl, RdL.step n.st h1, FzAll.step n.st h4⟩
  | f k => exact h
theorem RvOk.back (m : Mid K fa σ H0 Z0 env0 H Z env) (h : RvOk K fa H H1 Z1 σ r v) : RvOk K fa H0 H1 Z1 σ r v := by
  cases r with
  | v x => exact h
  | n xs =>
    obtain ⟨a, vs, rfl, h1, h2, h3, h4⟩ := h
    exact ⟨a, vs, rfl, h1, h2, m.fresh h3, h4⟩
  | p i => exact h
  | r xs => exact h
  | f k => exact h
theorem RvOk.ds (e : Eok K fa H Z σ env) (h : RvOk K fa H0 H Z σ r v) (d : dat env r = some x) : Ds K H Z v x := by
  cases r with
  | v y => cases d; exact .of h
  | n xs =>
    cases d
    obtain ⟨a, vs, rfl, h1, _, _, h4⟩ := h
    exact .own h1 h4
  | p i =>
    unfold dat at d
    dsimp only at d
    split at d
    · rename_i w hw
      obtain ⟨v', e1, e2⟩ := e.nm i w hw
      have h : σ[i]? = some (some v) := h
      rw [h] at e1
      cases e1
      cases w with
      | d y => cases d; exact .of e2
      | l xs =>
        cases d
        obtain ⟨a, vs, rfl, h1, _, h4⟩ := e2
        exact .own h1 h4
      | k xs =>
        cases d
        obtain ⟨a, vs, rfl, h1, _, h4⟩ := e2
        exact .own h1 h4
      | r xs => cases d
      | f k => cases d
    · cases d
  | r xs => cases d
  | f k => cases d

/-! ### less is owned -/
def less (Z : Addr → Prop) (a : Addr) : Addr → Prop := fun b => Z b ∧ b ≠ a
mutual
theorem Fz.sub {H : Hp} {Z Z' : Addr → Prop} (s : ∀ a, Z' a → Z a) : ∀ {v : V} {d : PyData}, Fz K H Z v d → Fz K H Z' v d
  | _, _, .non => .non
  | _, _, .bl b => .bl b
  | _, _, .int i => .int i
  | _, _, .str x => .str x
  | _, _, .lst h n r => .lst h (fun z => n (s _ z)) (FzAll.sub s r)
  | _, _, .tup h r => .tup h (FzAll.sub s r)
  | _, _, .fn h => .fn h
theorem FzAll.sub {H : Hp} {Z Z' : Addr → Prop} (s : ∀ a, Z' a → Z a) : ∀ {vs : List V} {ds : List PyData}, FzAll K H Z vs ds → FzAll K H Z' vs ds
  | _, _, .nil => .nil
  | _, _, .cons h r => .cons (Fz.sub s h) (FzAll.sub s r)
end
theorem Wok.sub {a : Addr} {w : W} (h : Wok K fa H Z w v) (n : (∃ xs, w = .l xs ∨ w = .k xs) → v ≠ V.ref a) : Wok K fa H (less Z a) w v := by
  have s : ∀ b, less Z a b → Z b := fun b q => q.1
  cases w with
  | d x => exact Fz.sub s h
  | l xs =>
    obtain ⟨b, vs, rfl, h1, h2, h3⟩ := h
    exact ⟨b, vs, rfl, h1, ⟨h2, fun e => n ⟨xs, .inl rfl⟩ (by rw [e])⟩, FzAll.sub s h3⟩
  | k xs =>
    obtain ⟨b, vs, rfl, h1, h2, h3⟩ := h
    exact ⟨b, vs, rfl, h1, ⟨h2, fun e => n ⟨xs, .inr rfl⟩ (by rw [e])⟩, FzAll.sub s h3⟩
  | r xs =>
    obtain ⟨b, vs, rfl, h1, h3⟩ := h
    exact ⟨b, vs, rfl, h1, FzAll.sub s h3⟩
  | f k => exact h
theorem RvOk.sub {a : Addr} (h : RvOk K fa H0 H Z σ r v) (n : (∃ xs, r = .n xs) → v ≠ V.ref a) : RvOk K fa H0 H (less Z a) σ r v := by
  have s : ∀ b, less Z a b → Z b := fun b q => q.1
  cases r with
  | v x => exact Fz.sub s h
  | n xs =>
    obtain ⟨b, vs, rfl, h1, h2, h3, h4⟩ := h
    exact ⟨b, vs, rfl, h1, ⟨h2, fun e => n ⟨xs, rfl⟩ (by rw [e])⟩, h3, FzAll.sub s h4⟩
  | p i => exact h
  | r xs =>
    obtain ⟨b, vs, rfl, h1, h3⟩ := h
    exact ⟨b, vs, rfl, h1, FzAll.sub s h3⟩
  | f k => exact h
theorem Mid.less {a : Addr} (m : Mid K fa σ H0 Z0 env0 H Z env) (h : H0 a = none ∨ Own σ env0 a) (mo : ∀ b, Own σ env1 b → Own σ env b) (mw : ∀ i, ownd env1 i → ownd env i) (kk : ∀ (i : Nat) (xs : List PyData), env1[i]? = some (some (W.k xs)) → env[i]? = some (some (W.k xs))) (ok : Eok K fa H (less Z a) σ env1) : Mid K fa σ H0 Z0 env0 H (less Z a) env1 := by
  refine ⟨⟨m.st.keep, m.st.dom, fun b hz hm => ⟨m.st.zold b hz hm, fun e => ?_⟩, fun b hz => m.st.znew b hz.1, fun b q => m.st.mnew b (mo b q), m.st.muz, m.st.zl⟩, fun b q => m.mo b (mo b q), fun i q => m.mw i (mw i q), fun i b q e => m.sl i b (mw i q) e, fun i xs q => m.kk i xs (kk i xs q), ok⟩
  subst e
  rcases h with h | h
  · obtain ⟨vs, e⟩ := m.st.zl b hz
    rw [h] at e; cases e
  · exact hm h
theorem Eok.lessNew {a : Addr} (e : Eok K fa H Z σ env) (n : ∀ i, ownd env i → σ[i]? ≠ some (some (V.ref a))) : Eok K fa H (Ev.less Z a) σ env := by
  refine ⟨fun i w h => ?_, e.apart, fun b hb => e.zl b hb.1, e.len⟩
  obtain ⟨v, e1, e2⟩ := e.nm i w h
  refine ⟨v, e1, e2.sub fun hw ev => n i ?_ (by rw [e1, ev])⟩
  obtain ⟨xs, hw | hw⟩ := hw
  · exact ⟨xs, .inl (by rw [h, hw])⟩
  · exact ⟨xs, .inr (by rw [h, hw])⟩
/-- a new list that was given is frozen -/
theorem Mid.freeze (m : Mid K fa σ H0 Z0 env0 H Z env) {a : Addr} (h : H0 a = none) : Mid K fa σ H0 Z0 env0 H (Ev.less Z a) env :=
  m.less (.inl h) (fun _ q => q) (fun _ q => q) (fun _ _ q => q) (m.ok.lessNew fun i o e => by
    obtain ⟨vs, q⟩ := m.sl i a o e
    rw [h] at q; cases q)
theorem getElem?_set_cases {α : Type} {l : List α} {i j : Nat} {x y : α} (h : (l.set i x)[j]? = some y) : (j = i ∧ y = x ∧ i < l.length) ∨ (j ≠ i ∧ l[j]? = some y) := by
  by_cases e : j = i
  · subst e
    have hl : j < l.length := by
      have := (List.getElem?_eq_some_iff.mp h).1
      simpa using this
    rw [List.getElem?_set_self hl] at h
    cases h
    exact .inl ⟨rfl, rfl, hl⟩
  · rw [List.getElem?_set_ne (Ne.symm e)] at h
    exact .inr ⟨e, h⟩
theorem ownd_set {w : Option W} {i j : Nat} (n : ∀ xs, w ≠ some (.l xs) ∧ w ≠ some (.k xs)) (h : ownd (env.set i w) j) : ownd env j ∧ j ≠ i := by
  obtain ⟨xs, h | h⟩ := h
  · rcases getElem?_set_cases h with ⟨_, e, _⟩ | ⟨ne, e⟩
    · exact absurd e.symm (n xs).1
    · exact ⟨⟨xs, .inl e⟩, ne⟩
  · rcases getElem?_set_cases h with ⟨_, e, _⟩ | ⟨ne, e⟩
    · exact absurd e.symm (n xs).2
    · exact ⟨⟨xs, .inr e⟩, ne⟩
theorem Own_set {w : Option W} {i : Nat} {a : Addr} (n : ∀ xs, w ≠ some (.l xs)) (h : Own σ (env.set i w) a) : Own σ env a := by
  obtain ⟨j, xs, e1, e2⟩ := h
  rcases getElem?_set_cases e1 with ⟨_, e, _⟩ | ⟨ne, e⟩
  · exact absurd e.symm (n xs)
  · exact ⟨j, xs, e, e2⟩
/-- a name's own list is frozen -/
theorem Mid.freezeN (m : Mid K fa σ H0 Z0 env0 H Z env) {i : Nat} {xs : List PyData} (h : env[i]? = some (some (.l xs))) : ∃ a vs, σ[i]? = some (some (V.ref a)) ∧ H a = some (HO.lst vs) ∧ FzAll K H (Ev.less Z a) vs xs ∧ (∃ us, H0 a = some (HO.lst us)) ∧
    Mid K fa σ H0 Z0 env0 H (Ev.less Z a) (env.set i (some (.d (.list xs)))) := by
  obtain ⟨v, e1, a, vs, rfl, h1, h2, h3⟩ := m.ok.nm i _ h
  have s : ∀ b, Ev.less Z a b → Z b := fun b q => q.1
  have fz : FzAll K H (Ev.less Z a) vs xs := h3.sub s
  have nd : ∀ ys, (some (W.d (.list xs)) : Option W) ≠ some (.l ys) ∧ (some (W.d (.list xs)) : Option W) ≠ some (.k ys) := fun ys => ⟨fun q => (by cases q), fun q => (by cases q)⟩
  refine ⟨a, vs, e1, h1, fz, m.old ⟨i, xs, h, e1⟩, m.less (.inr (m.mo a ⟨i, xs, h, e1⟩)) (fun b q => Own_set (fun ys => (nd ys).1) q) (fun j q => (ownd_set nd q).1) (fun j ys q => by
    rcases getElem?_set_cases q with ⟨_, e, _⟩ | ⟨_, e⟩
    · cases e
    · exact e) ?_⟩
  refine ⟨fun j w hj => ?_, fun j1 j2 b o1 o2 => m.ok.apart j1 j2 b (ownd_set nd o1).1 (ownd_set nd o2).1, fun b hb => m.ok.zl b hb.1, by rw [List.length_set]; exact m.ok.len⟩
  rcases getElem?_set_cases hj with ⟨rfl, e, _⟩ | ⟨ne, e⟩
  · cases e
    exact ⟨V.ref a, e1, Fz.lst h1 (fun z => z.2 rfl) fz⟩
  · obtain ⟨v', e3, e4⟩ := m.ok.nm j w e
    refine ⟨v', e3, e4.sub fun hw ev => ne ?_⟩
    refine m.ok.apart j i a ?_ ⟨xs, .inl h⟩ (by rw [e3, ev]) e1
    obtain ⟨ys, hw | hw⟩ := hw
    · exact ⟨ys, .inl (by rw [e, hw])⟩
    · exact ⟨ys, .inr (by rw [e, hw])⟩
/-- what was given is kept elsewhere -/
theorem Mid.keep (m : Mid K fa σ H0 Z0 env0 H Z env) (h : RvOk K fa H0 H Z σ r v) (k : Ev.keep env r = some (env1, x)) :
    ∃ Z1, Mid K fa σ H0 Z0 env0 H Z1 env1 ∧ Fz K H Z1 v x ∧ (∀ a, Z1 a → Z a) ∧ (∀ a, Z a → H0 a = none → ((∃ ys, r = .n ys) → v ≠ V.ref a) → Z1 a) := by
  cases r with
  | v y => cases k; exact ⟨Z, m, h, fun _ q => q, fun _ q _ _ => q⟩
  | n xs =>
    cases k
    obtain ⟨a, vs, rfl, h1, h2, h3, h4⟩ := h
    exact ⟨_, m.freeze h3, .lst h1 (fun z => z.2 rfl) (h4.sub fun b q => q.1), fun _ q => q.1, fun b q _ n => ⟨q, fun e => n ⟨_, rfl⟩ (by rw [e])⟩⟩
  | p i =>
    have h : σ[i]? = some (some v) := h
    unfold Ev.keep at k
    dsimp only at k
    split at k
    · rename_i xs hw
      cases k
      obtain ⟨a, vs, e1, h1, fz, ⟨us, q0⟩, m1⟩ := m.freezeN hw
      rw [h] at e1; cases e1
      exact ⟨_, m1, .lst h1 (fun z => z.2 rfl) fz, fun _ q => q.1, fun b q n _ => ⟨q, fun e => by rw [e, q0] at n; cases n⟩⟩
    · rename_i y hw
      cases k
      obtain ⟨v', e1, e2⟩ := m.ok.nm i _ hw
      rw [h] at e1; cases e1
      exact ⟨Z, m, e2, fun _ q => q, fun _ q _ _ => q⟩
    · cases k
  | r xs => cases k
  | f n => cases k
end

/-! ### the reading of an expression -/
/-- what is wanted of an own error: its class's number, its field -/
abbrev XW := Nat → PyData → L2.St → Hp → Prop
/-- what is wanted behind an outcome -/
def Fin (K : PySem.W.Frag) (fa : Nat → V → Prop) (X : XW) (σ : L2.St) (H0 : Hp) (Z0 : Addr → Prop) (env0 : Env) (res : Rs (Env × Rv)) (Q : VK) : Prop :=
  match res with
  | .ok p => ∀ Z' H' v, Mid K fa σ H0 Z0 env0 H' Z' p.1 → RvOk K fa H0 H' Z' σ p.2 v → Q v H'
  | .ex c a => ∀ Mu' Z' H', Stp (Own σ env0) Z0 H0 Mu' Z' H' → X c a σ H'
  | .bad => False
/-- the reading: the names hold what env says, the outcome is m's -/
def tM (K : PySem.W.Frag) (fa : Nat → V → Prop) (X : XW) (m : Env → Rs (Env × Rv)) : TE := fun σ H Q => ∃ Z env, Eok K fa H Z σ env ∧ Fin K fa X σ H Z env (m env) Q
abbrev tE (K : PySem.W.Frag) (fa : Nat → V → Prop) (X : XW) (G : Tab) (e : ME) : TE := tM K fa X (ev G e)
section
variable {X : XW} {G : Tab} {σ : L2.St} {H0 H : Hp} {Z0 Z : Addr → Prop} {env0 env : Env} {Q : VK}
/-- the first part is evaluated, the rest goes on from there -/
theorem Fin.first {m : Env → Rs (Env × Rv)} {k : Env × Rv → Rs (Env × Rv)} (M : Mid K fa σ H0 Z0 env0 H Z env) (h : Fin K fa X σ H0 Z0 env0 ((m env).bind k) Q) :
    tM K fa X m σ H (fun x H1 => ∃ Z1 env1 r, Mid K fa σ H0 Z0 env0 H1 Z1 env1 ∧ Mid K fa σ H Z env H1 Z1 env1 ∧ RvOk K fa H H1 Z1 σ r x ∧ Fin K fa X σ H0 Z0 env0 (k (env1, r)) Q) := by
  refine ⟨Z, env, M.ok, ?_⟩
  cases e : m env with
  | bad => rw [e] at h; exact h
  | ex c a =>
    rw [e] at h
    exact fun Mu' Z' H' s => h Mu' Z' H' (M.st.trans s)
  | ok p =>
    rw [e] at h
    intro Z' H' v m1 hr
    exact ⟨Z', p.1, p.2, M.trans m1, m1, hr, h⟩
end
end Ev

set_option maxHeartbeats 4000000
/-! Ev, part E0: tuples times small numbers; any and all of tuples and of ints. -/
namespace Ev
open PySem L2 PyProof.Rows
theorem mul1_meets (l : Addr) (items : Array Value) (n : Nat) (dd : Option Addr) (sl : Array (Option Value)) (x : Int) (u : Tok) (c0 : (decide (x < -(2 ^ 63)) || decide (x ≥ 2 ^ 63)) = false) (c1 : (items.isEmpty || x == 1) = true) :
    Meets (Builtin.«tuple.__mul__» ⟨[.ref l, .int x u], []⟩) (fun _ R s => s.heap.get? l = some { cls := .type "tuple", dict := dd, data := .seq items n, slots := sl } ∧
      R (.ok (.ret (Value.ref l))) s) :=
  .of_wp fun prog w A R s h => by
    obtain ⟨hp, g, d, tk, os⟩ := s
    obtain ⟨hl, h⟩ := h
    have f1 := AutoSeq1.idx_int
    wp_walk using wpAny_loadPart' hl
    repeat (first
      | (refine wpAny_ite_false (decide_eq_false (by rw [c0]; exact Bool.false_ne_true)) ?_; wp_walk using wpAny_loadPart' hl)
      | (refine wpAny_ite_true (decide_eq_true c1) ?_; wp_walk using wpAny_loadPart' hl))
    exact ⟨_, rfl, h⟩
theorem mul0_meets (l : Addr) (items : Array Value) (n : Nat) (dd : Option Addr) (sl : Array (Option Value)) (x : Int) (u : Tok) (c0 : (decide (x < -(2 ^ 63)) || decide (x ≥ 2 ^ 63)) = false) (c1 : (items.isEmpty || x == 1) = false) (c2 : (decide (x ≤ 0) || items.isEmpty) = true) :
    Meets (Builtin.«tuple.__mul__» ⟨[.ref l, .int x u], []⟩) (fun _ R s => s.heap.get? l = some { cls := .type "tuple", dict := dd, data := .seq items n, slots := sl } ∧
      R (.ok (.ret (Value.ref s.heap.objs.size))) { s with heap := s.heap.push { cls := Value.type "tuple", data := Data.seq #[] }, toks := s.toks }) :=
  .of_wp fun prog w A R s h => by
    obtain ⟨hp, g, d, tk, os⟩ := s
    obtain ⟨hl, h⟩ := h
    have f1 := AutoSeq1.idx_int
    wp_walk using wpAny_loadPart' hl
    repeat (first
      | (refine wpAny_ite_false (decide_eq_false (by rw [c0]; exact Bool.false_ne_true)) ?_; wp_walk using wpAny_loadPart' hl)
      | (refine wpAny_ite_false (decide_eq_false (by rw [c1]; exact Bool.false_ne_true)) ?_; wp_walk using wpAny_loadPart' hl)
      | (refine wpAny_ite_true (decide_eq_true c2) ?_; wp_walk using wpAny_loadPart' hl))
    all_goals first | exact ⟨_, rfl, h⟩ | exact Nat.zero_le _
section
variable {X : Cx}
/-- a tuple several times, by the size of what is made -/
theorem op_repW : OpR X (binaryOp .Mult) (fun x y H Q => ∃ l k xs, x = V.ref l ∧ y = .int k ∧ SqT X.K H l xs ∧ xs ≠ [] ∧ 2 ≤ k ∧ k ≤ 100000 ∧ k.toNat * xs.length ≤ 1000000 ∧ ∀ p, H p = none → Q (.ref p) (upd H p (.tup (List.replicate k.toNat xs).flatten))) := by
  intro pins s σ H x y v u Q I rx ry h
  obtain ⟨l, k, xs, rfl, rfl, hT, hne, h1, h2, hz, q⟩ := h
  cases rx
  obtain ⟨t, rfl⟩ := ry
  obtain ⟨its, r, ⟨⟨cls, dd, data, sl⟩, ho, hc, n, hd⟩, hs⟩ := I.tuple hT
  simp only at hc hd
  subst hc hd
  have hle : its.length = xs.length := r.length.symm
  have hi : its.toArray.isEmpty = false := by
    cases its with
    | nil => exact absurd (List.eq_nil_of_length_eq_zero hle.symm) hne
    | cons a b => rfl
  have sl2 : sizeLine = 16777216 := by decide
  have flen : ∀ {α : Type} (ys : List α), ys.length = xs.length → (List.replicate k.toNat ys).flatten.length ≤ sizeLine := fun ys e => by
    rw [PyProof.Rows.lm_len_rep_flat, e]; omega
  have hm : ((its.toArray.size : Nat) : Int) * k ≤ 1000000 := by
    have e : ((its.toArray.size : Nat) : Int) * k = ((k.toNat * xs.length : Nat) : Int) := by
      rw [List.size_toArray, hle, Int.natCast_mul, Int.mul_comm, Int.toNat_of_nonneg (by omega)]
    omega
  have c0 : (decide (k < -(2 ^ 63)) || decide (k ≥ 2 ^ 63)) = false := by
    rw [decide_eq_false (by omega), decide_eq_false (by omega)] <;> rfl
  have c1 : (its.toArray.isEmpty || k == 1) = false := by
    rw [hi, Bool.false_or, beq_eq_false_iff_ne]
    omega
  have c2 : (decide (k ≤ 0) || its.toArray.isEmpty) = false := by
    rw [hi, Bool.or_false, decide_eq_false (by omega)]
  have c4 : Builtin.Tuple.tupleTooMany (((its.toArray.size : Nat) : Int) * k) = false := by
    unfold Builtin.Tuple.tupleTooMany
    exact decide_eq_false (by omega)
  refine wpAny_binaryOp_repeat_ref (T := "tuple") (U := "int") (by decide) ⟨_, ho, rfl⟩ (fun s' => typeIs_int s' k t) noFill_tuple_mul PySem.F.fills_int_mul PySem.F.slot_int_rmul repeat_tuple PySem.F.slot_int_index.lookup
    (call_meets PySem.F.slot_int_rmul (typeIs_int s k t) PySem.F.entry_int_rmul (PySem.F.args_int_rmul_2 _ _) (int_rmul_tuple k t l its.toArray n dd sl)
      ⟨ho, rfl, ⟨_, ho, rfl⟩, call_meets PySem.F.slot_tuple_mul ⟨_, ho, rfl⟩ PySem.F.entry_tuple_mul (PySem.F.args_tuple_mul_2 _ _) (tuple_mulW l its.toArray n dd sl k t c0 c1 c2 (by omega) c4 (by rw [size_rep, List.size_toArray]; exact flen its hle)) ⟨ho, ?_⟩⟩)
  rw [size_rep]
  exact ⟨.ref s.heap.objs.size, _, I.laid (t' := s.toks) (o := .tup (List.replicate k.toNat xs).flatten) (fun b ob q => Heap.get?_push_of_some _ q) (Nat.le_refl _) ⟨flen xs rfl, _, r.rep k.toNat, IsTup.new _ _⟩, rfl, q _ (I.hok.fresh (Nat.le_refl _))⟩
theorem op_repS : OpR X (binaryOp .Mult) (fun x y H Q => ∃ l k xs, x = V.ref l ∧ y = .int k ∧ SqT X.K H l xs ∧ -(2 ^ 63) ≤ k ∧ k < 2 ^ 63 ∧ ((xs = [] ∨ k = 1) ∧ Q (.ref l) H ∨ xs ≠ [] ∧ k ≤ 0 ∧ ∀ p, H p = none → Q (.ref p) (upd H p (.tup [])))) := by
  intro pins s σ H x y v u Q I rx ry h
  obtain ⟨l, k, xs, rfl, rfl, hT, h1, h2, hq⟩ := h
  cases rx
  obtain ⟨t, rfl⟩ := ry
  obtain ⟨its, r, ⟨⟨cls, dd, data, sl⟩, ho, hc, n, hd⟩, hs⟩ := I.tuple hT
  simp only at hc hd
  subst hc hd
  have hle : its.length = xs.length := r.length.symm
  have c0 : (decide (k < -(2 ^ 63)) || decide (k ≥ 2 ^ 63)) = false := by
    rw [decide_eq_false (by omega), decide_eq_false (by omega)] <;> rfl
  have he : xs ≠ [] → its.toArray.isEmpty = false := fun hne => by
    cases its with
    | nil => exact absurd (List.eq_nil_of_length_eq_zero hle.symm) hne
    | cons a b => rfl
  refine wpAny_binaryOp_repeat_ref (T := "tuple") (U := "int") (by decide) ⟨_, ho, rfl⟩ (fun s' => typeIs_int s' k t) noFill_tuple_mul F.fills_int_mul F.slot_int_rmul repeat_tuple F.slot_int_index.lookup
    (call_meets F.slot_int_rmul (typeIs_int s k t) F.entry_int_rmul (F.args_int_rmul_2 _ _) (int_rmul_tuple k t l its.toArray n dd sl) ⟨ho, rfl, ⟨_, ho, rfl⟩, ?_⟩)
  by_cases c : (its.toArray.isEmpty || k == 1) = true
  · refine call_meets F.slot_tuple_mul ⟨_, ho, rfl⟩ F.entry_tuple_mul (F.args_tuple_mul_2 _ _) (mul1_meets l its.toArray n dd sl k t c0 c) ⟨ho, ?_⟩
    rcases hq with ⟨_, q⟩ | ⟨hne, hk, _⟩
    · exact ⟨.ref l, H, I, rfl, q⟩
    · rw [he hne, Bool.false_or] at c
      have := eq_of_beq c
      omega
  · have c1 : (its.toArray.isEmpty || k == 1) = false := by simpa using c
    rcases hq with ⟨hx, q⟩ | ⟨hne, hk, q⟩
    · exfalso
      rw [Bool.or_eq_false_iff] at c1
      rcases hx with rfl | rfl
      · have e : its = [] := List.eq_nil_of_length_eq_zero hle
        rw [e] at c1
        exact absurd c1.1 (by decide)
      · exact absurd c1.2 (by decide)
    · have c2 : (decide (k ≤ 0) || its.toArray.isEmpty) = true := by rw [decide_eq_true hk] <;> rfl
      refine call_meets F.slot_tuple_mul ⟨_, ho, rfl⟩ F.entry_tuple_mul (F.args_tuple_mul_2 _ _) (mul0_meets l its.toArray n dd sl k t c0 c1 c2) ⟨ho, ?_⟩
      refine ⟨.ref s.heap.objs.size, _, I.laid (t' := s.toks) (o := .tup []) (fun b ob q => Heap.get?_push_of_some _ q) (Nat.le_refl _) ?_, rfl, q _ (I.hok.fresh (Nat.le_refl _))⟩
      exact ⟨Nat.zero_le _, [], .nil, IsTup.new _ _⟩

/-! ### any, all -/
/-- the truth of a bool, an int -/
def TrV : V → Bool → Prop
  | .bl x, b => b = x
  | .int i, b => b = (i != 0)
  | _, _ => False
theorem truth_of {prog : Program} {w : World} {A : Around} {vs : List V} {bs : List Bool} {its : List Value} (r : Vals vs its) (h : Paired TrV vs bs) : TruthOf prog w A (fun i v => its.toArray[i]? = some v) (fun i => bs.getD i false) := fun i u s Q E hv hq => by
  have hv' : its[i]? = some u := by simpa using hv
  have key : ∀ {vs : List V} {bs : List Bool} {its : List Value} {i : Nat}, Vals vs its → Paired TrV vs bs → its[i]? = some u → ∃ v, RelV v u ∧ TrV v (bs.getD i false) := by
    intro vs
    induction vs with
    | nil => intro bs its i r _ e; cases r; simp at e
    | cons v vs ih =>
      intro bs its i r h e
      cases r with
      | cons r1 r2 =>
        cases h with
        | cons h1 h2 =>
          cases i with
          | zero => simp at e; subst e; exact ⟨v, r1, by simpa using h1⟩
          | succ i =>
            obtain ⟨v', q1, q2⟩ := ih r2 h2 (by simpa using e)
            exact ⟨v', q1, by simpa using q2⟩
  obtain ⟨v, q1, q2⟩ := key r h hv'
  have hq : Q (bs.getD i false) s := hq
  cases v with
  | bl x =>
    cases (show u = Value.bool x from q1)
    rw [show bs.getD i false = x from q2] at hq
    exact wpAny_truthy_bool hq
  | int j =>
    obtain ⟨t, rfl⟩ := q1
    rw [show bs.getD i false = (j != 0) from q2] at hq
    exact PyProof.Rows.truthy_int hq
  | _ => exact q2.elim
theorem paired_len {α β : Type} {R : α → β → Prop} : ∀ {xs : List α} {ys : List β}, Paired R xs ys → xs.length = ys.length
  | _, _, .nil => rfl
  | _, _, .cons _ h => by rw [List.length_cons, List.length_cons, paired_len h]
theorem iter_anyT {prog : Program} {w : World} {A : Around} {E : Value → Shared → Prop} {s : Shared} {l : Addr} {items : Array Value} {Q : Value → Shared → Prop} (hl : s.heap.IsTuple l items)
    (h : ∀ s₂ : Shared, s₂ = { s with heap := s.heap.push { cls := .type "tuple_iterator", data := .fields #[.ref l, .int 0 0] } } →
      (s₂.heap.IsTupleIter s.heap.objs.size l 0 ∧ s₂.heap.IsTuple l items) → l ≠ s.heap.objs.size → Q (.ref s.heap.objs.size) s₂) : wpAny (model prog w) A (pyIter (.ref l)) Q E s := by
  have hlt : l < s.heap.objs.size := by obtain ⟨_, e, _⟩ := hl; exact Heap.lt_size e
  exact wpAny_pyIter_tuple hl (h _ rfl ⟨⟨_, Heap.get?_push_size _ rfl, rfl, rfl⟩, hl.at fun o e => Heap.get?_push_of_some _ e⟩ (Nat.ne_of_lt hlt))
def rTr (K : PySem.W.Frag) (f : List Bool → Bool) : List V → Hp → VK → Prop := fun vs H Q => ∃ (a : Addr) (xs : List V) (bs : List Bool), vs = [V.ref a] ∧ (SqL K H a xs ∨ SqT K H a xs) ∧ Paired TrV xs bs ∧ Q (.bl (f bs)) H
theorem cr_anyX (hc : X.calm = true) : CallR X (.builtin "any") (rTr X.K fun bs => bs.any id) := by
  intro pins s σ H vs us Q I r h
  obtain ⟨a, xs, bs, rfl, hs, hb, q⟩ := h
  rw [Vals.ref1 r]
  rcases hs with hs | hs
  · obtain ⟨its, rv, hl, _⟩ := I.list hs
    refine call_any_walk (iter_any hl.isList fun s₂ e2 st hne => ?_)
    subst e2
    refine ⟨_, _, _, _, _, _, _, rfl, Walks.list (A := X.A.in1) (I.ok.hd hc) _ a hne its.toArray, st, truth_of rv hb, fun h' tk hk => ?_⟩
    refine ⟨.bl _, H, I.kept fun b o eo => hk b o (fun hmem => ?_) (Heap.get?_push_of_some _ eo), ?_, q⟩
    · rcases List.mem_cons.mp hmem with e1 | hmem
      · exact absurd (e1 ▸ Heap.lt_size eo) (Nat.lt_irrefl _)
      · cases hmem
    · show Value.bool _ = Value.bool (bs.any id)
      rw [← L2.any_range, List.size_toArray, ← rv.length, paired_len hb]
  · obtain ⟨its, rv, hl, _⟩ := I.tuple hs
    refine call_any_walk (iter_anyT hl fun s₂ e2 st hne => ?_)
    subst e2
    refine ⟨_, _, _, _, _, _, _, rfl, Walks.tuple (A := X.A.in1) (I.ok.hd hc) _ a hne its.toArray, st, truth_of rv hb, fun h' tk hk => ?_⟩
    refine ⟨.bl _, H, I.kept fun b o eo => hk b o (fun hmem => ?_) (Heap.get?_push_of_some _ eo), ?_, q⟩
    · rcases List.mem_cons.mp hmem with e1 | hmem
      · exact absurd (e1 ▸ Heap.lt_size eo) (Nat.lt_irrefl _)
      · cases hmem
    · show Value.bool _ = Value.bool (bs.any id)
      rw [← L2.any_range, List.size_toArray, ← rv.length, paired_len hb]
theorem cr_allX (hc : X.calm = true) : CallR X (.builtin "all") (rTr X.K fun bs => bs.all id) := by
  intro pins s σ H vs us Q I r h
  obtain ⟨a, xs, bs, rfl, hs, hb, q⟩ := h
  rw [Vals.ref1 r]
  rcases hs with hs | hs
  · obtain ⟨its, rv, hl, _⟩ := I.list hs
    refine call_all_walk (iter_any hl.isList fun s₂ e2 st hne => ?_)
    subst e2
    refine ⟨_, _, _, _, _, _, _, rfl, Walks.list (A := X.A.in1) (I.ok.hd hc) _ a hne its.toArray, st, truth_of rv hb, fun h' tk hk => ?_⟩
    refine ⟨.bl _, H, I.kept fun b o eo => hk b o (fun hmem => ?_) (Heap.get?_push_of_some _ eo), ?_, q⟩
    · rcases List.mem_cons.mp hmem with e1 | hmem
      · exact absurd (e1 ▸ Heap.lt_size eo) (Nat.lt_irrefl _)
      · cases hmem
    · show Value.bool _ = Value.bool (bs.all id)
      rw [← L2.all_range, List.size_toArray, ← rv.length, paired_len hb]
  · obtain ⟨its, rv, hl, _⟩ := I.tuple hs
    refine call_all_walk (iter_anyT hl fun s₂ e2 st hne => ?_)
    subst e2
    refine ⟨_, _, _, _, _, _, _, rfl, Walks.tuple (A := X.A.in1) (I.ok.hd hc) _ a hne its.toArray, st, truth_of rv hb, fun h' tk hk => ?_⟩
    refine ⟨.bl _, H, I.kept fun b o eo => hk b o (fun hmem => ?_) (Heap.get?_push_of_some _ eo), ?_, q⟩
    · rcases List.mem_cons.mp hmem with e1 | hmem
      · exact absurd (e1 ▸ Heap.lt_size eo) (Nat.lt_irrefl _)
      · cases hmem
    · show Value.bool _ = Value.bool (bs.all id)
      rw [← L2.all_range, List.size_toArray, ← rv.length, paired_len hb]
end
end Ev

/-! Ev, part E: new objects; operations by values. -/
namespace Ev
open PySem L2 PyProof.Rows

variable {K : PySem.W.Frag} {fa : Nat → V → Prop}
def more (Z : Addr → Prop) (p : Addr) : Addr → Prop := fun b => Z b ∨ b = p
theorem Stp.newT {Mu Z : Addr → Prop} {H : Hp} {p : Addr} {o : HO} (m : ∀ a, Mu a → Z a) (z : Zl Z H) (h : H p = none) : Stp Mu Z H Mu Z (upd H p o) :=
  ⟨fun a u e _ => by rw [upd_ne (ne_of_none e h)]; exact e, fun a u e => ⟨u, by rw [upd_ne (ne_of_none e h)]; exact e⟩, fun _ q _ => q, fun _ q => .inl q, fun _ q => .inl q, m, z⟩
theorem Stp.newL {Mu Z : Addr → Prop} {H : Hp} {p : Addr} {o : HO} (m : ∀ a, Mu a → Z a) (z : Zl Z H) (h : H p = none) : Stp Mu Z H Mu (more Z p) (upd H p o) :=
  ⟨fun a u e _ => by rw [upd_ne (ne_of_none e h)]; exact e, fun a u e => ⟨u, by rw [upd_ne (ne_of_none e h)]; exact e⟩, fun _ q _ => .inl q, fun a q => by
    rcases q with q | q
    · exact .inl q
    · exact .inr (by rw [q]; exact h), fun _ q => .inl q, m, z⟩
section
variable {σ : L2.St} {H0 H : Hp} {Z0 Z : Addr → Prop} {env0 env : Env} {p : Addr} {o : HO} {vs : List V} {ds : List PyData}
/-- names whose lists stand as they stood -/
theorem Eok.stay {Mu Mu' Z' : Addr → Prop} {H' : Hp} (e : Eok K fa H Z σ env) (s : Stp Mu Z H Mu' Z' H') (zl : Zl Z' H') (k : ∀ (i : Nat) (a : Addr), ownd env i → σ[i]? = some (some (V.ref a)) → H' a = H a ∧ Z' a) : Eok K fa H' Z' σ env := by
  refine ⟨fun i w h => ?_, e.apart, zl, e.len⟩
  obtain ⟨v, e1, e2⟩ := e.nm i w h
  refine ⟨v, e1, ?_⟩
  cases w with
  | d x => exact Fz.step s e2
  | l xs =>
    obtain ⟨a, us, rfl, h1, h2, h3⟩ := e2
    obtain ⟨k1, k2⟩ := k i a ⟨xs, .inl h⟩ e1
    exact ⟨a, us, rfl, k1.trans h1, k2, FzAll.step s h3⟩
  | k xs =>
    obtain ⟨a, us, rfl, h1, h2, h3⟩ := e2
    obtain ⟨k1, k2⟩ := k i a ⟨xs, .inr h⟩ e1
    exact ⟨a, us, rfl, k1.trans h1, k2, FzAll.step s h3⟩
  | r xs =>
    obtain ⟨a, us, rfl, h1, h3⟩ := e2
    exact ⟨a, us, rfl, RdL.step s h1, FzAll.step s h3⟩
  | f n => exact e2
theorem Zl.newT (z : Zl Z H) (h : H p = none) : Zl Z (upd H p o) := fun a q => by
  obtain ⟨us, e⟩ := z a q
  exact ⟨us, by rw [upd_ne (ne_of_none e h)]; exact e⟩
theorem Zl.newL (z : Zl Z H) (h : H p = none) : Zl (more Z p) (upd H p (.lst vs)) := fun a q => by
  rcases q with q | q
  · exact Zl.newT z h a q
  · exact ⟨vs, by rw [q]; exact upd_same⟩
theorem Mid.newT (m : Mid K fa σ H0 Z0 env0 H Z env) (h : H p = none) : Mid K fa σ H0 Z0 env0 (upd H p o) Z env := by
  have s : Stp (Own σ env) Z H (Own σ env) Z (upd H p o) := .newT m.ok.muz m.ok.zl h
  refine ⟨m.st.trans s, m.mo, m.mw, m.sl, m.kk, m.ok.stay s (m.ok.zl.newT h) fun i a q e => ?_⟩
  obtain ⟨h1, us, h2⟩ := m.ok.slot q e
  exact ⟨upd_ne (ne_of_none h2 h), h1⟩
theorem Mid.newL (m : Mid K fa σ H0 Z0 env0 H Z env) (h : H p = none) : Mid K fa σ H0 Z0 env0 (upd H p (.lst vs)) (more Z p) env := by
  have s : Stp (Own σ env) Z H (Own σ env) (more Z p) (upd H p (.lst vs)) := .newL m.ok.muz m.ok.zl h
  refine ⟨m.st.trans s, m.mo, m.mw, m.sl, m.kk, m.ok.stay s (m.ok.zl.newL h) fun i a q e => ?_⟩
  obtain ⟨h1, us, h2⟩ := m.ok.slot q e
  exact ⟨upd_ne (ne_of_none h2 h), .inl h1⟩
theorem FzAll.newT (z : Zl Z H) (h : H p = none) (f : FzAll K H Z vs ds) : FzAll K (upd H p o) Z vs ds := f.step (Stp.newT (Mu := fun _ => False) (fun _ q => q.elim) z h)
theorem FzAll.newL (z : Zl Z H) (h : H p = none) (f : FzAll K H Z vs ds) : FzAll K (upd H p o) (more Z p) vs ds := f.step (Stp.newL (Mu := fun _ => False) (fun _ q => q.elim) z h)
end

/-! ### an operation on values that changes nothing -/
/-- what it gives: data that stands, a new tuple, a new list -/
inductive Gv (K : PySem.W.Frag) (H : Hp) (Z : Addr → Prop) (Q : VK) : Rv → Prop
  | v {x : PyData} {v : V} : Fz K H Z v x → Q v H → Gv K H Z Q (.v x)
  | t {ds : List PyData} {vs : List V} : FzAll K H Z vs ds → (∀ p, H p = none → Q (.ref p) (upd H p (.tup vs))) → Gv K H Z Q (.v (.tuple ds))
  | n {ds : List PyData} {vs : List V} : FzAll K H Z vs ds → (∀ p, H p = none → Q (.ref p) (upd H p (.lst vs))) → Gv K H Z Q (.n ds)
/-- the wish that an operation must serve, whatever it gives -/
def Wsh (K : PySem.W.Frag) (H : Hp) (Z : Addr → Prop) (Q : VK) (r : Rv) : Prop := match r with
  | .v x => (∀ v, Fz K H Z v x → Q v H) ∧ (∀ ds vs, x = .tuple ds → FzAll K H Z vs ds → ∀ p, H p = none → Q (.ref p) (upd H p (.tup vs)))
  | .n xs => ∀ vs, FzAll K H Z vs xs → ∀ p, H p = none → Q (.ref p) (upd H p (.lst vs))
  | _ => False
section
variable {X : XW} {σ : L2.St} {H0 H : Hp} {Z0 Z : Addr → Prop} {env0 env : Env} {Q : VK} {r : Rv}
theorem Fin.wsh (m : Mid K fa σ H0 Z0 env0 H Z env) (h : Fin K fa X σ H0 Z0 env0 (.ok (env, r)) Q) (hr : (∃ x, r = .v x) ∨ ∃ xs, r = .n xs) : Wsh K H Z Q r := by
  rcases hr with ⟨x, rfl⟩ | ⟨xs, rfl⟩
  · refine ⟨fun v f => h Z H v m f, fun ds vs e f p hp => ?_⟩
    subst e
    exact h Z _ _ (m.newT hp) (.tup (.inl (.inl upd_same)) (f.newT m.ok.zl hp))
  · intro vs f p hp
    exact h _ _ _ (m.newL hp) ⟨p, vs, rfl, upd_same, .inr rfl, m.fresh hp, f.newL m.ok.zl hp⟩
end
/-- two operands: what a rule of two values asks -/
def rOp2 (K : PySem.W.Frag) (op : PyData → PyData → Option Rv) : R2 := fun x y H Q => ∃ Z dx dy r, Zl Z H ∧ Ds K H Z x dx ∧ Ds K H Z y dy ∧ op dx dy = some r ∧ Wsh K H Z Q r
def rOp1 (K : PySem.W.Frag) (op : PyData → Option Rv) : V → Hp → VK → Prop := fun x H Q => ∃ Z dx r, Zl Z H ∧ Ds K H Z x dx ∧ op dx = some r ∧ Wsh K H Z Q r
theorem OpR.weak {X : Cx} {f : Value → Value → PySem.Sem Value} {r r' : R2} (h : OpR X f r) (w : ∀ x y H Q, r' x y H Q → r x y H Q) : OpR X f r' := fun pins s σ H x y v u Q I rx ry q => h pins s σ H x y v u Q I rx ry (w _ _ _ _ q)

section
variable {X : Cx}
theorem op2_add : OpR X (binaryOp .Add) (rOp2 X.K (opBin .add)) := by
  refine OpR.weak (OpR.or op_add (OpR.or op_add_str (OpR.or op_catA op_cat))) fun x y H Q h => ?_
  obtain ⟨Z, dx, dy, r, zl, hx, hy, e, w⟩ := h
  cases dx <;> cases dy <;> simp only [opBin] at e <;> try (cases e; done)
  · rename_i i j
    cases e
    exact .inl ⟨i, j, hx.int, hy.int, w.1 _ (.int _)⟩
  · rename_i a b
    split at e
    · rename_i hl
      cases e
      exact .inr (.inl ⟨a, b, hx.str, hy.str, hl, w.1 _ (.str _)⟩)
    · cases e
  · rename_i xs ys
    split at e
    · rename_i hl
      cases e
      obtain ⟨a, vs, rfl, h1, f1⟩ := hx.list
      obtain ⟨b, us, rfl, h2, f2⟩ := hy.list
      exact .inr (.inr (.inr ⟨a, b, vs, us, rfl, rfl, h1, h2, by rw [f1.length, f2.length]; exact hl, fun p hp => w _ (f1.append f2) p hp⟩))
    · cases e
  · rename_i xs ys
    split at e
    · rename_i hl
      cases e
      obtain ⟨a, vs, rfl, h1, f1⟩ := hx.tuple
      obtain ⟨b, us, rfl, h2, f2⟩ := hy.tuple
      refine .inr (.inr (.inl ⟨a, b, vs, us, rfl, rfl, h1, h2, by rw [f1.length, f2.length]; exact hl, fun ev => ?_, fun _ ev => ?_, fun _ _ p hp => ?_⟩))
      · subst ev
        cases f1
        exact w.1 _ (.tup h2 f2)
      · subst ev
        cases f2
        rw [List.append_nil] at w
        exact w.1 _ (.tup h1 f1)
      · exact w.2 _ _ rfl (f1.append f2) p hp
    · cases e
theorem op2_sub : OpR X (binaryOp .Sub) (rOp2 X.K (opBin .sub)) := by
  refine OpR.weak op_sub fun x y H Q h => ?_
  obtain ⟨Z, dx, dy, r, zl, hx, hy, e, w⟩ := h
  cases dx <;> cases dy <;> simp only [opBin] at e <;> try (cases e; done)
  rename_i i j
  cases e
  exact ⟨i, j, hx.int, hy.int, w.1 _ (.int _)⟩
theorem op2_mul : OpR X (binaryOp .Mult) (rOp2 X.K (opBin .mul)) := by
  refine OpR.weak (OpR.or (show OpR X (binaryOp .Mult) (rI (fun i j => L2.CMul i j ∨ L2.CMulW i j) fun i j => .int (i * j)) from opI fun _ _ _ _ _ _ _ hc q => mul_int q (hc.elim L2.CMul.ok L2.CMulW.ok)) (OpR.or op_repW (OpR.or op_repS op_rep))) fun x y H Q h => ?_
  obtain ⟨Z, dx, dy, r, zl, hx, hy, e, w⟩ := h
  cases dx <;> cases dy <;> simp only [opBin] at e <;> try (cases e; done)
  · rename_i i j
    split at e
    · rename_i hs
      cases e
      refine .inl ⟨i, j, hx.int, hy.int, ?_, w.1 _ (.int _)⟩
      rw [Bool.or_eq_true, Bool.or_eq_true] at hs
      simp only [sml, Bool.and_eq_true, decide_eq_true_eq] at hs
      exact hs
    · cases e
  · rename_i xs k
    split at e
    · rename_i hl
      cases e
      obtain ⟨a, vs, rfl, h1, f1⟩ := hx.list
      exact .inr (.inr (.inr ⟨a, k, vs, rfl, hy.int, h1, hl.1, hl.2.1, by rw [f1.length]; exact hl.2.2, fun p hp => w _ (f1.rep _) p hp⟩))
    · cases e
  · rename_i xs k
    split at e
    · rename_i hl
      cases e
      obtain ⟨a, vs, rfl, h1, f1⟩ := hx.tuple
      by_cases c1 : vs = [] ∨ k = 1
      · refine .inr (.inr (.inl ⟨a, k, vs, rfl, hy.int, h1, hl.1, by omega, .inl ⟨c1, w.1 _ ?_⟩⟩))
        have e : rep k.toNat xs = xs := by
          rcases c1 with rfl | rfl
          · cases f1
            unfold rep
            generalize k.toNat = n
            induction n with
            | zero => rfl
            | succ n ih => rw [List.replicate_succ, List.flatten_cons, ih] <;> rfl
          · show rep 1 xs = xs
            simp [rep]
        rw [e]
        exact .tup h1 f1
      · by_cases c2 : k ≤ 0
        · refine .inr (.inr (.inl ⟨a, k, vs, rfl, hy.int, h1, hl.1, by omega, .inr ⟨fun e => c1 (.inl e), c2, fun p hp => ?_⟩⟩))
          have e : rep k.toNat xs = [] := by
            rw [show k.toNat = 0 by omega]
            rfl
          rw [e] at w
          exact w.2 _ _ rfl .nil p hp
        · exact .inr (.inl ⟨a, k, vs, rfl, hy.int, h1, fun z => c1 (.inl z), by omega, hl.2.1, by rw [f1.length]; exact hl.2.2, fun p hp => w.2 _ _ rfl (f1.rep _) p hp⟩)
    · cases e
theorem op2_fdiv : OpR X (binaryOp .FloorDiv) (rOp2 X.K (opBin .fdiv)) := by
  refine OpR.weak (show OpR X (binaryOp .FloorDiv) (rI (fun _ j => j ≠ 0 ∧ j.natAbs.log2 < 9000) fun i j => .int (i.fdiv j)) from opI fun _ _ _ _ _ _ _ hc q => floordiv_int hc.1 q (.inl (PyProof.noPylong_of_log2 hc.2))) fun x y H Q h => ?_
  obtain ⟨Z, dx, dy, r, zl, hx, hy, e, w⟩ := h
  cases dx <;> cases dy <;> simp only [opBin] at e <;> try (cases e; done)
  rename_i i j
  split at e
  · rename_i hs
    cases e
    exact ⟨i, j, hx.int, hy.int, hs, w.1 _ (.int _)⟩
  · cases e
theorem op2_mod : OpR X (binaryOp .Mod) (rOp2 X.K (opBin .mod)) := by
  refine OpR.weak op_modN fun x y H Q h => ?_
  obtain ⟨Z, dx, dy, r, zl, hx, hy, e, w⟩ := h
  cases dx <;> cases dy <;> simp only [opBin] at e <;> try (cases e; done)
  rename_i i j
  split at e
  · rename_i hs
    cases e
    exact ⟨i, j, hx.int, hy.int, hs, w.1 _ (.int _)⟩
  · cases e
theorem op2_pow : OpR X (binaryOp .Pow) (rOp2 X.K (opBin .pow)) := by
  refine OpR.weak op_pow fun x y H Q h => ?_
  obtain ⟨Z, dx, dy, r, zl, hx, hy, e, w⟩ := h
  cases dx <;> cases dy <;> simp only [opBin] at e <;> try (cases e; done)
  rename_i i j
  split at e
  · rename_i hs
    cases e
    refine ⟨i, j, hx.int, hy.int, ⟨hs.1, by omega, ?_⟩, w.1 _ (.int _)⟩
    have := hs.2.2
    simp only [sml, Bool.and_eq_true, decide_eq_true_eq] at this
    omega
  · cases e
def opOf : BOp → Operator
  | .add => .Add | .sub => .Sub | .mul => .Mult | .fdiv => .FloorDiv | .mod => .Mod | .pow => .Pow
theorem op2_of (o : BOp) : OpR X (binaryOp (opOf o)) (rOp2 X.K (opBin o)) := by
  cases o
  · exact op2_add
  · exact op2_sub
  · exact op2_mul
  · exact op2_fdiv
  · exact op2_mod
  · exact op2_pow
end
end Ev

/-! Ev, part F: comparisons by values; expressions, one by one. -/
namespace Ev
open PySem L2 PyProof.Rows

/-- two operands compared -/
def rCmp (K : PySem.W.Frag) (o : COp) : R2 := fun x y H Q => ∃ Z dx dy b, Zl Z H ∧ Ds K H Z x dx ∧ Ds K H Z y dy ∧ opCmp o dx dy = some b ∧ Q (.bl b) H
def cmpOf : COp → CmpOp
  | .eq => .Eq | .ne => .NotEq | .lt => .Lt | .le => .LtE | .gt => .Gt | .ge => .GtE | .isN => .Is | .notN => .IsNot | .inn => .In | .nin => .NotIn
section
variable {X : Cx}
theorem op_inTD (hu : X.A.units + 65 < cLine) : OpR X (compareOp .In) (fun x y H Q => ∃ d ds, Dp X.K H x d ∧ Dp X.K H y (.tuple ds) ∧ SeqAt.shaped d = true ∧ SeqAt.shaped (.tuple ds) = true ∧ Q (.bl (ds.any fun z => PyData.eqv z d)) H) := by
  intro pins s σ H x y v u Q I rx ry h
  obtain ⟨d, ds, hd, he, sd, se, q⟩ := h
  obtain ⟨as, r1⟩ := Dp.reads I d x v hd rx
  obtain ⟨bs, r2⟩ := Dp.reads I (.tuple ds) y u he ry
  exact SeqAt.in_tuple_reads r2 r1 (SeqAt.canLay_of_shaped se) (SeqAt.canLay_of_shaped sd) (room_in_shaped sd hu) ⟨.bl _, H, I, rfl, q⟩
theorem op_notInTD (hu : X.A.units + 65 < cLine) : OpR X (compareOp .NotIn) (fun x y H Q => ∃ d ds, Dp X.K H x d ∧ Dp X.K H y (.tuple ds) ∧ SeqAt.shaped d = true ∧ SeqAt.shaped (.tuple ds) = true ∧ Q (.bl (!ds.any fun z => PyData.eqv z d)) H) := by
  intro pins s σ H x y v u Q I rx ry h
  obtain ⟨d, ds, hd, he, sd, se, q⟩ := h
  obtain ⟨as, r1⟩ := Dp.reads I d x v hd rx
  obtain ⟨bs, r2⟩ := Dp.reads I (.tuple ds) y u he ry
  exact SeqAt.notIn_tuple_reads r2 r1 (SeqAt.canLay_of_shaped se) (SeqAt.canLay_of_shaped sd) (room_in_shaped sd hu) ⟨.bl _, H, I, rfl, q⟩
theorem cmp_of (hu : X.A.units + 65 < cLine) (o : COp) : OpR X (compareOp (cmpOf o)) (rCmp X.K o) := by
  have hu4 : X.A.units + 64 < cLine := by omega
  cases o
  · refine OpR.weak (op_eqD hu4) fun x y H Q h => ?_
    obtain ⟨Z, dx, dy, b, zl, hx, hy, e, w⟩ := h
    simp only [opCmp] at e
    split at e
    · rename_i hs
      cases e
      rw [Bool.and_eq_true] at hs
      exact ⟨dx, dy, hx.dp (nodict hs.1), hy.dp (nodict hs.2), hs.1, hs.2, w⟩
    · cases e
  · refine OpR.weak (op_neD hu4) fun x y H Q h => ?_
    obtain ⟨Z, dx, dy, b, zl, hx, hy, e, w⟩ := h
    simp only [opCmp] at e
    split at e
    · rename_i hs
      cases e
      rw [Bool.and_eq_true] at hs
      exact ⟨dx, dy, hx.dp (nodict hs.1), hy.dp (nodict hs.2), hs.1, hs.2, w⟩
    · cases e
  · refine OpR.weak op_lt fun x y H Q h => ?_
    obtain ⟨Z, dx, dy, b, zl, hx, hy, e, w⟩ := h
    cases dx <;> cases dy <;> simp only [opCmp] at e <;> try (cases e; done)
    cases e
    exact ⟨_, _, hx.int, hy.int, w⟩
  · refine OpR.weak op_le fun x y H Q h => ?_
    obtain ⟨Z, dx, dy, b, zl, hx, hy, e, w⟩ := h
    cases dx <;> cases dy <;> simp only [opCmp] at e <;> try (cases e; done)
    cases e
    exact ⟨_, _, hx.int, hy.int, w⟩
  · refine OpR.weak op_gt fun x y H Q h => ?_
    obtain ⟨Z, dx, dy, b, zl, hx, hy, e, w⟩ := h
    cases dx <;> cases dy <;> simp only [opCmp] at e <;> try (cases e; done)
    cases e
    exact ⟨_, _, hx.int, hy.int, w⟩
  · refine OpR.weak op_ge fun x y H Q h => ?_
    obtain ⟨Z, dx, dy, b, zl, hx, hy, e, w⟩ := h
    cases dx <;> cases dy <;> simp only [opCmp] at e <;> try (cases e; done)
    cases e
    exact ⟨_, _, hx.int, hy.int, w⟩
  · refine OpR.weak op_isN fun x y H Q h => ?_
    obtain ⟨Z, dx, dy, b, zl, hx, hy, e, w⟩ := h
    cases dy <;> simp only [opCmp] at e <;> try (cases e; done)
    refine ⟨hy.none_, ?_⟩
    have eb : decide (x = V.non) = b := by
      cases dx <;> simp only at e <;> cases e
      · rw [hx.none_] <;> rfl
      · rw [hx.bool] <;> rfl
      · rw [hx.int] <;> rfl
      · rw [hx.str] <;> rfl
      · obtain ⟨a, vs, rfl, _⟩ := hx.list <;> rfl
      · obtain ⟨a, vs, rfl, _⟩ := hx.tuple <;> rfl
      · obtain ⟨f, rfl⟩ := hx.dict <;> rfl
    rw [eb]
    exact w
  · refine OpR.weak op_notN fun x y H Q h => ?_
    obtain ⟨Z, dx, dy, b, zl, hx, hy, e, w⟩ := h
    cases dy <;> simp only [opCmp] at e <;> try (cases e; done)
    refine ⟨hy.none_, ?_⟩
    have eb : (!decide (x = V.non)) = b := by
      cases dx <;> simp only at e <;> cases e
      · rw [hx.none_] <;> rfl
      · rw [hx.bool] <;> rfl
      · rw [hx.int] <;> rfl
      · rw [hx.str] <;> rfl
      · obtain ⟨a, vs, rfl, _⟩ := hx.list <;> rfl
      · obtain ⟨a, vs, rfl, _⟩ := hx.tuple <;> rfl
      · obtain ⟨f, rfl⟩ := hx.dict <;> rfl
    rw [eb]
    exact w
  · refine OpR.weak (OpR.or (op_inD hu) (op_inTD hu)) fun x y H Q h => ?_
    obtain ⟨Z, dx, dy, b, zl, hx, hy, e, w⟩ := h
    cases dy <;> simp only [opCmp] at e <;> try (cases e; done)
    · split at e
      · rename_i hs
        cases e
        rw [Bool.and_eq_true] at hs
        exact .inl ⟨dx, _, hx.dp (nodict hs.1), hy.dp (nodict hs.2), hs.1, hs.2, w⟩
      · cases e
    · split at e
      · rename_i hs
        cases e
        rw [Bool.and_eq_true] at hs
        exact .inr ⟨dx, _, hx.dp (nodict hs.1), hy.dp (nodict hs.2), hs.1, hs.2, w⟩
      · cases e
  · refine OpR.weak (OpR.or (op_notInD hu) (op_notInTD hu)) fun x y H Q h => ?_
    obtain ⟨Z, dx, dy, b, zl, hx, hy, e, w⟩ := h
    cases dy <;> simp only [opCmp] at e <;> try (cases e; done)
    · split at e
      · rename_i hs
        cases e
        rw [Bool.and_eq_true] at hs
        exact .inl ⟨dx, _, hx.dp (nodict hs.1), hy.dp (nodict hs.2), hs.1, hs.2, w⟩
      · cases e
    · split at e
      · rename_i hs
        cases e
        rw [Bool.and_eq_true] at hs
        exact .inr ⟨dx, _, hx.dp (nodict hs.1), hy.dp (nodict hs.2), hs.1, hs.2, w⟩
      · cases e
end

/-! ### expressions -/
theorem PE.weak {X : Cx} {e : Expr} {t t' : TE} (h : PE X e t) (w : ∀ σ H Q, t' σ H Q → t σ H Q) : PE X e t' := ⟨fun pins s σ H Q I q => h.run pins s σ H Q I (w σ H Q q)⟩
theorem PT.weak {X : Cx} {e : Expr} {t t' : TT} (h : PT X e t) (w : ∀ σ H Q, t' σ H Q → t σ H Q) : PT X e t' := ⟨fun pins s σ H Q I q => h.run pins s σ H Q I (w σ H Q q)⟩
section
variable {X : Cx} {fa : Nat → V → Prop} {XX : XW} {G : Tab} {a b c : Expr} {ma mb mc : ME} {pos : Pos}
theorem s_c {x : PyData} {e : Expr} {v : V} (h : PE X e (tC v)) (f : ∀ H Z, Fz X.K H Z v x) : PE X e (tE X.K fa XX G (.c x)) :=
  PE.weak h fun σ H Q ⟨Z, env, ok, h⟩ => h Z H v (.refl ok) (f H Z)
theorem s_v {i : Nat} {x : Str} (hN : X.N[i]? = some x) (hv : Vis X.env.scope x) (hd : (x == ("__debug__" : Str)) = false) (hcd : (x == ("__classdict__" : Str)) = false) : PE X (.Name x pos) (tE X.K fa XX G (.v i)) := by
  refine PE.weak (pe_var hN hv hd hcd) fun σ H Q ⟨Z, env, ok, h⟩ => ?_
  unfold ev at h
  cases hr : rdName env i with
  | none => rw [hr] at h; exact h.elim
  | some r =>
    rw [hr] at h
    unfold rdName at hr
    split at hr
    · rename_i y hw
      cases hr
      obtain ⟨v, e1, e2⟩ := ok.nm i _ hw
      exact ⟨v, e1, h Z H v (.refl ok) e2⟩
    · rename_i y hw
      cases hr
      obtain ⟨v, e1, e2⟩ := ok.nm i _ hw
      exact ⟨v, e1, h Z H v (.refl ok) e1⟩
    · rename_i y hw
      cases hr
      obtain ⟨v, e1, e2⟩ := ok.nm i _ hw
      exact ⟨v, e1, h Z H v (.refl ok) e1⟩
    · rename_i y hw
      cases hr
      obtain ⟨v, e1, e2⟩ := ok.nm i _ hw
      exact ⟨v, e1, h Z H v (.refl ok) e2⟩
    · rename_i y hw
      cases hr
      obtain ⟨v, e1, e2⟩ := ok.nm i _ hw
      exact ⟨v, e1, h Z H v (.refl ok) e2⟩
    · cases hr
theorem s_fn {n : Nat} {e : Expr} {v : V} (h : PE X e (tC v)) (f : fa n v) : PE X e (tE X.K fa XX G (.fn n)) :=
  PE.weak h fun σ H Q ⟨Z, env, ok, h⟩ => h Z H v (.refl ok) f
theorem tM.mono {m : Env → Rs (Env × Rv)} {σ : L2.St} {H : Hp} {Q Q' : VK} (h : tM X.K fa XX m σ H Q) (w : ∀ v H', Q v H' → Q' v H') : tM X.K fa XX m σ H Q' := by
  obtain ⟨Z, env, ok, h⟩ := h
  refine ⟨Z, env, ok, ?_⟩
  revert h
  cases m env with
  | bad => exact fun z => z
  | ex c a => exact fun z => z
  | ok p => exact fun z Z' H' v m r => w _ _ (z Z' H' v m r)
/-- two parts, then an operation on their data -/
theorem two {σ : L2.St} {H0 : Hp} {Z0 : Addr → Prop} {env0 : Env} {Q : VK} {k : Env → PyData → PyData → Rs (Env × Rv)} (ok : Eok X.K fa H0 Z0 σ env0)
    (h : Fin X.K fa XX σ H0 Z0 env0 ((ev G ma env0).bind fun p => (ev G mb p.1).bind fun q => match dat q.1 p.2, dat q.1 q.2 with | some x, some y => k q.1 x y | _, _ => .bad) Q) :
    tE X.K fa XX G ma σ H0 fun x H1 => tE X.K fa XX G mb σ H1 fun y H2 => ∃ Z2 env2 dx dy, Mid X.K fa σ H0 Z0 env0 H2 Z2 env2 ∧ Ds X.K H2 Z2 x dx ∧ Ds X.K H2 Z2 y dy ∧ Fin X.K fa XX σ H0 Z0 env0 (k env2 dx dy) Q := by
  refine tM.mono (Fin.first (.refl ok) h) fun x H1 ⟨Z1, env1, ra, M1, m1, r1, h1⟩ => ?_
  refine tM.mono (Fin.first M1 h1) fun y H2 ⟨Z2, env2, rb, M2, m2, r2, h2⟩ => ?_
  cases hx : dat env2 ra with
  | none => simp only [hx] at h2; exact h2.elim
  | some dx =>
    cases hy : dat env2 rb with
    | none => simp only [hx, hy] at h2; exact h2.elim
    | some dy =>
      simp only [hx, hy] at h2
      exact ⟨Z2, env2, dx, dy, M2, (RvOk.on M1 m2 r1).ds M2.ok hx, r2.ds M2.ok hy, h2⟩
theorem opBin_v {o : BOp} {x y : PyData} {r : Rv} (h : opBin o x y = some r) : (∃ x, r = .v x) ∨ ∃ xs, r = .n xs := by
  cases o <;> cases x <;> cases y <;> simp only [opBin] at h <;> (repeat' (split at h)) <;> first | (cases h; done) | (cases h; exact .inl ⟨_, rfl⟩) | (cases h; exact .inr ⟨_, rfl⟩)
theorem s_bin (o : BOp) (ha : PE X a (tE X.K fa XX G ma)) (hb : PE X b (tE X.K fa XX G mb)) : PE X (.BinOp a (opOf o) b pos) (tE X.K fa XX G (.bin o ma mb)) := by
  refine PE.weak (pe_op (op2_of o) ha hb) fun σ H Q ⟨Z, env, ok, h⟩ => ?_
  unfold ev at h
  refine tM.mono (two (k := fun e x y => (ofO (opBin o x y)).bind fun r => .ok (e, r)) ok h) fun x H1 h1 => tM.mono h1 fun y H2 ⟨Z2, env2, dx, dy, M, d1, d2, hf⟩ => ?_
  cases hr : opBin o dx dy with
  | none => rw [hr] at hf; exact hf.elim
  | some r =>
    rw [hr] at hf
    exact ⟨Z2, dx, dy, r, M.ok.zl, d1, d2, hr, Fin.wsh M hf (opBin_v hr)⟩
theorem s_cmp (hu : X.A.units + 65 < cLine) (o : COp) (ha : PE X a (tE X.K fa XX G ma)) (hb : PE X b (tE X.K fa XX G mb)) (hm : behindInMarks (cmpOf o) b = false) : PE X (.Compare a [cmpOf o] [b] pos) (tE X.K fa XX G (.cmp o ma mb)) := by
  refine PE.weak (pe_cmpR (cmp_of hu o) ha hb hm) fun σ H Q ⟨Z, env, ok, h⟩ => ?_
  unfold ev at h
  refine tM.mono (two (k := fun e x y => (ofO (opCmp o x y)).bind fun r => .ok (e, .v (.bool r))) ok h) fun x H1 h1 => tM.mono h1 fun y H2 ⟨Z2, env2, dx, dy, M, d1, d2, hf⟩ => ?_
  cases hr : opCmp o dx dy with
  | none => rw [hr] at hf; exact hf.elim
  | some r =>
    rw [hr] at hf
    exact ⟨Z2, dx, dy, r, M.ok.zl, d1, d2, hr, hf Z2 H2 _ M (.bl r)⟩
end
end Ev

/-! Ev, part G: more expressions; tests. -/
namespace Ev
open PySem L2 PyProof.Rows

theorem tru_of {K : PySem.W.Frag} {H : Hp} {Z : Addr → Prop} {v : V} {x : PyData} {k : Bool} (d : Ds K H Z v x) (h : tru x = some k) : TruV K v H k := by
  cases x <;> simp only [tru] at h <;> try (cases h; done)
  · cases h; rw [d.none_]; rfl
  · cases h; rw [d.bool]; rfl
  · cases h; rw [d.int]; rfl
  · cases h
    obtain ⟨a, vs, rfl, h1, f⟩ := d.list
    refine .inl ⟨vs, .inl (.inl h1), ?_⟩
    cases f <;> rfl
  · cases h
    obtain ⟨a, vs, rfl, h1, f⟩ := d.tuple
    refine .inr (.inl ⟨vs, h1, ?_⟩)
    cases f <;> rfl
section
variable {X : Cx} {fa : Nat → V → Prop} {XX : XW} {G : Tab} {a b c : Expr} {ma mb mc : ME} {pos : Pos}
variable {σ : L2.St} {H0 H : Hp} {Z0 Z : Addr → Prop} {env0 env : Env} {r : Rv} {v : V}
theorem RvOk.tru (ok : Eok X.K fa H Z σ env) (h : RvOk X.K fa H0 H Z σ r v) {k : Bool} (e : truR env r = some k) : TruV X.K v H k := by
  unfold truR at e
  cases hd : dat env r with
  | none => rw [hd] at e; cases e
  | some x => rw [hd] at e; exact tru_of (h.ds ok hd) e
/-- one part, then something of it -/
theorem one {Q : VK} {k : Env × Rv → Rs (Env × Rv)} (ok : Eok X.K fa H0 Z0 σ env0) (h : Fin X.K fa XX σ H0 Z0 env0 ((ev G ma env0).bind k) Q) :
    tE X.K fa XX G ma σ H0 fun x H1 => ∃ Z1 env1 r, Mid X.K fa σ H0 Z0 env0 H1 Z1 env1 ∧ RvOk X.K fa H0 H1 Z1 σ r x ∧ Fin X.K fa XX σ H0 Z0 env0 (k (env1, r)) Q :=
  tM.mono (Fin.first (.refl ok) h) fun x H1 ⟨Z1, env1, ra, M1, m1, r1, h1⟩ => ⟨Z1, env1, ra, M1, r1, h1⟩
/-- the outcome of the second part is the outcome -/
theorem Fin.last {m : Env → Rs (Env × Rv)} {Q : VK} (M : Mid X.K fa σ H0 Z0 env0 H Z env) (h : Fin X.K fa XX σ H0 Z0 env0 (m env) Q) : tM X.K fa XX m σ H Q := by
  refine ⟨Z, env, M.ok, ?_⟩
  revert h
  unfold Fin
  cases m env with
  | bad => exact fun z => z
  | ex c a => exact fun z Mu' Z' H' s => z Mu' Z' H' (M.st.trans s)
  | ok p => exact fun z Z' H' v n r => z Z' H' v (M.trans n) (r.back M)

theorem s_neg (ha : PE X a (tE X.K fa XX G ma)) : PE X (.UnaryOp .USub a pos) (tE X.K fa XX G (.neg ma)) := by
  refine PE.weak (pe_un un_neg ha) fun σ H Q ⟨Z, env, ok, h⟩ => ?_
  unfold ev at h
  refine tM.mono (one ok h) fun x H1 ⟨Z1, env1, ra, M, r1, hf⟩ => ?_
  dsimp only at hf
  split at hf
  · rename_i i hd
    exact ⟨i, (r1.ds M.ok hd).int, hf Z1 H1 _ M (.int _)⟩
  · exact hf.elim
theorem s_chn (hu : X.A.units + 65 < cLine) (o o' : COp) (ha : PE X a (tE X.K fa XX G ma)) (hb : PE X b (tE X.K fa XX G mb)) (hc : PE X c (tE X.K fa XX G mc)) (hm : lastMarks [cmpOf o, cmpOf o'] [b, c] = false) :
    PE X (.Compare a [cmpOf o, cmpOf o'] [b, c] pos) (tE X.K fa XX G (.chn o o' ma mb mc)) := by
  refine PE.weak (pe_chain (cmp_of hu o) (cmp_of hu o') ha hb hc hm) fun σ H Q ⟨Z, env, ok, h⟩ => ?_
  unfold ev at h
  refine tM.mono (Fin.first (.refl ok) h) fun x H1 ⟨Z1, env1, ra, M1, m1, r1, h1⟩ => ?_
  refine tM.mono (Fin.first M1 h1) fun y H2 ⟨Z2, env2, rb, M2, m2, r2, h2⟩ => ?_
  dsimp only at h2
  cases hx : dat env2 ra with
  | none => simp only [hx] at h2; exact h2.elim
  | some dx =>
    cases hy : dat env2 rb with
    | none => simp only [hx, hy] at h2; exact h2.elim
    | some dy =>
      simp only [hx, hy] at h2
      cases hr : opCmp o dx dy with
      | none => rw [hr] at h2; exact h2.elim
      | some t =>
        rw [hr] at h2
        refine ⟨Z2, dx, dy, t, M2.ok.zl, (RvOk.on M1 m2 r1).ds M2.ok hx, r2.ds M2.ok hy, hr, t, rfl, ?_⟩
        have h2 : Fin X.K fa XX σ H Z env (if t = true then _ else _) Q := h2
        cases t with
        | false => exact h2 Z2 H2 _ M2 (.bl false)
        | true =>
          refine iteT ?_
          rw [if_pos rfl] at h2
          refine tM.mono (Fin.first M2 h2) fun z H3 ⟨Z3, env3, rc, M3, m3, r3, h3⟩ => ?_
          dsimp only at h3
          cases hy' : dat env3 rb with
          | none => simp only [hy'] at h3; exact h3.elim
          | some dy' =>
            cases hz : dat env3 rc with
            | none => simp only [hy', hz] at h3; exact h3.elim
            | some dz =>
              simp only [hy', hz] at h3
              cases hr' : opCmp o' dy' dz with
              | none => rw [hr'] at h3; exact h3.elim
              | some t' =>
                rw [hr'] at h3
                have r2' : RvOk X.K fa H1 H3 Z3 σ rb y := RvOk.on m2 m3 r2
                exact ⟨Z3, dy', dz, t', M3.ok.zl, r2'.ds M3.ok hy', r3.ds M3.ok hz, hr', h3 Z3 H3 _ M3 (.bl t')⟩
theorem s_and {rest : List Expr} (ha : PE X a (tE X.K fa XX G ma)) (hb : PE X (.BoolOp .And (b :: rest) pos) (tE X.K fa XX G mb)) : PE X (.BoolOp .And (a :: b :: rest) pos) (tE X.K fa XX G (.and ma mb)) := by
  refine PE.weak (pe_andT ha hb) fun σ H Q ⟨Z, env, ok, h⟩ => ?_
  unfold ev at h
  refine tM.mono (one ok h) fun x H1 ⟨Z1, env1, ra, M, r1, hf⟩ => ?_
  dsimp only at hf
  cases ht : truR env1 ra with
  | none => rw [ht] at hf; exact hf.elim
  | some k =>
    rw [ht] at hf
    refine ⟨k, r1.tru M.ok ht, ?_⟩
    cases k with
    | true => exact iteT (Fin.last M hf)
    | false => exact iteF (hf Z1 H1 x M r1)
theorem s_or {rest : List Expr} (ha : PE X a (tE X.K fa XX G ma)) (hb : PE X (.BoolOp .Or (b :: rest) pos) (tE X.K fa XX G mb)) : PE X (.BoolOp .Or (a :: b :: rest) pos) (tE X.K fa XX G (.or ma mb)) := by
  refine PE.weak (pe_orT ha hb) fun σ H Q ⟨Z, env, ok, h⟩ => ?_
  unfold ev at h
  refine tM.mono (one ok h) fun x H1 ⟨Z1, env1, ra, M, r1, hf⟩ => ?_
  dsimp only at hf
  cases ht : truR env1 ra with
  | none => rw [ht] at hf; exact hf.elim
  | some k =>
    rw [ht] at hf
    refine ⟨k, r1.tru M.ok ht, ?_⟩
    cases k with
    | false => exact iteF (Fin.last M hf)
    | true => exact iteT (hf Z1 H1 x M r1)
theorem s_last {op : BoolOp} (ha : PE X a (tE X.K fa XX G ma)) : PE X (.BoolOp op [a] pos) (tE X.K fa XX G ma) := pe_one ha
theorem s_not (ha : PE X a (tE X.K fa XX G ma)) : PE X (.UnaryOp .Not a pos) (tE X.K fa XX G (.not ma)) := by
  refine PE.weak (pe_notT ha) fun σ H Q ⟨Z, env, ok, h⟩ => ?_
  unfold ev at h
  refine tM.mono (one ok h) fun x H1 ⟨Z1, env1, ra, M, r1, hf⟩ => ?_
  dsimp only at hf
  cases ht : truR env1 ra with
  | none => rw [ht] at hf; exact hf.elim
  | some k =>
    rw [ht] at hf
    exact ⟨k, r1.tru M.ok ht, hf Z1 H1 _ M (.bl _)⟩
/-- a test's reading -/
def tT (K : PySem.W.Frag) (fa : Nat → V → Prop) (XX : XW) (G : Tab) (m : ME) : TT := fun σ H Q => tE K fa XX G m σ H fun x H1 => ∃ k, TruV K x H1 k ∧ Q k H1
/-- .. by the outcome -/
def tB (K : PySem.W.Frag) (fa : Nat → V → Prop) (XX : XW) (G : Tab) (m : ME) : TT := fun σ H Q => ∃ Z env, Eok K fa H Z σ env ∧ match ev G m env with
  | .ok p => match truR p.1 p.2 with
    | some k => ∀ Z' H', Mid K fa σ H Z env H' Z' p.1 → Q k H'
    | none => False
  | .ex c a => ∀ Mu' Z' H', Stp (Own σ env) Z H Mu' Z' H' → XX c a σ H'
  | .bad => False
theorem tB.tT {m : ME} {Q : Bool → Hp → Prop} (h : tB X.K fa XX G m σ H Q) : tT X.K fa XX G m σ H Q := by
  obtain ⟨Z, env, ok, h⟩ := h
  refine ⟨Z, env, ok, ?_⟩
  revert h
  unfold Fin
  cases ev G m env with
  | bad => exact fun z => z
  | ex c a => exact fun z => z
  | ok p =>
    intro z Z' H' v n r
    dsimp only at z
    cases ht : truR p.1 p.2 with
    | none => rw [ht] at z; exact z.elim
    | some k =>
      rw [ht] at z
      exact ⟨k, r.tru n.ok ht, z Z' H' n⟩
/-- a test of any plain kind -/
theorem b_any (ha : PE X a (tE X.K fa XX G ma)) (he : ∀ whole, isTrue a X.env whole = (do let v ← whole; standAt a.pos; holding [v] (truthy v))) : PT X a (tB X.K fa XX G ma) :=
  PT.weak (pt_truth ha he) fun σ H Q h => h.tT
theorem tB.two {σ : L2.St} {H0 : Hp} {Z0 : Addr → Prop} {env0 : Env} {Q : Bool → Hp → Prop} {ma mb : ME} {k : Env → PyData → PyData → Rs (Env × Rv)} (e : ev G ma env0 = .bad) : True := trivial
theorem b_cmp (hu : X.A.units + 65 < cLine) (o : COp) (ha : PE X a (tE X.K fa XX G ma)) (hb : PE X b (tE X.K fa XX G mb)) (hm : behindInMarks (cmpOf o) b = false) : PT X (.Compare a [cmpOf o] [b] pos) (tB X.K fa XX G (.cmp o ma mb)) := by
  refine PT.weak (pt_cmpR (cmp_of hu o) ha hb hm) fun σ H Q h => ?_
  obtain ⟨Z, env, ok, h⟩ := h.tT
  unfold ev at h
  refine tM.mono (two (k := fun e x y => (ofO (opCmp o x y)).bind fun r => .ok (e, .v (.bool r))) ok h) fun x H1 h1 => tM.mono h1 fun y H2 ⟨Z2, env2, dx, dy, M, d1, d2, hf⟩ => ?_
  cases hr : opCmp o dx dy with
  | none => rw [hr] at hf; exact hf.elim
  | some r =>
    rw [hr] at hf
    refine ⟨Z2, dx, dy, r, M.ok.zl, d1, d2, hr, r, rfl, ?_⟩
    obtain ⟨k, e, q⟩ := hf Z2 H2 (.bl r) M (.bl r)
    have e : k = r := e
    rw [← e]; exact q
/-- three comparisons in a row, as a test -/
def tRow3 (r r' r'' : R2) (ta tb tc td : TE) : TT := fun σ H Q => ta σ H fun x H1 => tb σ H1 fun y H2 => r x y H2 fun z H3 => ∃ k, z = .bl k ∧
  (if k = true then tc σ H3 fun w H4 => r' y w H4 fun z' H5 => ∃ k', z' = .bl k' ∧ (if k' = true then td σ H5 fun u H6 => r'' w u H6 fun z'' H7 => ∃ k'', z'' = .bl k'' ∧ Q k'' H7 else Q false H5) else Q false H3)
theorem pt_row3 {d : Expr} {o o' o'' : CmpOp} {r r' r'' : R2} {ta tb tc td : TE} (h1 : OpR X (compareOp o) r) (h2 : OpR X (compareOp o') r') (h3 : OpR X (compareOp o'') r'') (pa : PE X a ta) (pb : PE X b tb) (pc : PE X c tc) (pd : PE X d td)
    (hm : lastMarks [o, o', o''] [b, c, d] = false) : PT X (.Compare a [o, o', o''] [b, c, d] pos) (tRow3 r r' r'' ta tb tc td) := by
  refine ⟨fun pins s σ H Q I h => ?_⟩
  refine isTrue_chain (thn (pa.run pins s σ H _ I h) fun va t1 ⟨x, G1, J1, k1, w1⟩ => test_link (thn (pb.run pins t1 σ G1 _ J1 w1) fun vb t2 ⟨y, G2, J2, k2, w2⟩ =>
    thn (h1 pins t2 σ G2 x y va vb _ J2 k1 k2 w2) fun e1 t3 ⟨z, G3, J3, k3, b1, eb, w3⟩ => ?_)) hm
  subst eb
  cases k3
  refine wpAny_truthy_bool ?_
  cases b1 with
  | false => exact ite_ff ⟨G3, J3, w3⟩
  | true =>
    refine ite_tt (test_link (thn (pc.run pins t3 σ G3 _ J3 w3) fun vc t4 ⟨w, G4, J4, k4, w4⟩ => thn (h2 pins t4 σ G4 y w vb vc _ J4 k2 k4 w4) fun e2 t5 ⟨z2, G5, J5, k5, b2, eb2, w5⟩ => ?_))
    subst eb2
    cases k5
    refine wpAny_truthy_bool ?_
    cases b2 with
    | false => exact ite_ff ⟨G5, J5, w5⟩
    | true =>
      refine ite_tt (test_last (thn (pd.run pins t5 σ G5 _ J5 w5) fun vd t6 ⟨u, G6, J6, k6, w6⟩ => thn (h3 pins t6 σ G6 w u vc vd _ J6 k4 k6 w6) fun e3 t7 ⟨z3, G7, J7, k7, b3, eb3, w7⟩ => ?_))
      subst eb3
      cases k7
      exact wpAny_truthy_bool ⟨G7, J7, w7⟩
theorem b_chn (hu : X.A.units + 65 < cLine) (o o' : COp) (ha : PE X a (tE X.K fa XX G ma)) (hb : PE X b (tE X.K fa XX G mb)) (hc : PE X c (tE X.K fa XX G mc)) (hm : lastMarks [cmpOf o, cmpOf o'] [b, c] = false) :
    PT X (.Compare a [cmpOf o, cmpOf o'] [b, c] pos) (tB X.K fa XX G (.chn o o' ma mb mc)) := by
  refine PT.weak (pt_chain (cmp_of hu o) (cmp_of hu o') ha hb hc hm) fun σ H Q h => ?_
  obtain ⟨Z, env, ok, h⟩ := h.tT
  unfold ev at h
  refine tM.mono (Fin.first (.refl ok) h) fun x H1 ⟨Z1, env1, ra, M1, m1, r1, h1⟩ => ?_
  refine tM.mono (Fin.first M1 h1) fun y H2 ⟨Z2, env2, rb, M2, m2, r2, h2⟩ => ?_
  have bl : ∀ (k : Bool) (H : Hp), (∃ k', TruV X.K (.bl k) H k' ∧ Q k' H) → Q k H := fun k H ⟨k', e, q⟩ => by
    have e : k' = k := e
    rw [← e]; exact q
  dsimp only at h2
  cases hx : dat env2 ra with
  | none => simp only [hx] at h2; exact h2.elim
  | some dx =>
    cases hy : dat env2 rb with
    | none => simp only [hx, hy] at h2; exact h2.elim
    | some dy =>
      simp only [hx, hy] at h2
      cases hr : opCmp o dx dy with
      | none => rw [hr] at h2; exact h2.elim
      | some t =>
        rw [hr] at h2
        refine ⟨Z2, dx, dy, t, M2.ok.zl, (RvOk.on M1 m2 r1).ds M2.ok hx, r2.ds M2.ok hy, hr, t, rfl, ?_⟩
        have h2 : Fin X.K fa XX σ H Z env (if t = true then _ else _) _ := h2
        cases t with
        | false => exact ⟨false, rfl, bl _ _ (h2 Z2 H2 _ M2 (.bl false))⟩
        | true =>
          refine iteT ?_
          rw [if_pos rfl] at h2
          refine tM.mono (Fin.first M2 h2) fun z H3 ⟨Z3, env3, rc, M3, m3, r3, h3⟩ => ?_
          dsimp only at h3
          cases hy' : dat env3 rb with
          | none => simp only [hy'] at h3; exact h3.elim
          | some dy' =>
            cases hz : dat env3 rc with
            | none => simp only [hy', hz] at h3; exact h3.elim
            | some dz =>
              simp only [hy', hz] at h3
              cases hr' : opCmp o' dy' dz with
              | none => rw [hr'] at h3; exact h3.elim
              | some t' =>
                rw [hr'] at h3
                have r2' : RvOk X.K fa H1 H3 Z3 σ rb y := RvOk.on m2 m3 r2
                exact ⟨Z3, dy', dz, t', M3.ok.zl, r2'.ds M3.ok hy', r3.ds M3.ok hz, hr', t', rfl, bl _ _ (h3 Z3 H3 _ M3 (.bl t'))⟩
theorem b_ch3 {d : Expr} {md : ME} (hu : X.A.units + 65 < cLine) (o o' o'' : COp) (ha : PE X a (tE X.K fa XX G ma)) (hb : PE X b (tE X.K fa XX G mb)) (hc : PE X c (tE X.K fa XX G mc)) (hd : PE X d (tE X.K fa XX G md)) (hm : lastMarks [cmpOf o, cmpOf o', cmpOf o''] [b, c, d] = false) :
    PT X (.Compare a [cmpOf o, cmpOf o', cmpOf o''] [b, c, d] pos) (tB X.K fa XX G (.ch3 o o' o'' ma mb mc md)) := by
  refine PT.weak (pt_row3 (cmp_of hu o) (cmp_of hu o') (cmp_of hu o'') ha hb hc hd hm) fun σ H Q h => ?_
  obtain ⟨Z, env, ok, h⟩ := h.tT
  unfold ev at h
  refine tM.mono (Fin.first (.refl ok) h) fun x H1 ⟨Z1, env1, ra, M1, m1, r1, h1⟩ => ?_
  refine tM.mono (Fin.first M1 h1) fun y H2 ⟨Z2, env2, rb, M2, m2, r2, h2⟩ => ?_
  have bl : ∀ (k : Bool) (H : Hp), (∃ k', TruV X.K (.bl k) H k' ∧ Q k' H) → Q k H := fun k H ⟨k', e, q⟩ => by
    have e : k' = k := e
    rw [← e]; exact q
  dsimp only at h2
  cases hx : dat env2 ra with
  | none => simp only [hx] at h2; exact h2.elim
  | some dx =>
    cases hy : dat env2 rb with
    | none => simp only [hx, hy] at h2; exact h2.elim
    | some dy =>
      simp only [hx, hy] at h2
      cases hr : opCmp o dx dy with
      | none => rw [hr] at h2; exact h2.elim
      | some t =>
        rw [hr] at h2
        refine ⟨Z2, dx, dy, t, M2.ok.zl, (RvOk.on M1 m2 r1).ds M2.ok hx, r2.ds M2.ok hy, hr, t, rfl, ?_⟩
        have h2 : Fin X.K fa XX σ H Z env (if t = true then _ else _) _ := h2
        cases t with
        | false => exact bl _ _ (h2 Z2 H2 _ M2 (.bl false))
        | true =>
          refine iteT ?_
          rw [if_pos rfl] at h2
          refine tM.mono (Fin.first M2 h2) fun z H3 ⟨Z3, env3, rc, M3, m3, r3, h3⟩ => ?_
          dsimp only at h3
          cases hy' : dat env3 rb with
          | none => simp only [hy'] at h3; exact h3.elim
          | some dy' =>
            cases hz : dat env3 rc with
            | none => simp only [hy', hz] at h3; exact h3.elim
            | some dz =>
              simp only [hy', hz] at h3
              cases hr' : opCmp o' dy' dz with
              | none => rw [hr'] at h3; exact h3.elim
              | some t' =>
                rw [hr'] at h3
                have r2' : RvOk X.K fa H1 H3 Z3 σ rb y := RvOk.on m2 m3 r2
                refine ⟨Z3, dy', dz, t', M3.ok.zl, r2'.ds M3.ok hy', r3.ds M3.ok hz, hr', t', rfl, ?_⟩
                have h3 : Fin X.K fa XX σ H Z env (if t' = true then _ else _) _ := h3
                cases t' with
                | false => exact bl _ _ (h3 Z3 H3 _ M3 (.bl false))
                | true =>
                  refine iteT ?_
                  rw [if_pos rfl] at h3
                  refine tM.mono (Fin.first M3 h3) fun u H4 ⟨Z4, env4, rd, M4, m4, r4, h4⟩ => ?_
                  dsimp only at h4
                  cases hz' : dat env4 rc with
                  | none => simp only [hz'] at h4; exact h4.elim
                  | some dz' =>
                    cases hw : dat env4 rd with
                    | none => simp only [hz', hw] at h4; exact h4.elim
                    | some dw =>
                      simp only [hz', hw] at h4
                      cases hr2 : opCmp o'' dz' dw with
                      | none => rw [hr2] at h4; exact h4.elim
                      | some t2 =>
                        rw [hr2] at h4
                        have r3' : RvOk X.K fa H2 H4 Z4 σ rc z := RvOk.on m3 m4 r3
                        exact ⟨Z4, dz', dw, t2, M4.ok.zl, r3'.ds M4.ok hz', r4.ds M4.ok hw, hr2, t2, rfl, bl _ _ (h4 Z4 H4 _ M4 (.bl t2))⟩
end
end Ev

/-! Ev, part H: tests joined; subscripts, slices, displays, calls of built-ins. -/
namespace Ev
open PySem L2 PyProof.Rows
section
variable {X : Cx} {fa : Nat → V → Prop} {XX : XW} {G : Tab} {a b c : Expr} {ma mb mc : ME} {pos : Pos}
variable {σ : L2.St} {H0 H : Hp} {Z0 Z : Addr → Prop} {env0 env : Env} {r : Rv} {v : V}

theorem tB.last {m : ME} {Q : Bool → Hp → Prop} (M : Mid X.K fa σ H0 Z0 env0 H Z env) (h : match ev G m env with
  | .ok p => match truR p.1 p.2 with
    | some k => ∀ Z' H', Mid X.K fa σ H0 Z0 env0 H' Z' p.1 → Q k H'
    | none => False
  | .ex c a => ∀ Mu' Z' H', Stp (Own σ env0) Z0 H0 Mu' Z' H' → XX c a σ H'
  | .bad => False) : tB X.K fa XX G m σ H Q := by
  refine ⟨Z, env, M.ok, ?_⟩
  revert h
  cases ev G m env with
  | bad => exact fun z => z
  | ex c a => exact fun z Mu' Z' H' s => z Mu' Z' H' (M.st.trans s)
  | ok p =>
    dsimp only
    cases truR p.1 p.2 with
    | none => exact fun z => z
    | some k => exact fun z Z' H' n => z Z' H' (M.trans n)
theorem tw_and {Q : Bool → Hp → Prop} (h : tB X.K fa XX G (.and ma mb) σ H Q) : tAnd (tB X.K fa XX G ma) (tB X.K fa XX G mb) σ H Q := by
  obtain ⟨Z, env, ok, h⟩ := h
  refine ⟨Z, env, ok, ?_⟩
  unfold ev at h
  revert h
  cases ev G ma env with
  | bad => exact fun z => z
  | ex c a => exact fun z => z
  | ok p =>
    simp only [Rs.bind]
    cases ht : truR p.1 p.2 with
    | none => exact fun z => z
    | some k =>
      cases k with
      | true => exact fun z Z' H' n => iteT (tB.last n z)
      | false =>
        intro z Z' H' n
        dsimp only at z
        rw [ht] at z
        exact iteF (z Z' H' n)
theorem tw_or {Q : Bool → Hp → Prop} (h : tB X.K fa XX G (.or ma mb) σ H Q) : tOr (tB X.K fa XX G ma) (tB X.K fa XX G mb) σ H Q := by
  obtain ⟨Z, env, ok, h⟩ := h
  refine ⟨Z, env, ok, ?_⟩
  unfold ev at h
  revert h
  cases ev G ma env with
  | bad => exact fun z => z
  | ex c a => exact fun z => z
  | ok p =>
    simp only [Rs.bind]
    cases ht : truR p.1 p.2 with
    | none => exact fun z => z
    | some k =>
      cases k with
      | false => exact fun z Z' H' n => iteF (tB.last n z)
      | true =>
        intro z Z' H' n
        dsimp only at z
        rw [ht] at z
        exact iteT (z Z' H' n)
theorem w_and {rest : List Expr} (ha : PT X a (tB X.K fa XX G ma)) (hb : PW X (.BoolOp .And (b :: rest) pos) (tB X.K fa XX G mb)) : PW X (.BoolOp .And (a :: b :: rest) pos) (tB X.K fa XX G (.and ma mb)) :=
  ⟨fun whole pins s σ H Q I h => (pw_and ha hb).run whole pins s σ H Q I (tw_and h)⟩
theorem w_or {rest : List Expr} (ha : PT X a (tB X.K fa XX G ma)) (hb : PW X (.BoolOp .Or (b :: rest) pos) (tB X.K fa XX G mb)) : PW X (.BoolOp .Or (a :: b :: rest) pos) (tB X.K fa XX G (.or ma mb)) :=
  ⟨fun whole pins s σ H Q I h => (pw_or ha hb).run whole pins s σ H Q I (tw_or h)⟩
theorem w_and1 (ha : PT X a (tB X.K fa XX G ma)) : PW X (.BoolOp .And [a] pos) (tB X.K fa XX G ma) := pw_and1 ha
theorem w_or1 (ha : PT X a (tB X.K fa XX G ma)) : PW X (.BoolOp .Or [a] pos) (tB X.K fa XX G ma) := pw_or1 ha
theorem b_not (ha : PT X a (tB X.K fa XX G ma)) : PT X (.UnaryOp .Not a pos) (tB X.K fa XX G (.not ma)) := by
  refine PT.weak (pt_not ha) fun σ H Q h => ?_
  obtain ⟨Z, env, ok, h⟩ := h
  refine ⟨Z, env, ok, ?_⟩
  unfold ev at h
  revert h
  cases ev G ma env with
  | bad => exact fun z => z
  | ex c a => exact fun z => z
  | ok p =>
    simp only [Rs.bind]
    cases ht : truR p.1 p.2 with
    | none => exact fun z => z
    | some k => exact fun z => z
theorem s_ife {t : Expr} {mt : ME} (ht : PT X t (tB X.K fa XX G mt)) (ha : PE X a (tE X.K fa XX G ma)) (hb : PE X b (tE X.K fa XX G mb)) : PE X (.IfExp t a b pos) (tE X.K fa XX G (.ife mt ma mb)) := by
  refine PE.weak (pe_ifExp ht ha hb) fun σ H Q ⟨Z, env, ok, h⟩ => ?_
  refine ⟨Z, env, ok, ?_⟩
  unfold ev at h
  revert h
  cases ev G mt env with
  | bad => exact fun z => z
  | ex c a => exact fun z => z
  | ok p =>
    simp only [Rs.bind]
    cases ht : truR p.1 p.2 with
    | none => exact fun z => z
    | some k =>
      cases k with
      | true => exact fun z Z' H' n => iteT (Fin.last n z)
      | false => exact fun z Z' H' n => iteF (Fin.last n z)

/-! ### subscripts, slices -/
theorem atI_map {K : PySem.W.Frag} {H : Hp} {Z : Addr → Prop} {vs : List V} {ds : List PyData} {i : Int} {z : PyData} (f : FzAll K H Z vs ds) (h : L2.atI ds i = some z) : ∃ v, L2.atI vs i = some v ∧ Fz K H Z v z := by
  unfold L2.atI at h ⊢
  rw [f.length]
  cases hj : L2.ixN ds.length i with
  | none => rw [hj] at h; cases h
  | some j =>
    rw [hj] at h
    exact f.get h
theorem s_sub (ha : PE X a (tE X.K fa XX G ma)) (hb : PE X b (tE X.K fa XX G mb)) (hs : PlainIx b) : PE X (.Subscript a b pos) (tE X.K fa XX G (.sub ma mb)) := by
  refine PE.weak (pe_ix ix_seq ha hb hs) fun σ H Q ⟨Z, env, ok, h⟩ => ?_
  unfold ev at h
  refine tM.mono (two (k := fun e x y => (ofO (opSub x y)).bind fun z => .ok (e, .v z)) ok h) fun x H1 h1 => tM.mono h1 fun y H2 ⟨Z2, env2, dx, dy, M, d1, d2, hf⟩ => ?_
  cases hr : opSub dx dy with
  | none => rw [hr] at hf; exact hf.elim
  | some z =>
    rw [hr] at hf
    cases dx <;> cases dy <;> simp only [opSub] at hr <;> try (cases hr; done)
    · obtain ⟨p, vs, rfl, hp, f⟩ := d1.list
      obtain ⟨u, hu, fu⟩ := atI_map f hr
      exact .inl ⟨p, vs, _, u, rfl, d2.int, .inl (.inl hp), hu, hf Z2 H2 u M fu⟩
    · obtain ⟨p, vs, rfl, hp, f⟩ := d1.tuple
      obtain ⟨u, hu, fu⟩ := atI_map f hr
      exact .inr (.inl ⟨p, vs, _, u, rfl, d2.int, hp, hu, hf Z2 H2 u M fu⟩)
/-- an optional part of a slice -/
def tO (K : PySem.W.Frag) (fa : Nat → V → Prop) (XX : XW) (G : Tab) (o : Option ME) : TO := fun σ H Q => ∃ Z env, Eok K fa H Z σ env ∧ match evo G o env with
  | .ok p => ∀ Z' H', Mid K fa σ H Z env H' Z' p.1 → Q p.2 H'
  | .ex c a => ∀ Mu' Z' H', Stp (Own σ env) Z H Mu' Z' H' → XX c a σ H'
  | .bad => False
structure POm (X : Cx) (fa : Nat → V → Prop) (XX : XW) (G : Tab) (e : Option Expr) (o : Option ME) : Prop where
  po : PO X e (tO X.K fa XX G o)
theorem PO.weak {e : Option Expr} {t t' : TO} (h : PO X e t) (w : ∀ σ H Q, t' σ H Q → t σ H Q) : PO X e t' := ⟨fun pins s σ H Q I q => h.run pins s σ H Q I (w σ H Q q)⟩
theorem o_none : PO X none (tO X.K fa XX G none) := PO.weak po_none fun σ H Q ⟨Z, env, ok, h⟩ => h Z H (.refl ok)
theorem o_some (ha : PE X a (tE X.K fa XX G ma)) : PO X (some a) (tO X.K fa XX G (some ma)) := by
  refine PO.weak (po_some ha) fun σ H Q ⟨Z, env, ok, h⟩ => ?_
  refine ⟨Z, env, ok, ?_⟩
  unfold evo at h
  revert h
  cases ev G ma env with
  | bad => exact fun z => z
  | ex c a => exact fun z => z
  | ok p =>
    obtain ⟨e1, r⟩ := p
    simp only [Rs.bind]
    cases r with
    | v x =>
      cases x with
      | int i =>
        intro z Z' H' u n hr
        cases (show Fz X.K H' Z' u (.int i) from hr)
        exact ⟨i, rfl, z Z' H' n⟩
      | _ => exact fun z => z.elim
    | _ => exact fun z => z.elim
theorem tO.first {o : Option ME} {Q : Option Int → Hp → Prop} {Q' : VK} {k : Env × Option Int → Rs (Env × Rv)} (M : Mid X.K fa σ H0 Z0 env0 H Z env) (h : Fin X.K fa XX σ H0 Z0 env0 ((evo G o env).bind k) Q')
    (g : ∀ Z1 H1 env1 i, Mid X.K fa σ H0 Z0 env0 H1 Z1 env1 → Mid X.K fa σ H Z env H1 Z1 env1 → Fin X.K fa XX σ H0 Z0 env0 (k (env1, i)) Q' → Q i H1) : tO X.K fa XX G o σ H Q := by
  refine ⟨Z, env, M.ok, ?_⟩
  revert h
  cases evo G o env with
  | bad => exact fun z => z
  | ex c a => exact fun z Mu' Z' H' s => z Mu' Z' H' (M.st.trans s)
  | ok p => exact fun z Z' H' n => g Z' H' p.1 p.2 (M.trans n) n z
theorem s_slc {lo hi : Option Expr} {ml mh : Option ME} {p2 : Pos} (ha : PE X a (tE X.K fa XX G ma)) (hl : PO X lo (tO X.K fa XX G ml)) (hh : PO X hi (tO X.K fa XX G mh)) : PE X (.Subscript a (.Slice lo hi none p2) pos) (tE X.K fa XX G (.slc ma ml mh)) := by
  refine PE.weak (pe_slice (SlR.or sl_list sl_tupA) ha hl hh) fun σ H Q ⟨Z, env, ok, h⟩ => ?_
  unfold ev at h
  refine tM.mono (Fin.first (.refl ok) h) fun x H1 ⟨Z1, env1, ra, M1, m1, r1, h1⟩ => ?_
  refine tO.first M1 h1 fun Z2 H2 env2 i M2 m2 h2 => ?_
  refine tO.first M2 h2 fun Z3 H3 env3 j M3 m3 h3 => ?_
  dsimp only at h3
  cases hd : dat env3 ra with
  | none => rw [hd] at h3; exact h3.elim
  | some d =>
    rw [hd] at h3
    have d3 := (RvOk.on M1 (m2.trans m3) r1).ds M3.ok hd
    cases d <;> simp only [opSlc, ofO, Rs.bind] at h3 <;> try (exact h3.elim)
    · obtain ⟨p, vs, rfl, hp, f⟩ := d3.list
      have w := Fin.wsh M3 h3 (.inr ⟨_, rfl⟩)
      exact .inl ⟨p, vs, rfl, .inl (.inl hp), fun q hq => w _ f.cut q hq⟩
    · rename_i ys
      obtain ⟨p, vs, rfl, hp, f⟩ := d3.tuple
      have w := Fin.wsh M3 h3 (.inl ⟨_, rfl⟩)
      refine .inr ⟨p, vs, rfl, hp, fun hw => w.1 _ ?_, fun _ q hq => w.2 _ _ rfl f.cut q hq⟩
      refine .tup hp ?_
      have e : Ev.cut ys i j = ys := by
        unfold Ev.cut
        rw [← f.length, hw.1, hw.2, List.drop_zero, Nat.sub_zero, f.length, List.take_length]
      rw [e]
      exact f
theorem s_rev {k : Nat} {p1 p2 p3 : Pos} (ha : PE X a (tE X.K fa XX G ma)) (hT : ∀ te : TE, PE X a te → PE X (.Subscript a (.Slice none none (some (.UnaryOp .USub (.Constant (.int 1) k p1) p2)) p3) pos)
    (fun σ H Q => te σ H fun x H1 => (∃ q xs, x = .ref q ∧ SqL X.K H1 q xs ∧ ∀ p, H1 p = none → Q (.ref p) (upd H1 p (.lst xs.reverse))) ∨ ∃ q xs, x = .ref q ∧ SqT X.K H1 q xs ∧ ∀ p, H1 p = none → Q (.ref p) (upd H1 p (.tup xs.reverse)))) :
    PE X (.Subscript a (.Slice none none (some (.UnaryOp .USub (.Constant (.int 1) k p1) p2)) p3) pos) (tE X.K fa XX G (.rev ma)) := by
  refine PE.weak (hT _ ha) fun σ H Q ⟨Z, env, ok, h⟩ => ?_
  unfold ev at h
  refine tM.mono (one ok h) fun x H1 ⟨Z1, env1, ra, M, r1, hf⟩ => ?_
  dsimp only at hf
  cases hd : dat env1 ra with
  | none => rw [hd] at hf; exact hf.elim
  | some d =>
    rw [hd] at hf
    have d1 := r1.ds M.ok hd
    cases d <;> simp only at hf <;> try (exact hf.elim)
    · obtain ⟨p, vs, rfl, hp, f⟩ := d1.list
      have w := Fin.wsh M hf (.inr ⟨_, rfl⟩)
      exact .inl ⟨p, vs, rfl, .inl (.inl hp), fun q hq => w _ f.rev q hq⟩
    · obtain ⟨p, vs, rfl, hp, f⟩ := d1.tuple
      have w := Fin.wsh M hf (.inl ⟨_, rfl⟩)
      exact .inr ⟨p, vs, rfl, hp, fun q hq => w.2 _ _ rfl f.rev q hq⟩
end
namespace RevT
section
variable {prog : Program} {w : World} {A : Around} {E : Value → Shared → Prop} {s : Shared}
theorem adj (n : Nat) : Builtin.Slice.sliceAdjust none none (-1) (n : Int) = ((n : Int) - 1, -1) := by
  unfold Builtin.Slice.sliceAdjust
  simp only [show ((-1 : Int) < 0) from by decide, if_true]
theorem plcs (n : Nat) : Builtin.Slice.slicePlaces ((n : Int) - 1) (-1) (-1) = n := by
  unfold Builtin.Slice.slicePlaces
  have h1 : ¬ ((-1 : Int) > 0) := by decide
  simp only [h1, if_false]
  split
  · rw [show -(-1 : Int) = 1 from rfl, Int.ediv_one]; omega
  · omega
theorem back (xs : Array Value) : ((List.range xs.size).filterMap fun (m : Nat) => xs[((xs.size : Int) - 1 + (m : Int) * (-1)).toNat]?).toArray = xs.toList.reverse.toArray := by
  congr 1
  have e : (List.range xs.size).filterMap (fun (m : Nat) => xs[((xs.size : Int) - 1 + (m : Int) * (-1)).toNat]?) = (List.range xs.size).filterMap fun m => (xs.toList.reverse)[m]? := by
    have cg : ∀ (l : List Nat) (f g : Nat → Option Value), (∀ m ∈ l, f m = g m) → l.filterMap f = l.filterMap g := by
      intro l f g
      induction l with
      | nil => intro _; rfl
      | cons x l ih =>
        intro hl
        rw [List.filterMap_cons, List.filterMap_cons, hl x (by simp), ih fun m hm => hl m (by simp [hm])]
    refine cg _ _ _ fun m hm => ?_
    have hm := List.mem_range.mp hm
    have q : ((xs.size : Int) - 1 + (m : Int) * (-1)).toNat = xs.size - 1 - m := by omega
    rw [q, List.getElem?_reverse (by simpa using hm)]
    simp
  rw [e]
  have l : xs.toList.reverse.length = xs.size := by simp
  rw [← l]
  generalize xs.toList.reverse = ys
  induction ys with
  | nil => rfl
  | cons y ys ih =>
    rw [List.length_cons, List.range_succ_eq_map, List.filterMap_cons]
    show y :: (List.map Nat.succ (List.range ys.length)).filterMap (fun m => (y :: ys)[m]?) = _
    rw [List.filterMap_map]
    exact congrArg (y :: ·) ih
theorem applied {sl : Addr} {vl vu vs : Value} {n : Nat} {Q : Int × Int × Nat → Shared → Prop} (hs : s.heap.IsSliceOf sl vl vu vs) (pl : IsPart vl none) (pu : IsPart vu none) (ps : IsPart vs (some (-1)))
    (h : Q ((n : Int) - 1, -1, n) s) : wpAny (model prog w) A (Builtin.Slice.sliceApplied (.ref sl) (pure (n : Int))) Q E s := by
  obtain ⟨os, hos, hcs, hds⟩ := id hs
  unfold Builtin.Slice.sliceApplied Builtin.Slice.sliceFields
  refine wpAny_bind (wpAny_bind (wpAny_field hos hds (x := vl) rfl (wpAny_bind (wpAny_field hos hds (x := vu) rfl (wpAny_bind (wpAny_field hos hds (x := vs) rfl (wpAny_pure ?_)))))))
  refine wpAny_bind (HT.slicePart_ ps ?_)
  show wpAny _ _ (if ((-1 : Int) == 0) = true then _ else _) _ _ s
  rw [if_neg (by decide)]
  refine wpAny_bind (HT.slicePart_ pl (wpAny_bind (HT.slicePart_ pu (wpAny_bind (wpAny_pure ?_)))))
  show wpAny _ _ (match Builtin.Slice.sliceAdjust none none (-1) (n : Int) with | (lo, hi) => pure (lo, (-1 : Int), Builtin.Slice.slicePlaces lo hi (-1))) _ _ s
  rw [adj n]
  show wpAny _ _ (pure ((n : Int) - 1, (-1 : Int), Builtin.Slice.slicePlaces ((n : Int) - 1) (-1) (-1))) _ _ s
  rw [plcs]
  exact wpAny_pure h
theorem getRev {t sl : Addr} {items : Array Value} {vl vu vs : Value} {Q : Value → Shared → Prop} (ht : IsTup s.heap t items) (hs : s.heap.IsSliceOf sl vl vu vs) (pl : IsPart vl none) (pu : IsPart vu none) (ps : IsPart vs (some (-1)))
    (h : Q (.ref s.heap.objs.size) { s with heap := s.heap.push { cls := .type "tuple", data := .seq items.toList.reverse.toArray } }) (hsz : items.size ≤ sizeLine) : wpAny (model prog w) A (getItem (.ref t) (.ref sl)) Q E s := by
  have hok : sizeOk (.seq items.toList.reverse.toArray) := by
    show items.toList.reverse.toArray.size ≤ sizeLine
    rw [List.size_toArray, List.length_reverse, Array.length_toList]
    exact hsz
  obtain ⟨os, hos, hcs, hds⟩ := id hs
  have isS : s.TypeIs (.ref sl) "slice" := ⟨os, hos, hcs⟩
  unfold getItem
  try with_reducible refine wpAny_holding ?_
  first | refine wpAny_bind (wpAny_pure ?_) | skip
  refine wpAny_bind (wpAny_sequenceKey ht.typeIs (by decide) ?_)
  refine wpAny_bind (wpAny_callSpecial?_slot (name := Str.ofString "__getitem__") ht.typeIs PyProof.Rows.slot_tuple_getitem
    (wpAny_call_entry PyProof.Rows.slot_tuple_getitem ht.typeIs entry_tuple_getitem ?_ (args_tuple_getitem _ _)))
  show wpAny _ _ (Builtin.Tuple.tupleItemsOf (.ref t) >>= _) _ _ s
  refine wpAny_bind (tupleItemsOf_ ht ?_)
  refine wpAny_bind (wpAny_typeOf isS ?_)
  rw [if_pos (by decide)]
  refine wpAny_bind (applied hs pl pu ps ?_)
  have no : ¬ ((((items.size : Int) - 1) == 0 && (-1 : Int) == 1 && items.size == items.size) = true) := by
    intro q
    rw [Bool.and_eq_true, Bool.and_eq_true] at q
    exact absurd (eq_of_beq q.1.2) (by decide)
  show wpAny _ _ (if (((items.size : Int) - 1) == 0 && (-1 : Int) == 1 && items.size == items.size) = true then _ else _) _ _ s
  rw [if_neg no, back]
  first
    | exact wpAny_bind (m := Builtin.Tuple.tupleExact _) (wpAny_newObj_type (wpAny_pure ⟨_, rfl, wpAny_pure h⟩) hok)
    | exact wpAny_bind (m := Builtin.Tuple.tupleExact _) (wpAny_newObj_type (wpAny_bind (wpAny_pure (wpAny_pure ⟨_, rfl, wpAny_pure h⟩))) hok)
    | exact wpAny_bind (wpAny_bind (m := Builtin.Tuple.tupleExact _) (wpAny_newObj_type (wpAny_pure (wpAny_pure ⟨_, rfl, wpAny_pure h⟩)) hok))
    | exact wpAny_bind (wpAny_bind (m := Builtin.Tuple.tupleExact _) (wpAny_newObj_type (wpAny_pure ⟨_, rfl, wpAny_pure h⟩) hok))
end
end RevT
section
variable {X : Cx} {fa : Nat → V → Prop} {XX : XW} {G : Tab} {a : Expr} {ma : ME} {pos : Pos}
/-- a[::-1] of a list, of a tuple -/
theorem pe_revB {te : TE} {k : Nat} {p1 p2 p3 : Pos} (pa : PE X a te) : PE X (.Subscript a (.Slice none none (some (.UnaryOp .USub (.Constant (.int 1) k p1) p2)) p3) pos)
    (fun σ H Q => te σ H fun x H1 => (∃ q xs, x = .ref q ∧ SqL X.K H1 q xs ∧ ∀ p, H1 p = none → Q (.ref p) (upd H1 p (.lst xs.reverse))) ∨ ∃ q xs, x = .ref q ∧ SqT X.K H1 q xs ∧ ∀ p, H1 p = none → Q (.ref p) (upd H1 p (.tup xs.reverse))) := by
  refine ⟨fun pins s σ H Q I h => ?_⟩
  refine Subscript_ (thn (pa.run pins s σ H _ I h) fun va t1 ⟨x, G1, J1, k1, w1⟩ => ?_)
  have hst : PO X (some (.UnaryOp .USub (.Constant (.int 1) k p1) p2)) (tPart (tUn (rU fun i => .int (-i)) (tC (.int 1)))) := po_some (pe_un un_neg pe_int)
  refine wpAny_Slice (thn (po_none.run pins t1 σ G1 (fun o G2 => o = none ∧ G2 = G1) J1 ⟨rfl, rfl⟩) fun vl t2 ⟨l, G2, J2, pl, el, e2⟩ => ?_)
  subst el e2
  refine thn (po_none.run pins t2 σ G2 (fun o G3 => o = none ∧ G3 = G2) J2 ⟨rfl, rfl⟩) fun vu t3 ⟨u, G3, J3, pu, eu, e3⟩ => ?_
  subst eu e3
  refine thn (hst.run pins t3 σ G3 (fun o G4 => o = some (-1) ∧ G4 = G3) J3 ⟨1, rfl, -1, rfl, rfl, rfl⟩) fun vs t4 ⟨o, G4, J4, ps, eo, e4⟩ => ?_
  subst eo e4
  have J5 : Inv X pins σ G4 { t4 with heap := t4.heap.push { cls := .type "slice", data := .fields #[vl, vu, vs] } } := J4.kept (t' := t4.toks) fun b ob q => Heap.get?_push_of_some _ q
  rcases w1 with ⟨a', xs, ex, hx, q⟩ | ⟨a', xs, ex, hx, q⟩
  · subst ex
    cases k1
    obtain ⟨its, r, ht, hz⟩ := J5.list hx
    have hlen := r.length
    show wpAny (model X.prog X.w) X.A (subscriptTail a (.Slice none none (some (.UnaryOp .USub (.Constant (.int 1) k p1) p2)) p3) (.ref a') (.ref t4.heap.objs.size)) (EP X pins σ Q) X.xe { t4 with heap := t4.heap.push { cls := .type "slice", data := .fields #[vl, vu, vs] } }
    refine tail_any (ops := [.ref a', .ref t4.heap.objs.size]) ht.isList.typeIs (PySem.slot_list_getitem.lookup) ?_ (by with_unfolding_all rfl)
    refine wpAny_getItem_list_slice ht.isList (Heap.IsSliceOf.new _ vl vu vs) pl pu ps (by decide) ?_ (by rw [List.size_toArray]; omega)
    rw [PySem.W.krv_pick]
    refine ⟨.ref _, _, J5.laid (t' := t4.toks) (o := .lst xs.reverse) (fun b ob q => Heap.get?_push_of_some _ q) (Nat.le_refl _) ?_, rfl, q _ (J5.hok.fresh (Nat.le_refl _))⟩
    exact ⟨by rw [List.length_reverse]; exact hz, _, 0, r.reverse, Heap.get?_push_size _ rfl⟩
  · subst ex
    cases k1
    obtain ⟨its, r, ht, hz⟩ := J5.tuple hx
    have hlen := r.length
    show wpAny (model X.prog X.w) X.A (subscriptTail a (.Slice none none (some (.UnaryOp .USub (.Constant (.int 1) k p1) p2)) p3) (.ref a') (.ref t4.heap.objs.size)) (EP X pins σ Q) X.xe { t4 with heap := t4.heap.push { cls := .type "slice", data := .fields #[vl, vu, vs] } }
    refine tail_any (ops := [.ref a', .ref t4.heap.objs.size]) ht.typeIs (PyProof.Rows.slot_tuple_getitem.lookup) ?_ (by with_unfolding_all rfl)
    refine RevT.getRev ht (Heap.IsSliceOf.new _ vl vu vs) pl pu ps ?_ (by rw [List.size_toArray]; omega)
    refine ⟨.ref _, _, J5.laid (t' := t4.toks) (o := .tup xs.reverse) (fun b ob q => Heap.get?_push_of_some _ q) (Nat.le_refl _) ?_, rfl, q _ (J5.hok.fresh (Nat.le_refl _))⟩
    exact ⟨by rw [List.length_reverse]; exact hz, _, r.reverse, _, Heap.get?_push_size _ rfl, rfl, _, rfl⟩
theorem s_rev2 {k : Nat} {p1 p2 p3 : Pos} (ha : PE X a (tE X.K fa XX G ma)) : PE X (.Subscript a (.Slice none none (some (.UnaryOp .USub (.Constant (.int 1) k p1) p2)) p3) pos) (tE X.K fa XX G (.rev ma)) := s_rev ha fun _ p => pe_revB p
end
end Ev

/-! Ev, part I: built-ins of one and of two. -/
namespace Ev
open PySem L2 PyProof.Rows

/-! ### plain laws of least, most, isort -/
theorem least_mem : ∀ (m : Int) (r : List Int), least m r ∈ m :: r
  | m, [] => by simp [least]
  | m, j :: r => by
    unfold least
    have := least_mem (if j < m then j else m) r
    split at this <;> rename_i h
    · rw [if_pos h]; exact List.mem_cons_of_mem _ this
    · rw [if_neg h]
      rcases List.mem_cons.mp this with e | e
      · rw [e]; exact List.mem_cons_self
      · exact List.mem_cons_of_mem _ (List.mem_cons_of_mem _ e)
theorem least_le : ∀ (m : Int) (r : List Int), ∀ y ∈ m :: r, least m r ≤ y
  | m, [], y, h => by simp [least] at h ⊢; omega
  | m, j :: r, y, h => by
    unfold least
    have ih := least_le (if j < m then j else m) r
    have h0 := ih _ List.mem_cons_self
    rcases List.mem_cons.mp h with e | h
    · subst e; split at h0 <;> rename_i q
      · rw [if_pos q]; omega
      · rw [if_neg q]; exact h0
    · rcases List.mem_cons.mp h with e | h
      · subst e; split at h0 <;> rename_i q
        · rw [if_pos q]; exact h0
        · rw [if_neg q]; omega
      · exact ih _ (List.mem_cons_of_mem _ h)
theorem most_mem : ∀ (m : Int) (r : List Int), most m r ∈ m :: r
  | m, [] => by simp [most]
  | m, j :: r => by
    unfold most
    have := most_mem (if m < j then j else m) r
    split at this <;> rename_i h
    · rw [if_pos h]; exact List.mem_cons_of_mem _ this
    · rw [if_neg h]
      rcases List.mem_cons.mp this with e | e
      · rw [e]; exact List.mem_cons_self
      · exact List.mem_cons_of_mem _ (List.mem_cons_of_mem _ e)
theorem most_ge : ∀ (m : Int) (r : List Int), ∀ y ∈ m :: r, y ≤ most m r
  | m, [], y, h => by simp [most] at h ⊢; omega
  | m, j :: r, y, h => by
    unfold most
    have ih := most_ge (if m < j then j else m) r
    have h0 := ih _ List.mem_cons_self
    rcases List.mem_cons.mp h with e | h
    · subst e; split at h0 <;> rename_i q
      · rw [if_pos q]; omega
      · rw [if_neg q]; exact h0
    · rcases List.mem_cons.mp h with e | h
      · subst e; split at h0 <;> rename_i q
        · rw [if_pos q]; exact h0
        · rw [if_neg q]; omega
      · exact ih _ (List.mem_cons_of_mem _ h)
theorem minOf_least : ∀ (r : List Int) (m : Int), W.minOf m r = least m r
  | [], m => rfl
  | j :: r, m => by
    show W.minOf (if decide (j < m) = true then j else m) r = _
    rw [minOf_least r, least]
    by_cases h : j < m <;> simp [h]
theorem maxOf_most : ∀ (r : List Int) (m : Int), W.maxOf m r = most m r
  | [], m => rfl
  | j :: r, m => by
    show W.maxOf (if decide (m < j) = true then j else m) r = _
    rw [maxOf_most r, most]
    by_cases h : m < j <;> simp [h]
theorem ins_perm (i : Int) : ∀ r : List Int, (ins i r).Perm (i :: r)
  | [] => .refl _
  | j :: r => by
    unfold ins
    split
    · exact .refl _
    · exact ((ins_perm i r).cons j).trans (.swap i j r)
theorem isort_perm : ∀ r : List Int, (isort r).Perm r
  | [] => .refl _
  | i :: r => (ins_perm i _).trans ((isort_perm r).cons i)
theorem ins_pw (i : Int) : ∀ r : List Int, r.Pairwise (· ≤ ·) → (ins i r).Pairwise (· ≤ ·)
  | [], _ => by simp [ins]
  | j :: r, h => by
    unfold ins
    obtain ⟨h1, h2⟩ := List.pairwise_cons.mp h
    split
    · rename_i q
      exact List.pairwise_cons.mpr ⟨fun y hy => by
        rcases List.mem_cons.mp hy with e | hy
        · rw [e]; exact q
        · exact Int.le_trans q (h1 y hy), h⟩
    · rename_i q
      refine List.pairwise_cons.mpr ⟨fun y hy => ?_, ins_pw i r h2⟩
      rcases List.mem_cons.mp ((ins_perm i r).mem_iff.mp hy) with e | hy
      · omega
      · exact h1 y hy
theorem isort_pw : ∀ r : List Int, (isort r).Pairwise (· ≤ ·)
  | [] => .nil
  | i :: r => ins_pw i _ (isort_pw r)
theorem pw_uniq : ∀ {a b : List Int}, a.Perm b → a.Pairwise (· ≤ ·) → b.Pairwise (· ≤ ·) → a = b
  | [], b, p, _, _ => by simpa using p.symm
  | x :: a, [], p, _, _ => by simpa using p
  | x :: a, y :: b, p, ha, hb => by
    obtain ⟨a1, a2⟩ := List.pairwise_cons.mp ha
    obtain ⟨b1, b2⟩ := List.pairwise_cons.mp hb
    have e : x = y := by
      have h1 : x ∈ y :: b := p.mem_iff.mp List.mem_cons_self
      have h2 : y ∈ x :: a := p.mem_iff.mpr List.mem_cons_self
      rcases List.mem_cons.mp h1 with e | h1
      · exact e
      · rcases List.mem_cons.mp h2 with e | h2
        · exact e.symm
        · have := a1 y h2; have := b1 x h1; omega
    subst e
    rw [pw_uniq p.cons_inv a2 b2]

/-! ### tuples of ints: sum, min, max -/
theorem holdInts {h : Heap} : ∀ {vs : List Value} {ns : List Int}, IntsAre vs ns → W.HoldAll h vs ns
  | _, _, .nil => W.HoldAll.nil
  | _, _, .cons n t r => W.HoldAll.cons ⟨_, .int n t⟩ (holdInts r)
section
variable {X : Cx}
theorem cr_sumT (hc : X.calm = true) : CallR X (.builtin "sum") (fun vs H Q => ∃ (a : Addr) (ns : List Int), vs = [V.ref a] ∧ SqT X.K H a (ns.map V.int) ∧ Q (.int ns.sum) H) := by
  intro pins s σ H vs us Q I r h
  obtain ⟨a, ns, rfl, hs, q⟩ := h
  obtain ⟨its, rv, hl, _⟩ := I.tuple hs
  rw [Vals.ref1 r]
  obtain ⟨xs, e⟩ := rv.ints.allInts.items
  have hn : numsOf (intItems xs).toList = ns := by rw [← e]; exact rv.ints.numsOf
  rw [nums_intItems] at hn
  rw [e] at hl
  refine PySem.W.ktm_sumG (I.ok.hd hc) hl fun h' tk t' hk => ?_
  rw [preSum_eq, List.take_of_length_le (by simp), hn]
  exact ⟨.int _, H, I.kept hk, ⟨_, rfl⟩, q⟩
theorem cr_minT (hc : X.calm = true) (hu : X.A.units + 65 < cLine) : CallR X (.builtin "min") (fun vs H Q => ∃ (a : Addr) (i : Int) (r : List Int), vs = [V.ref a] ∧ SqT X.K H a ((i :: r).map V.int) ∧ Q (.int (least i r)) H) := by
  intro pins s σ H vs us Q I r h
  obtain ⟨a, i, ns, rfl, hs, q⟩ := h
  obtain ⟨its, rv, hl, _⟩ := I.tuple hs
  rw [Vals.ref1 r]
  refine W.min_tuple_datum (α := Int) (x := i) (xs := ns) (I.ok.hd hc) hl (holdInts rv.ints) (by show X.A.units + 1 + 0 < cLine; omega) fun j v h' tk hj ⟨as, hr⟩ hk => ?_
  cases hr
  rw [minOf_least]
  exact ⟨.int _, H, I.kept hk, ⟨_, rfl⟩, q⟩
theorem cr_maxT (hc : X.calm = true) (hu : X.A.units + 65 < cLine) : CallR X (.builtin "max") (fun vs H Q => ∃ (a : Addr) (i : Int) (r : List Int), vs = [V.ref a] ∧ SqT X.K H a ((i :: r).map V.int) ∧ Q (.int (most i r)) H) := by
  intro pins s σ H vs us Q I r h
  obtain ⟨a, i, ns, rfl, hs, q⟩ := h
  obtain ⟨its, rv, hl, _⟩ := I.tuple hs
  rw [Vals.ref1 r]
  refine W.max_tuple_datum (α := Int) (x := i) (xs := ns) (I.ok.hd hc) hl (holdInts rv.ints) (by show X.A.units + 1 + 0 < cLine; omega) fun j v h' tk hj ⟨as, hr⟩ hk => ?_
  cases hr
  rw [maxOf_most]
  exact ⟨.int _, H, I.kept hk, ⟨_, rfl⟩, q⟩

/-! ### one rule for each built-in of one -/
def rB1 (K : PySem.W.Frag) (o : B1) : List V → Hp → VK → Prop := fun xs H Q => ∃ x, xs = [x] ∧ rOp1 K (opB1 o) x H Q
theorem CallR.weak {f : Value} {r r' : List V → Hp → VK → Prop} (h : CallR X f r) (w : ∀ xs H Q, r' xs H Q → r xs H Q) : CallR X f r' := fun pins s σ H xs us Q I rs q => h pins s σ H xs us Q I rs (w _ _ _ q)
theorem b1_len : CallR X (.builtin "len") (rB1 X.K .len) := by
  refine CallR.weak (CallR.or call_len_seq call_len_str) fun xs H Q h => ?_
  obtain ⟨x, rfl, Z, dx, r, zl, hx, e, w⟩ := h
  cases dx <;> simp only [opB1] at e <;> try (cases e; done)
  · split at e
    · rename_i hl
      cases e
      exact .inr ⟨_, by rw [hx.str], hl, w.1 _ (.int _)⟩
    · cases e
  · cases e
    obtain ⟨a, vs, rfl, h1, f⟩ := hx.list
    exact .inl ⟨a, vs, rfl, .inl (.inl (.inl h1)), by rw [f.length]; exact w.1 _ (.int _)⟩
  · cases e
    obtain ⟨a, vs, rfl, h1, f⟩ := hx.tuple
    exact .inl ⟨a, vs, rfl, .inr h1, by rw [f.length]; exact w.1 _ (.int _)⟩
theorem trs_of {H : Hp} {Z : Addr → Prop} : ∀ {vs : List V} {ds : List PyData} {bs : List Bool}, FzAll X.K H Z vs ds → asTr ds = some bs → Paired TrV vs bs
  | _, _, _, .nil, e => by cases e; exact .nil
  | _, _, bs, .cons (d := d) h r, e => by
    cases d <;> try (simp [asTr] at e; done)
    · cases h
      simp only [asTr, Option.map_eq_some_iff] at e
      obtain ⟨js, e1, rfl⟩ := e
      exact .cons rfl (trs_of r e1)
    · cases h
      simp only [asTr, Option.map_eq_some_iff] at e
      obtain ⟨js, e1, rfl⟩ := e
      exact .cons rfl (trs_of r e1)
theorem b1_all (hc : X.calm = true) : CallR X (.builtin "all") (rB1 X.K .all) := by
  refine CallR.weak (cr_allX hc) fun xs H Q h => ?_
  obtain ⟨x, rfl, Z, dx, r, zl, hx, e, w⟩ := h
  cases dx <;> simp only [opB1, seqOf, Option.bind_none, Option.bind_some] at e <;> try (cases e; done)
  · obtain ⟨bs, e1, rfl⟩ := Option.map_eq_some_iff.mp e
    obtain ⟨a, vs, rfl, h1, f⟩ := hx.list
    exact ⟨a, vs, bs, rfl, .inl (.inl (.inl h1)), trs_of f e1, w.1 _ (.bl _)⟩
  · obtain ⟨bs, e1, rfl⟩ := Option.map_eq_some_iff.mp e
    obtain ⟨a, vs, rfl, h1, f⟩ := hx.tuple
    exact ⟨a, vs, bs, rfl, .inr h1, trs_of f e1, w.1 _ (.bl _)⟩
theorem b1_any (hc : X.calm = true) : CallR X (.builtin "any") (rB1 X.K .any) := by
  refine CallR.weak (cr_anyX hc) fun xs H Q h => ?_
  obtain ⟨x, rfl, Z, dx, r, zl, hx, e, w⟩ := h
  cases dx <;> simp only [opB1, seqOf, Option.bind_none, Option.bind_some] at e <;> try (cases e; done)
  · obtain ⟨bs, e1, rfl⟩ := Option.map_eq_some_iff.mp e
    obtain ⟨a, vs, rfl, h1, f⟩ := hx.list
    exact ⟨a, vs, bs, rfl, .inl (.inl (.inl h1)), trs_of f e1, w.1 _ (.bl _)⟩
  · obtain ⟨bs, e1, rfl⟩ := Option.map_eq_some_iff.mp e
    obtain ⟨a, vs, rfl, h1, f⟩ := hx.tuple
    exact ⟨a, vs, bs, rfl, .inr h1, trs_of f e1, w.1 _ (.bl _)⟩
theorem b1_sum (hc : X.calm = true) : CallR X (.builtin "sum") (rB1 X.K .sum) := by
  refine CallR.weak (CallR.or (cr_sum hc) (cr_sumT hc)) fun xs H Q h => ?_
  obtain ⟨x, rfl, Z, dx, r, zl, hx, e, w⟩ := h
  cases dx <;> simp only [opB1, seqOf, Option.bind_none, Option.bind_some] at e <;> try (cases e; done)
  · obtain ⟨is, e1, rfl⟩ := Option.map_eq_some_iff.mp e
    obtain ⟨a, vs, rfl, h1, f⟩ := hx.list
    obtain rfl := f.ints e1
    exact .inl ⟨a, is, rfl, .inl (.inl h1), w.1 _ (.int _)⟩
  · obtain ⟨is, e1, rfl⟩ := Option.map_eq_some_iff.mp e
    obtain ⟨a, vs, rfl, h1, f⟩ := hx.tuple
    obtain rfl := f.ints e1
    exact .inr ⟨a, is, rfl, h1, w.1 _ (.int _)⟩
theorem cr_minD (hc : X.calm = true) (hu : X.A.units + 65 < cLine) : CallR X (.builtin "min") (fun vs H Q => ∃ (a : Addr) (us : List V) (x : PyData) (xs : List PyData), vs = [V.ref a] ∧ (SqL X.K H a us ∨ SqT X.K H a us) ∧ DpAll X.K H us (x :: xs) ∧ W.AlikeAll (x :: xs) ∧ PyData.depthAll (x :: xs) ≤ 60 ∧
    ∀ (i : Nat) u, us[i]? = some u → (x :: xs)[i]? = some (W.minD x xs) → Q u H) := by
  intro pins s σ H vs ws Q I r h
  obtain ⟨a, us, x, xs, rfl, hs, hd, ha, hdep, q⟩ := h
  rw [Vals.ref1 r]
  have fin : ∀ (its : List Value), Vals us its → ∀ (i : Nat) v h' tk bs, its.toArray[i]? = some v → Reads h' v (W.minD x xs) bs → (∀ b o, s.heap.get? b = some o → h'.get? b = some o) → EP X pins σ Q v { s with heap := h', toks := tk } := by
    intro its rv i v h' tk bs hi rd hk
    obtain ⟨as, ra⟩ := Dp.readsAll I (x :: xs) us its hd rv
    have hi' : its[i]? = some v := by simpa using hi
    obtain ⟨cs, r1, l1, _, _⟩ := W.readsAll_at ra i v hi'
    have e := (PySem.Reads.unique (W.reads_keeps hk r1) _ _ rd).1
    have lu : us.length = its.length := rv.length
    have li : i < its.length := (List.getElem?_eq_some_iff.mp hi').1
    have hu : us[i]? = some us[i] := List.getElem?_eq_getElem (by omega)
    obtain ⟨w, e1, e2⟩ := rv.get hu
    rw [hi'] at e1
    cases e1
    refine ⟨us[i], H, I.kept hk, e2, q i _ hu ?_⟩
    rw [← e, List.getElem?_eq_getElem l1, List.getD_eq_getElem?_getD, List.getElem?_eq_getElem l1]
    rfl
  rcases hs with hs | hs
  · obtain ⟨its, rv, pl, _⟩ := I.list hs
    obtain ⟨as, ra⟩ := Dp.readsAll I (x :: xs) us its hd rv
    exact W.min_list_data (I.ok.hd hc) pl.isList (by simpa using ra) ha (by omega) fun i v h' tk bs hi rd hk => fin its rv i v h' tk bs hi rd hk
  · obtain ⟨its, rv, pl, _⟩ := I.tuple hs
    obtain ⟨as, ra⟩ := Dp.readsAll I (x :: xs) us its hd rv
    exact W.min_tuple_data (I.ok.hd hc) pl (by simpa using ra) ha (by omega) fun i v h' tk bs hi rd hk => fin its rv i v h' tk bs hi rd hk
theorem dmin_of {xs : List PyData} {r : Rv} (h : dmin xs = some r) : ∃ x ys, xs = x :: ys ∧ W.AlikeAll (x :: ys) ∧ PyData.depthAll (x :: ys) ≤ 60 ∧ r = .v (W.minD x ys) ∧ PyData.hasDictAll (x :: ys) = false := by
  cases xs with
  | nil => cases h
  | cons x ys =>
    by_cases hc : (((x :: ys).all fun a => (x :: ys).all fun b => W.alike a b) && ((x :: ys).all fun a => match a with | .none => false | _ => true) && decide (PyData.depthAll (x :: ys) ≤ 60) && !PyData.hasDictAll (x :: ys)) = true
    · have e : dmin (x :: ys) = some (.v (W.minD x ys)) := if_pos hc
      rw [e] at h
      cases h
      rw [Bool.and_eq_true, Bool.and_eq_true, Bool.and_eq_true, decide_eq_true_eq, Bool.not_eq_true'] at hc
      obtain ⟨⟨⟨h1, h2⟩, h3⟩, h4⟩ := hc
      refine ⟨x, ys, rfl, ⟨fun a ha b hb => ?_, fun a ha e => ?_⟩, h3, rfl, h4⟩
      · exact List.all_eq_true.mp (List.all_eq_true.mp h1 a ha) b hb
      · have := List.all_eq_true.mp h2 a ha
        rw [e] at this
        exact Bool.false_ne_true this
    · have e : dmin (x :: ys) = none := if_neg hc
      rw [e] at h
      cases h
theorem b1_min (hc : X.calm = true) (hu : X.A.units + 65 < cLine) : CallR X (.builtin "min") (rB1 X.K .min) := by
  refine CallR.weak (CallR.or (cr_min hc) (CallR.or (cr_minT hc hu) (cr_minD hc hu))) fun xs H Q h => ?_
  obtain ⟨x, rfl, Z, dx, r, zl, hx, e, w⟩ := h
  have big : ∀ {ys : List PyData} {us : List V} {a : Addr}, FzAll X.K H Z us ys → dmin ys = some r → (SqL X.K H a us ∨ SqT X.K H a us) → ∃ (a' : Addr) (us : List V) (x : PyData) (xs : List PyData), [V.ref a] = [V.ref a'] ∧ (SqL X.K H a' us ∨ SqT X.K H a' us) ∧ DpAll X.K H us (x :: xs) ∧ W.AlikeAll (x :: xs) ∧ PyData.depthAll (x :: xs) ≤ 60 ∧
      ∀ (i : Nat) u, us[i]? = some u → (x :: xs)[i]? = some (W.minD x xs) → Q u H := by
    intro ys us a f hm hs
    obtain ⟨x, zs, rfl, h1, h2, rfl, h3⟩ := dmin_of hm
    refine ⟨a, us, x, zs, rfl, hs, f.dp h3, h1, h2, fun i u hi hd => ?_⟩
    obtain ⟨d, e1, e2⟩ := f.getV hi
    rw [hd] at e1
    cases e1
    exact w.1 _ e2
  cases dx <;> simp only [opB1, seqOf, Option.bind_none, Option.bind_some] at e <;> try (cases e; done)
  · unfold minX at e
    obtain ⟨a, vs, rfl, h1, f⟩ := hx.list
    split at e
    · rename_i r' hm
      cases e
      unfold minI at hm
      obtain ⟨is, e1, e⟩ := Option.bind_eq_some_iff.mp hm
      obtain rfl := f.ints e1
      cases is with
      | nil => cases e
      | cons i is =>
        cases e
        refine .inl ⟨a, i :: is, rfl, .inl (.inl h1), by simp, fun m hm hy => ?_⟩
        have e2 : m = least i is := Int.le_antisymm (hy _ (least_mem i is)) (least_le i is _ hm)
        rw [e2]
        exact w.1 _ (.int _)
    · exact .inr (.inr (big f e (.inl (.inl (.inl h1)))))
  · unfold minX at e
    obtain ⟨a, vs, rfl, h1, f⟩ := hx.tuple
    split at e
    · rename_i r' hm
      cases e
      unfold minI at hm
      obtain ⟨is, e1, e⟩ := Option.bind_eq_some_iff.mp hm
      obtain rfl := f.ints e1
      cases is with
      | nil => cases e
      | cons i is =>
        cases e
        exact .inr (.inl ⟨a, i, is, rfl, h1, w.1 _ (.int _)⟩)
    · exact .inr (.inr (big f e (.inr h1)))
theorem b1_max (hc : X.calm = true) (hu : X.A.units + 65 < cLine) : CallR X (.builtin "max") (rB1 X.K .max) := by
  refine CallR.weak (CallR.or (cr_max hc) (cr_maxT hc hu)) fun xs H Q h => ?_
  obtain ⟨x, rfl, Z, dx, r, zl, hx, e, w⟩ := h
  cases dx <;> simp only [opB1, seqOf, Option.bind_none, Option.bind_some] at e <;> try (cases e; done)
  · obtain ⟨is, e1, e⟩ := Option.bind_eq_some_iff.mp e
    obtain ⟨a, vs, rfl, h1, f⟩ := hx.list
    obtain rfl := f.ints e1
    cases is with
    | nil => cases e
    | cons i is =>
      cases e
      refine .inl ⟨a, i :: is, rfl, .inl (.inl h1), by simp, fun m hm hy => ?_⟩
      have e2 : m = most i is := Int.le_antisymm (most_ge i is _ hm) (hy _ (most_mem i is))
      rw [e2]
      exact w.1 _ (.int _)
  · obtain ⟨is, e1, e⟩ := Option.bind_eq_some_iff.mp e
    obtain ⟨a, vs, rfl, h1, f⟩ := hx.tuple
    obtain rfl := f.ints e1
    cases is with
    | nil => cases e
    | cons i is =>
      cases e
      exact .inr ⟨a, i, is, rfl, h1, w.1 _ (.int _)⟩
theorem b1_sorted : CallR X (.builtin "sorted") (rB1 X.K .sorted) := by
  refine CallR.weak cr_sortedI fun xs H Q h => ?_
  obtain ⟨x, rfl, Z, dx, r, zl, hx, e, w⟩ := h
  cases dx <;> simp only [opB1] at e <;> try (cases e; done)
  obtain ⟨is, e1, rfl⟩ := Option.map_eq_some_iff.mp e
  obtain ⟨a, vs, rfl, h1, f⟩ := hx.list
  obtain rfl := f.ints e1
  refine ⟨a, is, rfl, .inl (.inl h1), fun ns' p p1 p2 hp => ?_⟩
  obtain rfl : ns' = isort is := pw_uniq (p1.trans (isort_perm is).symm) p2 (isort_pw is)
  exact w _ (FzAll.ofInts _) p hp
theorem b1_abs : CallR X (.builtin "abs") (rB1 X.K .abs) := by
  refine CallR.weak call_abs fun xs H Q h => ?_
  obtain ⟨x, rfl, Z, dx, r, zl, hx, e, w⟩ := h
  cases dx <;> simp only [opB1] at e <;> try (cases e; done)
  cases e
  exact ⟨_, by rw [hx.int], w.1 _ (.int _)⟩
theorem b1_int : CallR X (.type "int") (rB1 X.K .int) := by
  refine CallR.weak call_int1 fun xs H Q h => ?_
  obtain ⟨x, rfl, Z, dx, r, zl, hx, e, w⟩ := h
  cases dx <;> simp only [opB1] at e <;> try (cases e; done)
  · cases e
    exact .inr ⟨_, by rw [hx.bool], w.1 _ (.int _)⟩
  · cases e
    exact .inl ⟨_, by rw [hx.int], w.1 _ (.int _)⟩
theorem b1_tuple : CallR X (.type "tuple") (rB1 X.K .tuple) := by
  refine CallR.weak call_tuple_of fun xs H Q h => ?_
  obtain ⟨x, rfl, Z, dx, r, zl, hx, e, w⟩ := h
  cases dx <;> simp only [opB1] at e <;> try (cases e; done)
  · cases e
    obtain ⟨a, vs, rfl, h1, f⟩ := hx.list
    exact ⟨a, vs, rfl, .inl ⟨.inl (.inl h1), fun l hl => w.2 _ _ rfl f l hl⟩⟩
  · cases e
    obtain ⟨a, vs, rfl, h1, f⟩ := hx.tuple
    exact ⟨a, vs, rfl, .inr ⟨h1, w.1 _ (.tup h1 f)⟩⟩
theorem b1_list : CallR X (.type "list") (rB1 X.K .list) := by
  refine CallR.weak call_list_of fun xs H Q h => ?_
  obtain ⟨x, rfl, Z, dx, r, zl, hx, e, w⟩ := h
  cases dx <;> simp only [opB1] at e <;> try (cases e; done)
  · cases e
    obtain ⟨a, vs, rfl, h1, f⟩ := hx.list
    exact ⟨a, vs, rfl, .inl (.inl (.inl h1)), fun l hl => w _ f l hl⟩
  · cases e
    obtain ⟨a, vs, rfl, h1, f⟩ := hx.tuple
    exact ⟨a, vs, rfl, .inr h1, fun l hl => w _ f l hl⟩
end
end Ev

/-! Ev, part J: argument lists, displays, calls of built-ins. -/
namespace Ev
open PySem L2 PyProof.Rows

/-- a list that was just given stands among them -/
def Nw (rs : List Rv) (vs : List V) (a : Addr) : Prop := ∃ (i : Nat) (ys : List PyData), rs[i]? = some (Rv.n ys) ∧ vs[i]? = some (V.ref a)
inductive RvsOk (K : PySem.W.Frag) (fa : Nat → V → Prop) (H0 H : Hp) (Z : Addr → Prop) (σ : L2.St) : List Rv → List V → Prop
  | nil : RvsOk K fa H0 H Z σ [] []
  | cons {r : Rv} {rs : List Rv} {v : V} {vs : List V} : RvOk K fa H0 H Z σ r v → (∀ ys a, r = .n ys → v = V.ref a → ¬ Nw rs vs a) → RvsOk K fa H0 H Z σ rs vs → RvsOk K fa H0 H Z σ (r :: rs) (v :: vs)
section
variable {K : PySem.W.Frag} {fa : Nat → V → Prop} {σ : L2.St} {H0 H H1 H2 : Hp} {Z0 Z Z1 Z2 : Addr → Prop} {env0 env env1 env2 : Env}
theorem Nw.cons {r : Rv} {rs : List Rv} {v : V} {vs : List V} {a : Addr} (h : Nw (r :: rs) (v :: vs) a) : (∃ ys, r = .n ys ∧ v = V.ref a) ∨ Nw rs vs a := by
  obtain ⟨i, ys, h1, h2⟩ := h
  cases i with
  | zero => simp at h1 h2; exact .inl ⟨ys, h1, h2⟩
  | succ i => exact .inr ⟨i, ys, by simpa using h1, by simpa using h2⟩
theorem Nw.not_nil {vs : List V} {a : Addr} : ¬ Nw [] vs a := fun ⟨i, ys, h1, _⟩ => by simp at h1
theorem Nw.tail {r : Rv} {rs : List Rv} {v : V} {vs : List V} {a : Addr} (h : Nw rs vs a) : Nw (r :: rs) (v :: vs) a := by
  obtain ⟨i, ys, h1, h2⟩ := h
  exact ⟨i + 1, ys, by simpa using h1, by simpa using h2⟩
theorem RvsOk.nw : ∀ {rs : List Rv} {vs : List V} {a : Addr}, RvsOk K fa H0 H Z σ rs vs → Nw rs vs a → Z a ∧ H0 a = none ∧ ∃ us, H a = some (HO.lst us)
  | _, _, a, .nil, h => (Nw.not_nil h).elim
  | _, _, a, .cons h1 _ h3, h => by
    rcases h.cons with ⟨ys, rfl, rfl⟩ | h
    · obtain ⟨b, vs, e, q1, q2, q3, _⟩ := h1
      cases e
      exact ⟨q2, q3, vs, q1⟩
    · exact h3.nw h
theorem RvsOk.back (m : Mid K fa σ H0 Z0 env0 H Z env) : ∀ {rs : List Rv} {vs : List V}, RvsOk K fa H H1 Z1 σ rs vs → RvsOk K fa H0 H1 Z1 σ rs vs
  | _, _, .nil => .nil
  | _, _, .cons h1 h2 h3 => .cons (h1.back m) h2 (h3.back m)
theorem RvsOk.on2 (m : Mid K fa σ H0 Z0 env0 H Z env) (n : Mid K fa σ H Z env H1 Z1 env1) : ∀ {rs : List Rv} {vs : List V}, RvsOk K fa H0 H Z σ rs vs → RvsOk K fa H0 H1 Z1 σ rs vs
  | _, _, .nil => .nil
  | _, _, .cons h1 h2 h3 => .cons (RvOk.on m n h1) h2 (RvsOk.on2 m n h3)
theorem RvsOk.length : ∀ {rs : List Rv} {vs : List V}, RvsOk K fa H0 H Z σ rs vs → rs.length = vs.length
  | _, _, .nil => rfl
  | _, _, .cons _ _ h => by rw [List.length_cons, List.length_cons, h.length]
theorem RvsOk.get : ∀ {rs : List Rv} {vs : List V} {i : Nat} {r : Rv}, RvsOk K fa H0 H Z σ rs vs → rs[i]? = some r → ∃ v, vs[i]? = some v ∧ RvOk K fa H0 H Z σ r v
  | _, _, _, _, .nil, e => by simp at e
  | _, _, 0, _, .cons h _ _, e => by simp at e; subst e; exact ⟨_, rfl, h⟩
  | _, _, i + 1, r, .cons _ _ h, e => by
    obtain ⟨v, h1, h2⟩ := h.get (i := i) (r := r) (by simpa using e)
    exact ⟨v, by simpa using h1, h2⟩
/-- less is owned, but not of what was given -/
theorem RvOk.less {r : Rv} {v : V} (s : ∀ a, Z1 a → Z a) (k : ∀ a ys, r = .n ys → v = V.ref a → Z a → H0 a = none → Z1 a) (h : RvOk K fa H0 H Z σ r v) : RvOk K fa H0 H Z1 σ r v := by
  cases r with
  | v x => exact Fz.sub s h
  | n xs =>
    obtain ⟨b, vs, rfl, h1, h2, h3, h4⟩ := h
    exact ⟨b, vs, rfl, h1, k b xs rfl rfl h2 h3, h3, FzAll.sub s h4⟩
  | p i => exact h
  | r xs =>
    obtain ⟨b, vs, rfl, h1, h3⟩ := h
    exact ⟨b, vs, rfl, h1, FzAll.sub s h3⟩
  | f k => exact h
theorem RvsOk.less (s : ∀ a, Z1 a → Z a) : ∀ {rs : List Rv} {vs : List V}, (∀ a, Nw rs vs a → Z a → H0 a = none → Z1 a) → RvsOk K fa H0 H Z σ rs vs → RvsOk K fa H0 H Z1 σ rs vs
  | _, _, _, .nil => .nil
  | _, _, k, .cons h1 h2 h3 => .cons (h1.less s fun a ys e1 e2 => k a ⟨0, ys, by rw [e1]; rfl, by rw [e2]; rfl⟩) h2 (RvsOk.less s (fun a q => k a q.tail) h3)
/-- all that was given is kept -/
theorem Mid.keepAll : ∀ {rs : List Rv} {vs : List V} {xs : List PyData} {env env2 : Env} {Z : Addr → Prop}, Mid K fa σ H0 Z0 env0 H Z env → RvsOk K fa H0 H Z σ rs vs → Ev.keepAll env rs = some (env2, xs) →
    ∃ Z1, Mid K fa σ H0 Z0 env0 H Z1 env2 ∧ FzAll K H Z1 vs xs ∧ ∀ a, Z1 a → Z a
  | _, _, xs, env, env2, Z, m, .nil, e => by cases e; exact ⟨Z, m, .nil, fun _ q => q⟩
  | _, _, xs, env, env2, Z, m, .cons (r := r) h1 h2 h3, e => by
    unfold Ev.keepAll at e
    cases k : Ev.keep env r with
    | none => rw [k] at e; cases e
    | some p =>
      obtain ⟨env1, x⟩ := p
      rw [k] at e
      obtain ⟨Z1, m1, f1, s1, k1⟩ := m.keep h1 k
      dsimp only at e
      cases k2 : Ev.keepAll env1 _ with
      | none => rw [k2] at e; cases e
      | some p =>
        obtain ⟨env3, ys⟩ := p
        rw [k2] at e
        cases e
        obtain ⟨Z2, m2, f2, s2⟩ := Mid.keepAll m1 (h3.less s1 fun a q z n => k1 a z n fun ⟨ys, e1⟩ e2 => h2 ys a e1 e2 q) k2
        exact ⟨Z2, m2, .cons (f1.sub s2) f2, fun a q => s1 a (s2 a q)⟩
end

/-! ### the reading of an argument list -/
def FinA (K : PySem.W.Frag) (fa : Nat → V → Prop) (X : XW) (σ : L2.St) (H0 : Hp) (Z0 : Addr → Prop) (env0 : Env) (res : Rs (Env × List Rv)) (Q : List V → Hp → Prop) : Prop :=
  match res with
  | .ok p => ∀ Z' H' vs, Mid K fa σ H0 Z0 env0 H' Z' p.1 → RvsOk K fa H0 H' Z' σ p.2 vs → Q vs H'
  | .ex c a => ∀ Mu' Z' H', Stp (Own σ env0) Z0 H0 Mu' Z' H' → X c a σ H'
  | .bad => False
def tA (K : PySem.W.Frag) (fa : Nat → V → Prop) (XX : XW) (G : Tab) (es : List ME) : TA := fun σ H Q => ∃ Z env, Eok K fa H Z σ env ∧ FinA K fa XX σ H Z env (evs G es env) Q
theorem PA.weak {X : Cx} {es : List Expr} {t t' : TA} (h : PA X es t) (w : ∀ σ H Q, t' σ H Q → t σ H Q) : PA X es t' := ⟨fun pos pins s σ H Q I q => h.run pos pins s σ H Q I (w σ H Q q)⟩
section
variable {X : Cx} {fa : Nat → V → Prop} {XX : XW} {G : Tab} {a b : Expr} {ma mb : ME} {es : List Expr} {ms : List ME} {pos : Pos}
variable {σ : L2.St} {H0 H : Hp} {Z0 Z : Addr → Prop} {env0 env : Env}
theorem tA.mono {σ : L2.St} {H : Hp} {Q Q' : List V → Hp → Prop} (h : tA X.K fa XX G ms σ H Q) (w : ∀ v H', Q v H' → Q' v H') : tA X.K fa XX G ms σ H Q' := by
  obtain ⟨Z, env, ok, h⟩ := h
  refine ⟨Z, env, ok, ?_⟩
  revert h
  cases evs G ms env with
  | bad => exact fun z => z
  | ex c a => exact fun z => z
  | ok p => exact fun z Z' H' v m r => w _ _ (z Z' H' v m r)
/-- the list is evaluated, the rest goes on from there -/
theorem tA.first {k : Env × List Rv → Rs (Env × Rv)} {Q : VK} (ok : Eok X.K fa H Z σ env) (h : Fin X.K fa XX σ H Z env ((evs G ms env).bind k) Q) :
    tA X.K fa XX G ms σ H fun vs H1 => ∃ Z1 env1 rs, Mid X.K fa σ H Z env H1 Z1 env1 ∧ RvsOk X.K fa H H1 Z1 σ rs vs ∧ Fin X.K fa XX σ H Z env (k (env1, rs)) Q := by
  refine ⟨Z, env, ok, ?_⟩
  cases e : evs G ms env with
  | bad => rw [e] at h; exact h
  | ex c a =>
    rw [e] at h
    exact h
  | ok p =>
    rw [e] at h
    intro Z' H' v m1 hr
    exact ⟨Z', p.1, p.2, m1, hr, h⟩
theorem a_nil : PA X [] (tA X.K fa XX G []) := PA.weak pa_nil fun σ H Q ⟨Z, env, ok, h⟩ => h Z H [] (.refl ok) .nil
theorem a_cons (ha : PE X a (tE X.K fa XX G ma)) (hr : PA X es (tA X.K fa XX G ms)) (hs : starEach (a :: es) X.env = (false, eval a X.env) :: starEach es X.env) : PA X (a :: es) (tA X.K fa XX G (ma :: ms)) := by
  refine PA.weak (pa_cons ha hr hs) fun σ H Q ⟨Z, env, ok, h⟩ => ?_
  refine ⟨Z, env, ok, ?_⟩
  unfold evs at h
  revert h
  cases ev G ma env with
  | bad => exact fun z => z
  | ex c a => exact fun z => z
  | ok p =>
    obtain ⟨env1, r⟩ := p
    intro h Z1 H1 v m1 hr
    refine ⟨Z1, env1, m1.ok, ?_⟩
    simp only [Rs.bind] at h
    revert h
    cases evs G ms env1 with
    | bad => exact fun z => z
    | ex c a => exact fun z Mu' Z' H' s => z Mu' Z' H' (m1.st.trans s)
    | ok q =>
      intro h Z2 H2 vs m2 hrs
      refine h Z2 H2 (v :: vs) (m1.trans m2) (.cons (RvOk.on m1 m2 hr) (fun ys a e1 e2 q => ?_) (hrs.back m1))
      subst e1 e2
      obtain ⟨b, us, e, q1, _⟩ := hr
      cases e
      obtain ⟨_, n, _⟩ := hrs.nw q
      rw [q1] at n
      cases n
theorem s_tup {c : Nat} (h : PA X es (tA X.K fa XX G ms)) : PE X (.Tuple es c pos) (tE X.K fa XX G (.tup ms)) := by
  refine PE.weak (pe_tup h) fun σ H Q ⟨Z, env, ok, h⟩ => ?_
  unfold ev at h
  refine tA.mono (tA.first ok h) fun vs H1 ⟨Z1, env1, rs, m, hrs, hf⟩ => ?_
  dsimp only at hf
  cases k : Ev.keepAll env1 rs with
  | none => rw [k] at hf; exact hf.elim
  | some p =>
    obtain ⟨env2, xs⟩ := p
    rw [k] at hf
    dsimp only at hf
    obtain ⟨Z2, m2, f, _⟩ := m.keepAll hrs k
    split at hf
    · rename_i hl
      refine ⟨by rw [f.length]; exact hl, fun p hp => ?_⟩
      exact hf Z2 _ _ (m2.newT hp) (.tup (.inl (.inl upd_same)) (f.newT m2.ok.zl hp))
    · exact hf.elim
theorem s_lst (h : PA X es (tA X.K fa XX G ms)) : PE X (.List es pos) (tE X.K fa XX G (.lst ms)) := by
  refine PE.weak (pe_lst h) fun σ H Q ⟨Z, env, ok, h⟩ => ?_
  unfold ev at h
  refine tA.mono (tA.first ok h) fun vs H1 ⟨Z1, env1, rs, m, hrs, hf⟩ => ?_
  dsimp only at hf
  cases k : Ev.keepAll env1 rs with
  | none => rw [k] at hf; exact hf.elim
  | some p =>
    obtain ⟨env2, xs⟩ := p
    rw [k] at hf
    dsimp only at hf
    obtain ⟨Z2, m2, f, _⟩ := m.keepAll hrs k
    split at hf
    · rename_i hl
      refine ⟨by rw [f.length]; exact hl, fun p hp => ?_⟩
      exact hf _ _ _ (m2.newL hp) ⟨p, vs, rfl, upd_same, .inr rfl, m2.fresh hp, f.newL m2.ok.zl hp⟩
    · exact hf.elim

/-! ### built-ins -/
theorem minX_v {xs : List PyData} {r : Rv} (h : minX xs = some r) : ∃ x, r = .v x := by
  unfold minX at h
  split at h
  · rename_i q hm
    cases h
    unfold minI at hm
    obtain ⟨is, _, e⟩ := Option.bind_eq_some_iff.mp hm
    cases is with
    | nil => cases e
    | cons i is => cases e; exact ⟨_, rfl⟩
  · obtain ⟨_, _, _, _, _, rfl, _⟩ := dmin_of h
    exact ⟨_, rfl⟩
theorem opB1_v {o : B1} {x : PyData} {r : Rv} (h : opB1 o x = some r) : (∃ x, r = .v x) ∨ ∃ xs, r = .n xs := by
  cases o <;> cases x <;> simp only [opB1, shw, seqOf, Option.bind_none, Option.bind_some, Option.map_eq_some_iff, Option.bind_eq_some_iff] at h <;> (repeat' (split at h)) <;>
    first | exact .inl (minX_v h) | (cases h; done) | (cases h; exact .inl ⟨_, rfl⟩) | (cases h; exact .inr ⟨_, rfl⟩) | (obtain ⟨_, _, rfl⟩ := h; first | exact .inl ⟨_, rfl⟩ | exact .inr ⟨_, rfl⟩) |
    (obtain ⟨_, _, h⟩ := h; split at h <;> first | (cases h; done) | (cases h; exact .inl ⟨_, rfl⟩))
/-- what a built-in of one asks -/
def rB1x (K : PySem.W.Frag) (o : B1) : List V → Hp → VK → Prop := fun vs H Q => rB1 K o vs H Q ∨ ∃ a us, vs = [V.ref a] ∧ RdL K H a us ∧ match o with
  | .list => ∀ l, H l = none → Q (.ref l) (upd H l (.lst us))
  | .len => Q (.int us.length) H
  | _ => False
theorem b1x_of {f : Value} {o : B1} (h : CallR X f (rB1 X.K o)) (hl : o ≠ .list) (hn : o ≠ .len) : CallR X f (rB1x X.K o) := by
  refine CallR.weak h fun vs H Q q => ?_
  rcases q with q | ⟨a, us, _, _, q⟩
  · exact q
  · cases o <;> first | exact q.elim | exact absurd rfl hl | exact absurd rfl hn
theorem b1x_list : CallR X (.type "list") (rB1x X.K .list) := by
  refine CallR.weak (CallR.or b1_list call_list_of) fun vs H Q q => ?_
  rcases q with q | ⟨a, us, rfl, h, q⟩
  · exact .inl q
  · exact .inr ⟨a, us, rfl, .inl h.sq, q⟩
theorem b1x_len : CallR X (.builtin "len") (rB1x X.K .len) := by
  refine CallR.weak (CallR.or b1_len call_len_seq) fun vs H Q q => ?_
  rcases q with q | ⟨a, us, rfl, h, q⟩
  · exact .inl q
  · exact .inr ⟨a, us, rfl, .inl h.sq, q⟩
theorem b1_fin {o : B1} {Q : VK} (ok : Eok X.K fa H Z σ env) (h : Fin X.K fa XX σ H Z env (ev G (.b1 o ma) env) Q) : tE X.K fa XX G ma σ H fun x H1 => rB1x X.K o [x] H1 Q := by
  unfold ev at h
  refine tM.mono (one ok h) fun x H1 ⟨Z1, env1, ra, M, r1, hf⟩ => ?_
  have gen : ∀ dx r, dat env1 ra = some dx → opB1 o dx = some r → Fin X.K fa XX σ H Z env (.ok (env1, r)) Q → rB1x X.K o [x] H1 Q := fun dx r e1 e2 f =>
    .inl ⟨x, rfl, Z1, dx, r, M.ok.zl, r1.ds M.ok e1, e2, Fin.wsh M f (opB1_v e2)⟩
  have read : ∀ xs, ra = .r xs → ∃ a us, x = V.ref a ∧ RdL X.K H1 a us ∧ FzAll X.K H1 Z1 us xs := fun xs e => by
    subst e
    exact r1
  dsimp only at hf
  split at hf
  · obtain ⟨a, us, rfl, h1, h2⟩ := read _ rfl
    refine .inr ⟨a, us, rfl, h1, fun l hl => ?_⟩
    exact hf _ _ _ (M.newL hl) ⟨l, us, rfl, upd_same, .inr rfl, M.fresh hl, h2.newL M.ok.zl hl⟩
  · obtain ⟨a, us, rfl, h1, h2⟩ := read _ rfl
    refine .inr ⟨a, us, rfl, h1, ?_⟩
    show Q (.int us.length) H1
    rw [h2.length]
    exact hf _ _ _ M (.int _)
  · cases hd : dat env1 ra with
    | none => rw [hd] at hf; exact hf.elim
    | some dx =>
      rw [hd] at hf
      dsimp only at hf
      cases hr : opB1 o dx with
      | none => rw [hr] at hf; exact hf.elim
      | some r =>
        rw [hr] at hf
        exact gen dx r hd hr hf
theorem s_b1B {o : B1} {id : String} {x : Str} {p : Pos} (hC : CallR X (.builtin id) (rB1x X.K o)) (hg : Gl X x) (hm : X.mg x = none) (hv : bootBuiltins x = some (.builtin id)) (hn : x ≠ "__name__") (hdb : (x == ("__debug__" : Str)) = false)
    (ha : PE X a (tE X.K fa XX G ma)) (he : starEach [a] X.env = (false, eval a X.env) :: starEach [] X.env) : PE X (.Call (.Name x p) [a] [] pos) (tE X.K fa XX G (.b1 o ma)) := by
  refine PE.weak (pe_callB hC hg hm hv (pa_cons ha pa_nil he) hn hdb he) fun σ H Q ⟨Z, env, ok, h⟩ => ?_
  exact b1_fin ok h
theorem s_b1T {o : B1} {id : String} {x : Str} {p : Pos} (hC : CallR X (.type id) (rB1x X.K o)) (hg : Gl X x) (hm : X.mg x = none) (hv : bootBuiltins x = some (.type id)) (hn : x ≠ "__name__") (hdb : (x == ("__debug__" : Str)) = false)
    (ha : PE X a (tE X.K fa XX G ma)) (he : starEach [a] X.env = (false, eval a X.env) :: starEach [] X.env) : PE X (.Call (.Name x p) [a] [] pos) (tE X.K fa XX G (.b1 o ma)) := by
  refine PE.weak (pe_callTy hC hg hm hv (pa_cons ha pa_nil he) hn hdb he) fun σ H Q ⟨Z, env, ok, h⟩ => ?_
  exact b1_fin ok h
end
end Ev

/-! Ev, part K: isinstance, max and min of two, list methods, list(range(..)). -/
namespace Ev
open PySem L2 PyProof.Rows
def b2Name : B2 → String
  | .max => "max" | .min => "min"
def tyName : Ty → String
  | .int => "int" | .bool => "bool" | .str => "str" | .tuple => "tuple"
/-- the type of data -/
def tyOf : PyData → Option String
  | .none => some "NoneType" | .bool _ => some "bool" | .int _ => some "int" | .str _ => some "str" | .list _ => some "list" | .tuple _ => some "tuple" | .dict _ => none
section
variable {K : PySem.W.Frag} {H : Hp} {Z : Addr → Prop}
theorem ty_of {v : V} {x : PyData} (d : Ds K H Z v x) (nd : ∀ kvs, x ≠ .dict kvs) : ∃ n, tyOf x = some n ∧ TyX K H v (.type n) := by
  cases x with
  | none => rw [d.none_]; exact ⟨_, rfl, .base .non⟩
  | bool b => rw [d.bool]; exact ⟨_, rfl, .base (.bl b)⟩
  | int i => rw [d.int]; exact ⟨_, rfl, .base (.int i)⟩
  | str a => rw [d.str]; exact ⟨_, rfl, .base (.str a)⟩
  | list xs => obtain ⟨a, vs, rfl, h, _⟩ := d.list; exact ⟨_, rfl, .base (.lst h)⟩
  | tuple xs =>
    obtain ⟨a, vs, rfl, h, _⟩ := d.tuple
    rcases h with (h | ⟨o, h⟩) | ⟨o, its, n, h, hc, _⟩
    · exact ⟨_, rfl, .base (.tup h)⟩
    · exact ⟨_, rfl, .fTuple h⟩
    · exact ⟨_, rfl, .kTuple h hc⟩
  | dict kvs => exact (nd kvs rfl).elim
end
theorem isTy_kit : ∀ (t : Ty) (x : PyData) (b : Bool) (n : String), isTy t x = some b → tyOf x = some n → kitB n (tyName t) = some b := by
  intro t x b n h e
  cases t <;> cases x <;> simp only [isTy] at h <;> simp only [tyOf] at e <;> cases h <;> cases e <;> decide +kernel
section
variable {X : Cx} {fa : Nat → V → Prop} {XX : XW} {G : Tab} {a b : Expr} {ma mb : ME} {pos : Pos}
variable {σ : L2.St} {H0 H : Hp} {Z0 Z : Addr → Prop} {env0 env : Env}
theorem s_isi {t : Ty} {x y : Str} {p p2 : Pos} (hg : Gl X x) (hm : X.mg x = none) (hv : bootBuiltins x = some (.builtin "isinstance")) (hn : x ≠ "__name__") (hdb : (x == ("__debug__" : Str)) = false)
    (hgy : Gl X y) (hmy : X.mg y = none) (hvy : bootBuiltins y = some (.type (tyName t))) (hny : y ≠ "__name__") (hdy : (y == ("__debug__" : Str)) = false)
    (ha : PE X a (tE X.K fa XX G ma)) (he : starEach [a, .Name y p2] X.env = (false, eval a X.env) :: starEach [.Name y p2] X.env) (he2 : starEach [.Name y p2] X.env = (false, eval (.Name y p2) X.env) :: starEach [] X.env) (hpl : (backTo pos (starEach [.Name y p2] X.env)).any (·.1) = false) :
    PE X (.Call (.Name x p) [a, .Name y p2] [] pos) (tE X.K fa XX G (.isi ma t)) := by
  refine PE.weak (pe_callB call_isi hg hm hv (pa_cons ha (pa_cons (pe_bltn (v := V.ty (tyName t)) hgy hmy hvy rfl hny hdy) pa_nil he2) he) hn hdb he hpl) fun σ H Q ⟨Z, env, ok, h⟩ => ?_
  unfold ev at h
  refine tM.mono (one ok h) fun v H1 ⟨Z1, env1, ra, M, r1, hf⟩ => ?_
  dsimp only at hf
  cases hd : dat env1 ra with
  | none => rw [hd] at hf; exact hf.elim
  | some d =>
    rw [hd] at hf
    dsimp only at hf
    cases hr : isTy t d with
    | none => rw [hr] at hf; exact hf.elim
    | some r =>
      rw [hr] at hf
      obtain ⟨n, e1, e2⟩ := ty_of (r1.ds M.ok hd) (fun kvs z => by rw [z] at hr; cases t <;> cases hr)
      exact ⟨v, V.ty (tyName t), .type n, .type (tyName t), r, rfl, .ty _, e2, kit_ty (isTy_kit t d r n hr e1), hf Z1 H1 _ M (.bl r)⟩
theorem s_b2 {o : B2} {x : Str} {p : Pos} (hc : X.calm = true) (hg : Gl X x) (hm : X.mg x = none) (hv : bootBuiltins x = some (.builtin (b2Name o))) (hn : x ≠ "__name__") (hdb : (x == ("__debug__" : Str)) = false)
    (ha : PE X a (tE X.K fa XX G ma)) (hb : PE X b (tE X.K fa XX G mb)) (he : starEach [a, b] X.env = (false, eval a X.env) :: starEach [b] X.env) (he2 : starEach [b] X.env = (false, eval b X.env) :: starEach [] X.env) (hpl : (backTo pos (starEach [b] X.env)).any (·.1) = false) :
    PE X (.Call (.Name x p) [a, b] [] pos) (tE X.K fa XX G (.b2 o ma mb)) := by
  have hR : CallR X (.builtin (b2Name o)) (fun xs H Q => ∃ i j, xs = [.int i, .int j] ∧ ∀ r, opB2 o (.int i) (.int j) = some (.int r) → Q (.int r) H) := by
    cases o
    · exact CallR.weak (call_max2 hc) fun xs H Q ⟨i, j, e, q⟩ => ⟨i, j, e, q _ rfl⟩
    · exact CallR.weak (call_min2 hc) fun xs H Q ⟨i, j, e, q⟩ => ⟨i, j, e, q _ rfl⟩
  refine PE.weak (pe_callB hR hg hm hv (pa_cons ha (pa_cons hb pa_nil he2) he) hn hdb he hpl) fun σ H Q ⟨Z, env, ok, h⟩ => ?_
  unfold ev at h
  refine tM.mono (two (k := fun e x y => (ofO (opB2 o x y)).bind fun r => .ok (e, .v r)) ok h) fun x H1 h1 => tM.mono h1 fun y H2 ⟨Z2, env2, dx, dy, M, d1, d2, hf⟩ => ?_
  cases hr : opB2 o dx dy with
  | none => rw [hr] at hf; exact hf.elim
  | some r =>
    rw [hr] at hf
    cases o <;> cases dx <;> cases dy <;> simp only [opB2] at hr <;> try (cases hr; done)
    · cases hr
      exact ⟨_, _, by rw [d1.int, d2.int], fun r e => by cases e; exact hf Z2 H2 _ M (.int _)⟩
    · cases hr
      exact ⟨_, _, by rw [d1.int, d2.int], fun r e => by cases e; exact hf Z2 H2 _ M (.int _)⟩

/-! ### a name's own list is written -/
theorem Stp.write {Mu : Addr → Prop} {a : Addr} {us : List V} (m : ∀ b, Mu b → Z b) (z : Zl Z H) (hm : Mu a) : Stp Mu Z H Mu Z (upd H a (.lst us)) :=
  ⟨fun b o h n => by rw [upd_ne (fun e => n (by rw [e]; exact hm))]; exact h, fun b o h => by
    by_cases e : b = a
    · subst e; exact ⟨_, upd_same⟩
    · exact ⟨o, by rw [upd_ne e]; exact h⟩, fun _ h _ => h, fun _ h => .inl h, fun _ h => .inl h, m, z⟩
theorem ownd_setl {i j : Nat} {xs ys : List PyData} (h : env[i]? = some (some (.l xs))) : ownd (env.set i (some (.l ys))) j → ownd env j := fun ⟨zs, q⟩ => by
  by_cases e : j = i
  · subst e; exact ⟨xs, .inl h⟩
  · rw [List.getElem?_set_ne (Ne.symm e)] at q
    exact ⟨zs, q⟩
theorem Own_setl {i : Nat} {xs ys : List PyData} (h : env[i]? = some (some (.l xs))) {b : Addr} : Own σ (env.set i (some (.l ys))) b → Own σ env b := fun ⟨j, zs, q1, q2⟩ => by
  by_cases e : j = i
  · subst e; exact ⟨j, xs, h, q2⟩
  · rw [List.getElem?_set_ne (Ne.symm e)] at q1
    exact ⟨j, zs, q1, q2⟩
theorem Mid.write {fa : Nat → V → Prop} {K : PySem.W.Frag} {i : Nat} {xs ys : List PyData} {a : Addr} {us : List V} (m : Mid K fa σ H0 Z0 env0 H Z env) (h : env[i]? = some (some (.l xs))) (e : σ[i]? = some (some (V.ref a))) (f : FzAll K H Z us ys) :
    Mid K fa σ H0 Z0 env0 (upd H a (.lst us)) Z (env.set i (some (.l ys))) := by
  have hm : Own σ env a := ⟨i, xs, h, e⟩
  have s : Stp (Own σ env) Z H (Own σ env) Z (upd H a (.lst us)) := .write m.ok.muz m.ok.zl hm
  have s2 : Stp (Own σ env) Z H (Own σ (env.set i (some (.l ys)))) Z (upd H a (.lst us)) := ⟨s.keep, s.dom, s.zold, s.znew, fun b q => .inl (Own_setl h q), s.muz, s.zl⟩
  have hi : i < env.length := (List.getElem?_eq_some_iff.mp h).1
  refine ⟨m.st.trans s2, fun b q => m.mo b (Own_setl h q), fun j q => m.mw j (ownd_setl h q), fun j b q e2 => m.sl j b (ownd_setl h q) e2, fun j ys q => m.kk j ys (by
    rcases getElem?_set_cases q with ⟨_, e, _⟩ | ⟨_, e⟩
    · cases e
    · exact e), ⟨fun j w q => ?_, fun j k b q1 q2 => m.ok.apart j k b (ownd_setl h q1) (ownd_setl h q2), fun b q => ?_, by rw [List.length_set]; exact m.ok.len⟩⟩
  · by_cases ej : j = i
    · subst ej
      rw [List.getElem?_set_self hi] at q
      cases q
      exact ⟨_, e, a, us, rfl, upd_same, m.ok.muz _ hm, FzAll.step s f⟩
    · rw [List.getElem?_set_ne (Ne.symm ej)] at q
      obtain ⟨v, e1, e2⟩ := m.ok.nm j w q
      have ne : ∀ zs b, (w = .l zs ∨ w = .k zs) → v = V.ref b → b ≠ a := fun zs b hw hv eb => by
        subst hv eb
        refine ej (m.ok.apart j i b ⟨zs, ?_⟩ ⟨xs, .inl h⟩ e1 e)
        rcases hw with rfl | rfl
        · exact .inl q
        · exact .inr q
      refine ⟨v, e1, ?_⟩
      cases w with
      | d x => exact Fz.step s e2
      | l zs =>
        obtain ⟨b, vs, rfl, h1, h2, h3⟩ := e2
        exact ⟨b, vs, rfl, by rw [upd_ne (ne zs b (.inl rfl) rfl)]; exact h1, h2, FzAll.step s h3⟩
      | k zs =>
        obtain ⟨b, vs, rfl, h1, h2, h3⟩ := e2
        exact ⟨b, vs, rfl, by rw [upd_ne (ne zs b (.inr rfl) rfl)]; exact h1, h2, FzAll.step s h3⟩
      | r zs =>
        obtain ⟨b, vs, rfl, h1, h3⟩ := e2
        exact ⟨b, vs, rfl, RdL.step s h1, FzAll.step s h3⟩
      | f n => exact e2
  · by_cases eb : b = a
    · subst eb; exact ⟨us, upd_same⟩
    · rw [upd_ne eb]; exact m.ok.zl b q
theorem Eok.own {fa : Nat → V → Prop} {K : PySem.W.Frag} {i : Nat} {xs : List PyData} (ok : Eok K fa H Z σ env) (h : env[i]? = some (some (.l xs))) : ∃ a vs, σ[i]? = some (some (V.ref a)) ∧ H a = some (HO.lst vs) ∧ FzAll K H Z vs xs := by
  obtain ⟨v, e, a, vs, rfl, h1, _, h3⟩ := ok.nm i _ h
  exact ⟨a, vs, e, h1, h3⟩
theorem isL_of {i : Nat} (h : isL env i = true) : ∃ xs, env[i]? = some (some (W.l xs)) := by
  unfold isL at h
  split at h
  · rename_i xs e
    exact ⟨xs, e⟩
  · cases h
/-- the receiver of a list's method -/
theorem Eok.recv {fa : Nat → V → Prop} {K : PySem.W.Frag} {i : Nat} (ok : Eok K fa H Z σ env) (h : isL env i = true) : ∃ a, σ[i]? = some (some (V.ref a)) ∧ tyV K "list" (V.ref a) H := by
  obtain ⟨xs, e⟩ := isL_of h
  obtain ⟨a, vs, e1, h1, _⟩ := ok.own e
  exact ⟨a, e1, .inl ⟨rfl, vs, .inl (.inl h1)⟩⟩
theorem recv_v {i : Nat} {x : Str} {p : Pos} (hN : X.N[i]? = some x) (hv : Vis X.env.scope x) (hd : (x == ("__debug__" : Str)) = false) (hcd : (x == ("__classdict__" : Str)) = false) : PE X (.Name x p) (fun σ H Q => ∃ v, σ[i]? = some (some v) ∧ Q v H) :=
  PE.weak (pe_var hN hv hd hcd) fun σ H Q h => h
/-- a call of a name's list's method, with one argument -/
structure MOk (X : Cx) (a : Expr) (x m : Str) (i : Nat) (p p2 pos : Pos) : Prop where
  hN : X.N[i]? = some x
  hv : Vis X.env.scope x
  hd : (x == ("__debug__" : Str)) = false
  hcd : (x == ("__classdict__" : Str)) = false
  he : starEach [a] X.env = (false, eval a X.env) :: starEach [] X.env
  hbase : attributeBase (.Name x p) m X.env (eval (.Name x p) X.env) = eval (.Name x p) X.env
  hline : (p2.endLine == pos.line) = true
  hfew : ((backTo pos (starEach [a] X.env)).all (fun x => !x.1) && (backToKw pos (keywordEach [] X.env)).all (fun x => x.1.isSome) && decide ([a].length + ([] : List Keyword).length + (if ([] : List Keyword).isEmpty then 0 else 1) < 30)) = true
theorem s_app {i : Nat} {x : Str} {p p2 : Pos} (k : MOk X a x "append" i p p2 pos) (ha : PE X a (tE X.K fa XX G ma)) : PE X (.Call (.Attribute (.Name x p) "append" p2) [a] [] pos) (tE X.K fa XX G (.app i ma)) := by
  refine PE.weak (pe_bm PySem.F.plainAttrs_list PySem.F.slot_list_append PySem.F.type_list_append mt_append (recv_v k.hN k.hv k.hd k.hcd) (pa_cons ha pa_nil k.he) k.hbase k.hfew k.hline k.he) fun σ H Q ⟨Z, env, ok, h⟩ => ?_
  unfold ev at h
  split at h
  · rename_i hl
    obtain ⟨l, el, hty⟩ := ok.recv hl
    refine ⟨_, el, hty, tM.mono (one ok h) fun y H1 ⟨Z1, env1, ra, M, r1, hf⟩ => ?_⟩
    dsimp only at hf
    cases hk : keep env1 ra with
    | none => rw [hk] at hf; exact hf.elim
    | some q =>
      obtain ⟨env2, d⟩ := q
      rw [hk] at hf
      obtain ⟨Z2, M2, f, _, _⟩ := M.keep r1 hk
      dsimp only at hf
      split at hf
      · rename_i xs hi
        split at hf
        · rename_i hz
          obtain ⟨a', vs, e1, h1, h3⟩ := M2.ok.own hi
          rw [el] at e1
          cases e1
          refine ⟨l, vs, y, rfl, rfl, h1, by rw [h3.length]; exact hz, ?_⟩
          exact hf Z2 _ _ (M2.write hi el (h3.append (.cons f .nil))) .non
        · exact hf.elim
      · exact hf.elim
  · exact h.elim
theorem s_ext {i : Nat} {x : Str} {p p2 : Pos} (k : MOk X a x "extend" i p p2 pos) (ha : PE X a (tE X.K fa XX G ma)) : PE X (.Call (.Attribute (.Name x p) "extend" p2) [a] [] pos) (tE X.K fa XX G (.ext i ma)) := by
  refine PE.weak (pe_bm PySem.F.plainAttrs_list PySem.F.slot_list_extend PySem.F.type_list_extend mt_extend (recv_v k.hN k.hv k.hd k.hcd) (pa_cons ha pa_nil k.he) k.hbase k.hfew k.hline k.he) fun σ H Q ⟨Z, env, ok, h⟩ => ?_
  unfold ev at h
  split at h
  · rename_i hl
    obtain ⟨l, el, hty⟩ := ok.recv hl
    refine ⟨_, el, hty, tM.mono (one ok h) fun y H1 ⟨Z1, env1, ra, M, r1, hf⟩ => ?_⟩
    dsimp only at hf
    split at hf
    · rename_i xs ys hi hd
      split at hf
      · rename_i hz
        obtain ⟨a', vs, e1, h1, h3⟩ := M.ok.own hi
        rw [el] at e1
        cases e1
        obtain ⟨b, us, rfl, q1, q2⟩ := (r1.ds M.ok hd).list
        refine ⟨l, b, vs, us, rfl, rfl, h1, q1, by rw [h3.length, q2.length]; exact hz, ?_⟩
        exact hf Z1 _ _ (M.write hi el (h3.append q2)) .non
      · exact hf.elim
    · exact hf.elim
  · exact h.elim
theorem s_idx (hu : X.A.units + 65 < cLine) {i : Nat} {x : Str} {p p2 : Pos} (k : MOk X a x "index" i p p2 pos) (ha : PE X a (tE X.K fa XX G ma)) : PE X (.Call (.Attribute (.Name x p) "index" p2) [a] [] pos) (tE X.K fa XX G (.idx i ma)) := by
  refine PE.weak (pe_bm PySem.F.plainAttrs_list PySem.F.slot_list_index PySem.F.type_list_index (mt_indexD hu) (recv_v k.hN k.hv k.hd k.hcd) (pa_cons ha pa_nil k.he) k.hbase k.hfew k.hline k.he) fun σ H Q ⟨Z, env, ok, h⟩ => ?_
  unfold ev at h
  split at h
  · rename_i hl
    obtain ⟨l, el, hty⟩ := ok.recv hl
    refine ⟨_, el, hty, tM.mono (one ok h) fun y H1 ⟨Z1, env1, ra, M, r1, hf⟩ => ?_⟩
    dsimp only at hf
    split at hf
    · rename_i xs d hi hd
      cases hp : plc xs d with
      | none => rw [hp] at hf; exact hf.elim
      | some j =>
        rw [hp] at hf
        unfold plc at hp
        split at hp
        · rename_i hs
          obtain ⟨s1, s2⟩ := Bool.and_eq_true_iff.mp hs
          obtain ⟨a', vs, e1, h1, h3⟩ := M.ok.own hi
          rw [el] at e1
          cases e1
          obtain ⟨hj, hp1, hp2⟩ := List.findIdx?_eq_some_iff_getElem.mp hp
          refine ⟨l, y, d, xs, j, xs[j], rfl, rfl, ?_, ?_, s1, s2, List.getElem?_eq_getElem hj, hp1, fun m z' hm hz => ?_, hf Z1 H1 _ M (.int _)⟩
          · exact .lst (.inl (.inl h1)) (h3.dp (by have := nodict s1; simpa only [PyData.hasDict] using this))
          · exact (r1.ds M.ok hd).dp (nodict s2)
          · obtain ⟨hm2, rfl⟩ := List.getElem?_eq_some_iff.mp hz
            exact Bool.eq_false_iff.mpr (hp2 m hm)
        · cases hp
    · exact hf.elim
  · exact h.elim
theorem s_popA {i : Nat} {x : Str} {p p2 : Pos} (k : MOk X a x "pop" i p p2 pos) (ha : PE X a (tE X.K fa XX G ma)) : PE X (.Call (.Attribute (.Name x p) "pop" p2) [a] [] pos) (tE X.K fa XX G (.popA i ma)) := by
  refine PE.weak (pe_bm PySem.F.plainAttrs_list PySem.F.slot_list_pop PySem.F.type_list_pop mt_popAt (recv_v k.hN k.hv k.hd k.hcd) (pa_cons ha pa_nil k.he) k.hbase k.hfew k.hline k.he) fun σ H Q ⟨Z, env, ok, h⟩ => ?_
  unfold ev at h
  split at h
  · rename_i hl
    obtain ⟨l, el, hty⟩ := ok.recv hl
    refine ⟨_, el, hty, tM.mono (one ok h) fun y H1 ⟨Z1, env1, ra, M, r1, hf⟩ => ?_⟩
    dsimp only at hf
    split at hf
    · rename_i xs j hi
      split at hf
      · rename_i h0
        split at hf
        · rename_i d hj
          split at hf
          · rename_i hb
            obtain ⟨a', vs, e1, h1, h3⟩ := M.ok.own hi
            rw [el] at e1
            cases e1
            have r1 : Fz X.K H1 Z1 y (.int j) := r1
            cases r1
            obtain ⟨u, q1, q2⟩ := h3.get hj
            have hjl : j.toNat < vs.length := (List.getElem?_eq_some_iff.mp q1).1
            have eu : ∀ b, u ≠ V.ref b ∨ True := fun b => .inr trivial
            refine ⟨l, vs, j, j.toNat, u, rfl, rfl, h1, by omega, by omega, PySem.StrLaws.seqIndex_nonneg h0 (by omega), q1, ?_⟩
            refine hf Z1 _ _ (M.write hi el (h3.erase j.toNat)) ?_
            exact Fz.step (Stp.write M.ok.muz M.ok.zl ⟨i, xs, hi, el⟩) q2
          · exact hf.elim
        · exact hf.elim
      · exact hf.elim
    · exact hf.elim
  · exact h.elim

/-! ### list(range(a, b)) -/
theorem rgV_fz (i : Int) : ∀ (n : Nat) (k : Int), FzAll X.K H Z ((List.range n).map fun j => V.int (i + k + (j : Nat))) (upto (i + k) n) := by
  intro n
  induction n with
  | zero => intro k; exact .nil
  | succ n ih =>
    intro k
    rw [List.range_succ_eq_map, List.map_cons, List.map_map]
    unfold upto
    have e : ((0 : Nat) : Int) = 0 := rfl
    refine .cons ?_ ?_
    · rw [e, Int.add_zero]; exact .int _
    · have := ih (k + 1)
      rw [show i + (k + 1) = i + k + 1 by omega] at this
      have e2 : (fun j : Nat => V.int (i + k + 1 + (j : Nat))) = (fun j => V.int (i + k + (j : Nat))) ∘ Nat.succ := by
        funext j
        show V.int _ = V.int _
        rw [Nat.succ_eq_add_one]
        congr 1
        omega
      rw [e2] at this
      exact this
theorem s_lrg {p p2 pos2 : Pos} (hc : X.calm = true) (hg : Gl X "list") (hm : X.mg "list" = none) (hg2 : Gl X "range") (hm2 : X.mg "range" = none) (ha : PE X a (tE X.K fa XX G ma)) (hb : PE X b (tE X.K fa XX G mb))
    (na : starEach [a, b] X.env = (false, eval a X.env) :: starEach [b] X.env) (nb : starEach [b] X.env = (false, eval b X.env) :: starEach [] X.env) (hp : (backTo pos2 (starEach [b] X.env)).any (·.1) = false)
    (nc : starEach [.Call (.Name "range" p2) [a, b] [] pos2] X.env = (false, eval (.Call (.Name "range" p2) [a, b] [] pos2) X.env) :: starEach [] X.env) :
    PE X (.Call (.Name "list" p) [.Call (.Name "range" p2) [a, b] [] pos2] [] pos) (tE X.K fa XX G (.lrg ma mb)) := by
  refine PE.weak (pe_listRg hc hg hm (prg_2 hg2 hm2 ha hb na nb hp) nc) fun σ H Q ⟨Z, env, ok, h⟩ => ?_
  unfold ev at h
  refine tM.mono (Fin.first (.refl ok) h) fun x H1 ⟨Z1, env1, ra, M1, m1, r1, h1⟩ => ?_
  refine tM.mono (Fin.first M1 h1) fun y H2 ⟨Z2, env2, rb, M2, m2, r2, h2⟩ => ?_
  dsimp only at h2
  split at h2
  · rename_i i j _
    split at h2
    · rename_i hr
      have q1 : Fz X.K H2 Z2 x (.int i) := RvOk.on M1 m2 r1
      have q2 : Fz X.K H2 Z2 y (.int j) := r2
      cases q1
      cases q2
      refine ⟨i, j, rfl, rfl, ⟨by omega, by omega, by omega, by omega, by omega⟩, fun q hq => ?_⟩
      have f : FzAll X.K H2 Z2 (rgV i j) (upto i (j - i).toNat) := by
        have := rgV_fz (X := X) (H := H2) (Z := Z2) i (j - i).toNat 0
        rw [Int.add_zero] at this
        exact this
      exact h2 _ _ _ (M2.newL hq) ⟨q, _, rfl, upd_same, .inr rfl, M2.fresh hq, f.newL M2.ok.zl hq⟩
    · exact h2.elim
  · exact h2.elim
/-- list(range(n)) -/
theorem s_lrg1 {p p2 pos2 : Pos} (hc : X.calm = true) (hg : Gl X "list") (hm : X.mg "list" = none) (hg2 : Gl X "range") (hm2 : X.mg "range" = none) (ha : PE X a (tE X.K fa XX G ma))
    (na : starEach [a] X.env = (false, eval a X.env) :: starEach [] X.env)
    (nc : starEach [.Call (.Name "range" p2) [a] [] pos2] X.env = (false, eval (.Call (.Name "range" p2) [a] [] pos2) X.env) :: starEach [] X.env) :
    PE X (.Call (.Name "list" p) [.Call (.Name "range" p2) [a] [] pos2] [] pos) (tE X.K fa XX G (.lrg (.c (.int 0)) ma)) := by
  refine PE.weak (pe_listRg hc hg hm (prg_1 hg2 hm2 ha na) nc) fun σ H Q ⟨Z, env, ok, h⟩ => ?_
  have e0 : ev G (.lrg (.c (.int 0)) ma) env = (ev G ma env).bind fun q => match q.2 with
    | .v (.int j) => if -1000000 ≤ (0 : Int) ∧ (0 : Int) ≤ 1000000 ∧ -1000000 ≤ j ∧ j ≤ 1000000 then .ok (q.1, .n (upto 0 (j - 0).toNat)) else .bad
    | _ => .bad := by
    have e1 : ev G (.lrg (.c (.int 0)) ma) env = (ev G (.c (.int 0)) env).bind fun p => (ev G ma p.1).bind fun q => match p.2, q.2 with
      | .v (.int i), .v (.int j) => if -1000000 ≤ i ∧ i ≤ 1000000 ∧ -1000000 ≤ j ∧ j ≤ 1000000 then .ok (q.1, .n (upto i (j - i).toNat)) else .bad
      | _, _ => .bad := id rfl
    have e2 : ev G (.c (.int 0)) env = .ok (env, .v (.int 0)) := id rfl
    rw [e1, e2]
    show (ev G ma env).bind _ = _
    cases ev G ma env with
    | ok q =>
      obtain ⟨en, r⟩ := q
      cases r <;> first | rfl | (rename_i x; cases x <;> rfl)
    | ex _ _ => rfl
    | bad => rfl
  rw [e0] at h
  refine tM.mono (Fin.first (.refl ok) h) fun y H2 ⟨Z2, env2, rb, M2, m2, r2, h2⟩ => ?_
  cases rb with
  | v x =>
    cases x with
    | int j =>
      dsimp only at h2
      split at h2
      · rename_i hr
        have q2 : Fz X.K H2 Z2 y (.int j) := r2
        cases q2
        refine ⟨j, rfl, ⟨by omega, by omega, by omega, by omega, by omega⟩, fun q hq => ?_⟩
        have f : FzAll X.K H2 Z2 (rgV 0 j) (upto 0 (j - 0).toNat) := by
          have := rgV_fz (X := X) (H := H2) (Z := Z2) 0 (j - 0).toNat 0
          rw [Int.add_zero] at this
          exact this
        exact h2 _ _ _ (M2.newL hq) ⟨q, _, rfl, upd_same, .inr rfl, M2.fresh hq, f.newL M2.ok.zl hq⟩
      · exact h2.elim
    | _ => exact h2.elim
  | _ => exact h2.elim
end
end Ev

set_option maxRecDepth 100000
set_option maxHeartbeats 4000000
/-! Ev, part L0: enumerate of tuples. -/
namespace Ev
open PySem L2 PyProof.Rows PySem.W
theorem enum_new1 {v : Value} {o : Obj} {H : Heap → Prop} (B : Begins v o H) : Meets (Builtin.«enumerate.__new__» ⟨[.type "enumerate", v], []⟩) (fun _ R s => H s.heap ∧ R (.ok (.ret (.ref (s.heap.push o).objs.size)))
    { s with heap := (s.heap.push o).push { cls := .type "enumerate", data := .fields #[.none, .bool false, .ref s.heap.objs.size, rawInt 0, .none, .none] } }) := .of_wp fun prog w A R s hs => by
  obtain ⟨hp, gs, dr, tk, os⟩ := s
  obtain ⟨h1, h2⟩ := hs
  have hE := sub_enumerate
  have hI : ∀ {A' : Around} {E : Value → Shared → Prop} {Q : Value → Shared → Prop}, Q (.ref hp.objs.size) ⟨hp.push o, gs, dr, tk, os⟩ → wpAny (model prog w) A' (pyIter v) Q E ⟨hp, gs, dr, tk, os⟩ := fun q => B.iter _ _ _ _ ⟨hp, gs, dr, tk, os⟩ _ h1 q
  wp_walk using hI
  refine wpAny_stack_any fun _ => wpAny_pure ?_
  split
  · rename_i c _ _ _ _ _
    cases (c == Value.type "enumerate") <;> (wp_walk using hI; exact ⟨_, rfl, h2⟩)
  · wp_walk using hI; exact ⟨_, rfl, h2⟩
theorem enum_call1 {prog : Program} {w : World} {A : Around} {E : Value → Shared → Prop} {s : Shared} {v : Value} {o : Obj} {H : Heap → Prop} {Q : Value → Shared → Prop} (B : Begins v o H) (h1 : H s.heap)
    (h : ∀ h', IsEnum h' (s.heap.objs.size + 1) s.heap.objs.size 0 .none → h'.get? s.heap.objs.size = some o → (∀ b u, s.heap.get? b = some u → h'.get? b = some u) → Q (.ref (s.heap.objs.size + 1)) { s with heap := h' }) :
    wpAny (model prog w) A (call (.type "enumerate") [v]) Q E s := by
  refine callType_new F.called_enumerate (by decide) (F.typeCall_enumerate_1 _) (F.newCall_enumerate_1 _) (fun obj => F.args_object_init_2 obj _) F.entry_enumerate_new (enum_new1 B) ⟨h1, ?_⟩
  have sz : (s.heap.push o).objs.size = s.heap.objs.size + 1 := Heap.size_push ..
  show _ ∧ _
  rw [sz]
  generalize hob : ({ cls := .type "enumerate", data := .fields #[.none, .bool false, .ref s.heap.objs.size, rawInt 0, .none, .none] } : Obj) = ob
  have e1 : ((s.heap.push o).push ob).get? (s.heap.objs.size + 1) = some ob := by
    have z := Heap.get?_push_size (s.heap.push o) (o := ob) (by rw [← hob]; rfl)
    rwa [sz] at z
  refine ⟨⟨ob, e1, by rw [← hob]⟩, h _ ?_ (Heap.get?_push_of_some _ (Heap.get?_push_size _ B.free)) fun b u z => Heap.get?_push_of_some _ (Heap.get?_push_of_some _ z)⟩
  show _ = _
  rw [e1, ← hob]
/-- enumerate's turns over the tuple at a -/
def IteT (K : PySem.W.Frag) (a : Addr) : It := ⟨fun i H => ∃ (xs : List V) (x : V), SqT K H a xs ∧ xs[i]? = some x,
  fun i H v H' => ∃ T x, v = .ref T ∧ H T = none ∧ H' = upd H T (.tup [.int (i : Nat), x]) ∧ ∀ xs, SqT K H a xs → xs[i]? = some x, fun i H => ∃ xs, SqT K H a xs ∧ xs.length ≤ i⟩
theorem turn_enumT {P : Program} {w : World} {K : PySem.W.Frag} {elts : List Expr} {kk : Nat} {tpos : Pos} (a e it : Addr) :
    Turn P w K (.Tuple elts kk tpos) (IteT K a) [e, it] e (fun i h => (∃ old, IsEnum h e it ((i : Nat) : Int) old) ∧ h.IsTupleIter it a i ∧ e ≠ it ∧ a ≠ it ∧ e ≠ a) where
  mem := by simp
  obj := fun i h st b hb => by
    obtain ⟨⟨old, h1⟩, ⟨o, h2, h3, h4⟩, _⟩ := st
    simp only [List.mem_cons, List.not_mem_nil, or_false] at hb
    rcases hb with rfl | rfl
    · exact ⟨_, h1, fun v q => nomatch q⟩
    · exact ⟨o, h2, fun v q => by rw [h4] at q; cases q⟩
  keep := fun i h h' ⟨⟨old, h1⟩, h2, h3⟩ k => ⟨⟨old, k e (by simp) _ h1⟩, h2.at fun o q => k it (by simp) o q, h3⟩
  item := by
    intro X hP hw hK hc i pins s σ H E I hf st hg
    subst hP hw hK
    obtain ⟨⟨old, he⟩, hit, n1, n2, n3⟩ := st
    obtain ⟨xs, x, hq, hx⟩ := hg
    obtain ⟨its, rv, p, hz⟩ := I.tuple hq
    obtain ⟨u, hu, ru⟩ := rv.get hx
    have le : e < s.heap.objs.size := Heap.lt_size he
    have li : it < s.heap.objs.size := by obtain ⟨_, z, _⟩ := hit; exact Heap.lt_size z
    have hi : i < its.toArray.size := by
      have := (List.getElem?_eq_some_iff.mp hu).1
      simpa using this
    refine wpAny_pyNext_enum_itemC (Draws.tuple (prog := X.prog) (w := X.w) (A := X.A.in1) (I.ok.hd hc) it a n2 its.toArray) he ⟨hit, p⟩ hi n1 (by simp; exact ⟨n1, n3⟩) fun y h' tk hy ho st' hT hsz hk => ?_
    have ey : y = u := by
      have : its[i]? = some y := by simpa using hy
      rw [hu] at this; cases this; rfl
    subst ey
    refine ⟨_, rfl, wpAny_letOwnedTupleGo_enum (s := { s with heap := h', toks := tk + 1 }) ho fun h'' he' sb => ?_⟩
    have hT2 : h''.get? s.heap.objs.size = some { cls := .type "tuple", data := .seq #[.int i tk, y] } := (sb.2 _ (Nat.ne_of_gt le)).trans hT
    have nw : ObjOk X.prog X.w (upd H s.heap.objs.size (.tup [.int (i : Nat), x])) h'' s.heap.objs.size (.tup [.int (i : Nat), x]) := ⟨by show 2 ≤ sizeLine; decide, [.int i tk, y], .cons ⟨_, rfl⟩ (.cons ru .nil), ⟨_, hT2, rfl, _, rfl⟩⟩
    have I1 : Inv X pins σ (upd H s.heap.objs.size (.tup [.int (i : Nat), x])) { s with heap := h'', toks := tk + 1 } :=
      I.turnedNew (ch := [e, it]) (fun b ob hb q => (sb.2 b fun z => hb (by simp [z])).trans (hk b ob (fun z => hb (by simp [z])) (fun z => hb (by simp [z])) q)) hf (Nat.le_refl _) nw
    refine ⟨.ref s.heap.objs.size, _, I1, rfl, ⟨_, x, rfl, I.hok.fresh (Nat.le_refl _), rfl, fun ys hy => by rw [I.tuple_inj hy hq]; exact hx⟩, ⟨⟨y, ?_⟩, st'.1.at fun o q => (sb.2 it (Ne.symm n1)).trans q, n1, n2, n3⟩, fun b hb => ?_⟩
    · rw [show ((i + 1 : Nat) : Int) = (i : Int) + 1 by omega]; exact he'
    · have lb : b < s.heap.objs.size := by
        simp only [List.mem_cons, List.not_mem_nil, or_false] at hb
        rcases hb with rfl | rfl
        · exact le
        · exact li
      rw [upd_ne (Nat.ne_of_lt lb)]
      exact (hf b hb).1
  done := by
    intro X hP hw hK hc i pins s σ H E I hf st hg
    subst hP hw hK
    obtain ⟨⟨old, he⟩, hit, n1, n2, n3⟩ := st
    obtain ⟨xs, hq, hx⟩ := hg
    obtain ⟨its, rv, p, hz⟩ := I.tuple hq
    obtain ⟨f0, f1, f2, f3, f4, f5⟩ := hf it (by simp)
    have hl := rv.length
    have D : Draws X.prog X.w X.A.in1 it [it, a] i (fun _ _ => False) (fun j h => j = i ∧ h.IsTupleIter it a i ∧ h.IsTuple a its.toArray) := {
      live := fun _ _ st => let ⟨o, ho, _⟩ := st.2.1; ⟨o, ho⟩
      frame := fun _ _ _ st k => ⟨st.1, st.2.1.at fun o q => k it (by simp) o q, st.2.2.at fun o q => k a (by simp) o q⟩
      item := fun j _ _ _ hj st => absurd st.1 (Nat.ne_of_lt hj)
      done := fun s' Q E st hE => wpAny_nextOf_tuple_end (A := X.A.in1) (I.ok.hd hc) st.2.1 st.2.2 (by simp; omega) hE }
    exact wpAny_pyNext_enum_endD D he ⟨rfl, hit, p⟩ fun h' eb => ⟨rfl, I.turned (t' := s.toks) (fun b o hb q => eb b o hb q) f0 f1 f3 f4 f5⟩
  self := fun A i s Q E ⟨⟨_, he⟩, _⟩ h => wpAny_pyIter_enum he h
/-- enumerate of a list or of a tuple -/
def iEnumA (K : PySem.W.Frag) (ta : TA) : TI := fun σ H R => ta σ H fun vs H1 => ∃ a xs, vs = [.ref a] ∧ ((SqL K H1 a xs ∧ R (Ite K a) H1) ∨ (SqT K H1 a xs ∧ R (IteT K a) H1))
theorem pi_enumA {X : Cx} {e : Expr} {ta : TA} {p pos tpos : Pos} {elts : List Expr} {kk : Nat} (hg : Gl X "enumerate") (hm : X.mg "enumerate" = none) (ha : PA X [e] ta) (hs : starEach [e] X.env = [(false, eval e X.env)]) :
    PI X (.Tuple elts kk tpos) (.Call (.Name "enumerate" p) [e] [] pos) (iEnumA X.K ta) := by
  refine ⟨fun pins s σ H R I h => ?_⟩
  refine Call_ (ld_blt I hg hm boot_enumerate (PyProof.Rows.callWith_type1 (thn (ha.run pos pins s σ H _ I h) fun us s1 ⟨vs, H1, I1, r1, a, xs, ex, q1⟩ => ?_) hs rfl))
  subst ex
  obtain rfl := Vals.ref1 r1
  have nf : ∀ b, b = s1.heap.objs.size + 1 ∨ b = s1.heap.objs.size → FpOk X pins H1 b := fun b hb => by
    have le : s1.heap.objs.size ≤ b := by omega
    exact I1.fpOk le (I1.hok.fresh le)
  rcases q1 with ⟨hq, q⟩ | ⟨hq, q⟩
  · obtain ⟨its, rv, p', hz⟩ := I1.list hq
    refine call_enumerate_list p'.isList fun h' he hit hsz hk => wpAny_pyIter_enum he ?_
    exact ⟨s1.heap.objs.size + 1, [s1.heap.objs.size + 1, s1.heap.objs.size], _, _, H1, rfl, I1.kept (t' := s1.toks) hk, turn_enum a _ _, ⟨⟨.none, he⟩, hit, Nat.succ_ne_self _⟩, fun b hb => nf b (by simpa using hb), q⟩
  · obtain ⟨its, rv, p', hz⟩ := I1.tuple hq
    obtain ⟨oa, ea, _⟩ := id p'
    have la : a < s1.heap.objs.size := Heap.lt_size ea
    refine enum_call1 (begins_tuple a its.toArray) p' fun h' he hit hk => wpAny_pyIter_enum he ?_
    refine ⟨s1.heap.objs.size + 1, [s1.heap.objs.size + 1, s1.heap.objs.size], _, _, H1, rfl, I1.kept (t' := s1.toks) hk, turn_enumT a _ _, ⟨⟨.none, he⟩, ⟨_, hit, rfl, rfl⟩, Nat.succ_ne_self _, Nat.ne_of_lt la, fun e => absurd (show s1.heap.objs.size + 1 < s1.heap.objs.size from e ▸ la) (Nat.not_succ_lt_self)⟩, fun b hb => nf b (by simpa using hb), q⟩
/-- a list or a tuple walked -/
def iSeq (K : PySem.W.Frag) (tl : TE) : TI := fun σ H R => tl σ H fun x H1 => ∃ a xs, x = .ref a ∧ ((SqL K H1 a xs ∧ R (Itl K a) H1) ∨ (SqT K H1 a xs ∧ R (Itt K a) H1))
theorem pi_seq {X : Cx} {tg l : Expr} {tl : TE} (hl : PE X l tl) : PI X tg l (iSeq X.K tl) := by
  refine ⟨fun pins s σ H R I h => thn (hl.run pins s σ H _ I h) fun v s1 ⟨x, H1, I1, r1, a, xs, ex, q1⟩ => ?_⟩
  subst ex
  cases r1
  have nf : ∀ b ∈ [s1.heap.objs.size], FpOk X pins H1 b := fun b hb => by
    rw [List.mem_singleton.mp hb]
    exact I1.fpOk (Nat.le_refl _) (I1.hok.fresh (Nat.le_refl _))
  rcases q1 with ⟨hq, q⟩ | ⟨hq, q⟩
  · obtain ⟨its, rv, p, hz⟩ := I1.list hq
    exact wpAny_pyIter_list p.isList ⟨s1.heap.objs.size, [s1.heap.objs.size], _, _, H1, rfl, I1.kept (t' := s1.toks) fun b o e => Heap.get?_push_of_some _ e, turn_list a _, ⟨_, Heap.get?_push_size _ rfl, rfl, rfl⟩, nf, q⟩
  · obtain ⟨its, rv, p, hz⟩ := I1.tuple hq
    exact wpAny_pyIter_tuple (show s1.heap.IsTuple a its.toArray from p) ⟨s1.heap.objs.size, [s1.heap.objs.size], _, _, H1, rfl, I1.kept (t' := s1.toks) fun b o e => Heap.get?_push_of_some _ e, turn_tuple a _, ⟨_, Heap.get?_push_size _ rfl, rfl, rfl⟩, nf, q⟩
end Ev

set_option maxRecDepth 100000
set_option maxHeartbeats 4000000
/-! Ev, part L1: zip of three lists or tuples. -/
namespace Ev
open PySem L2 PyProof.Rows PySem.W
def itB (t : Bool) (h : Heap) (it a : Addr) (i : Nat) : Prop := match t with
  | true => h.IsListIter it a i
  | false => h.IsTupleIter it a i
def sqH (t : Bool) (h : Heap) (a : Addr) (items : Array Value) : Prop := match t with
  | true => h.IsList a items
  | false => h.IsTuple a items
def SqB (K : PySem.W.Frag) (t : Bool) (H : Hp) (a : Addr) (xs : List V) : Prop := match t with
  | true => SqL K H a xs
  | false => SqT K H a xs
def itO (t : Bool) (a : Addr) : Obj := match t with
  | true => { cls := .type "list_iterator", data := .fields #[.ref a, .int 0 0] }
  | false => { cls := .type "tuple_iterator", data := .fields #[.ref a, .int 0 0] }
theorem drawB {prog : Program} {w : World} {A : Around} (t : Bool) (hh : A.handled = none) (it a : Addr) (hne : a ≠ it) (items : Array Value) : Draws prog w A it [it, a] items.size (fun i v => items[i]? = some v) (fun i h => itB t h it a i ∧ sqH t h a items) := by
  cases t
  · exact Draws.tuple hh it a hne items
  · exact Draws.list hh it a hne items
theorem beginB (t : Bool) (a : Addr) (items : Array Value) : Begins (.ref a) (itO t a) (fun h => sqH t h a items) := by
  cases t
  · exact begins_tuple a items
  · exact begins_list a items
theorem itB_new {t : Bool} {h : Heap} {it a : Addr} (e : h.get? it = some (itO t a)) : itB t h it a 0 := by
  cases t
  · exact ⟨_, e, rfl, rfl⟩
  · exact ⟨_, e, rfl, rfl⟩
theorem itB_at {t : Bool} {h h' : Heap} {it a : Addr} {i : Nat} (q : itB t h it a i) (k : ∀ o, h.get? it = some o → h'.get? it = some o) : itB t h' it a i := by
  cases t
  · exact Heap.IsTupleIter.at q fun o e => k o e
  · exact Heap.IsListIter.at q fun o e => k o e
theorem itB_obj {t : Bool} {h : Heap} {it a : Addr} {i : Nat} (q : itB t h it a i) : ∃ o, h.get? it = some o ∧ ∀ v, o.data ≠ .cell v := by
  cases t
  · obtain ⟨o, e, _, d⟩ := q
    exact ⟨o, e, fun v z => by rw [d] at z; cases z⟩
  · obtain ⟨o, e, _, d⟩ := q
    exact ⟨o, e, fun v z => by rw [d] at z; cases z⟩
theorem SqB.inv {X : Cx} {pins : List (Addr × Obj)} {σ : L2.St} {H : Hp} {s : Shared} {t : Bool} {a : Addr} {xs : List V} (I : L2.Inv X pins σ H s) (h : SqB X.K t H a xs) : ∃ its : List Value, Vals xs its ∧ sqH t s.heap a its.toArray ∧ a < s.heap.objs.size := by
  cases t
  · obtain ⟨its, rv, p, _⟩ := I.tuple h
    obtain ⟨o, e, _⟩ := id p
    exact ⟨its, rv, p, Heap.lt_size e⟩
  · obtain ⟨its, rv, p, _⟩ := I.list h
    exact ⟨its, rv, p.isList, p.lt⟩
theorem SqB.inj {X : Cx} {pins : List (Addr × Obj)} {σ : L2.St} {H : Hp} {s : Shared} {t : Bool} {a : Addr} {xs ys : List V} (I : L2.Inv X pins σ H s) (h : SqB X.K t H a xs) (h' : SqB X.K t H a ys) : xs = ys := by
  cases t
  · exact I.tuple_inj h h'
  · exact I.list_inj h h'
/-- the turns of zip of two, lists or tuples -/
def It2 (K : PySem.W.Frag) (t1 t2 : Bool) (a b : Addr) : It := ⟨fun i H => ∃ xs ys : List V, SqB K t1 H a xs ∧ SqB K t2 H b ys ∧ i < min xs.length ys.length,
  fun i H v H' => ∃ T x y, v = .ref T ∧ H T = none ∧ H' = upd H T (.tup [x, y]) ∧ (∀ xs, SqB K t1 H a xs → xs[i]? = some x) ∧ ∀ ys, SqB K t2 H b ys → ys[i]? = some y,
  fun i H => ∃ xs ys : List V, SqB K t1 H a xs ∧ SqB K t2 H b ys ∧ i = min xs.length ys.length⟩
theorem turn_zip2 {P : Program} {w : World} {K : PySem.W.Frag} {elts : List Expr} {kk : Nat} {tpos : Pos} {t1 t2 : Bool} {a b z TI TO i1 i2 : Addr} (S : ZipSep2 z TI TO i1 i2 [i1, a] [i2, b]) (n1 : a ≠ i1) (n2 : b ≠ i2) :
    Turn P w K (.Tuple elts kk tpos) (It2 K t1 t2 a b) [z, TI, TO, i1, i2] z (fun i h => IsZip h z TI TO .none ∧ IsTupOf2 h TI (.ref i1) (.ref i2) ∧ (∃ x y, IsTupOf2 h TO x y) ∧ itB t1 h i1 a i ∧ itB t2 h i2 b i) where
  mem := by simp
  obj := fun i h st d hd => by
    obtain ⟨q1, q2, ⟨x, y, q3⟩, q4, q5⟩ := st
    simp only [List.mem_cons, List.not_mem_nil, or_false] at hd
    rcases hd with rfl | rfl | rfl | rfl | rfl
    · exact ⟨_, q1, fun v q => nomatch q⟩
    · exact ⟨_, q2, fun v q => nomatch q⟩
    · exact ⟨_, q3, fun v q => nomatch q⟩
    · exact itB_obj q4
    · exact itB_obj q5
  keep := fun i h h' st k => by
    obtain ⟨q1, q2, ⟨x, y, q3⟩, q4, q5⟩ := st
    exact ⟨k z (by simp) _ q1, k TI (by simp) _ q2, ⟨x, y, k TO (by simp) _ q3⟩, itB_at q4 (k i1 (by simp)), itB_at q5 (k i2 (by simp))⟩
  item := by
    intro X hP hw hK hc i pins s σ H E I hf st hg
    subst hP hw hK
    obtain ⟨q1, q2, ⟨x0, y0, q3⟩, q4, q5⟩ := st
    obtain ⟨xs, ys, hx, hy, hi⟩ := hg
    obtain ⟨i1s, r1, p1, _⟩ := hx.inv I
    obtain ⟨i2s, r2, p2, _⟩ := hy.inv I
    have l1 := r1.length
    have l2 := r2.length
    have hh : X.A.in1.handled = none := I.ok.hd hc
    have Wk := WalksT.zipD2 (prog := X.prog) (w := X.w) (A := X.A) S (drawB t1 hh i1 a n1 i1s.toArray) (drawB t2 hh i2 b n2 i2s.toArray)
    refine Wk.item i s _ _ (by simp only [List.size_toArray]; omega) ⟨q1, q2, ⟨x0, y0, q3⟩, ⟨q4, p1⟩, ⟨q5, p2⟩⟩ fun T vals h' tk hv hT ht hm hk => ?_
    refine ⟨.ref T, rfl, Wk.go elts kk tpos i T { s with heap := h', toks := tk } _ _ hm fun h'' hs hk2 => ?_⟩
    obtain ⟨u1, u2, e1, e2, rfl⟩ := hv
    have hx0 : xs[i]? = some xs[i] := List.getElem?_eq_getElem (by omega)
    have hy0 : ys[i]? = some ys[i] := List.getElem?_eq_getElem (by omega)
    have rel : ∀ {vs : List V} {us : List Value} {u : Value} {v : V}, Vals vs us → vs[i]? = some v → us.toArray[i]? = some u → RelV v u := fun {vs us u v} r e e' => by
      obtain ⟨u', q, q'⟩ := r.get e
      have e' : us[i]? = some u := by simpa using e'
      rw [q] at e'
      cases e'
      exact q'
    have a1 := rel r1 hx0 e1
    have a2 := rel r2 hy0 e2
    have nT := Wk.apart i T h' hm
    have ht2 : h''.IsTuple T #[u1, u2] := by
      obtain ⟨o, g1, g2⟩ := ht
      exact ⟨o, hk2 T o nT g1, g2⟩
    have hn : H T = none := I.hok.fresh hT
    have nw : ObjOk X.prog X.w (upd H T (.tup [xs[i], ys[i]])) h'' T (.tup [xs[i], ys[i]]) := ⟨by show 2 ≤ sizeLine; decide, [u1, u2], .cons a1 (.cons a2 .nil), ht2⟩
    have sub : ∀ d, d ∈ [z, TO, i1, i2] → d ∈ [z, TI, TO, i1, i2] := fun d hd => by
      simp only [List.mem_cons, List.not_mem_nil, or_false] at hd ⊢
      rcases hd with rfl | rfl | rfl | rfl <;> simp
    have I1 : L2.Inv X pins σ (upd H T (.tup [xs[i], ys[i]])) { s with heap := h'', toks := tk } :=
      I.turnedNew (ch := [z, TI, TO, i1, i2]) (fun d o hd q => hk2 d o (fun m => hd (sub d m)) (hk d o (fun m => hd (sub d m)) q)) hf hT nw
    obtain ⟨s1, s2, s3, s4, s5⟩ := hs
    refine ⟨.ref T, _, I1, rfl, ⟨T, _, _, rfl, hn, rfl, fun l hl => by rw [hl.inj I hx]; exact hx0, fun l hl => by rw [hl.inj I hy]; exact hy0⟩, ⟨s1, s2, s3, s4.1, s5.1⟩, fun d hd => ?_⟩
    have lt : d < s.heap.objs.size := by
      simp only [List.mem_cons, List.not_mem_nil, or_false] at hd
      rcases hd with rfl | rfl | rfl | rfl | rfl
      · exact Heap.lt_size q1
      · exact Heap.lt_size q2
      · exact Heap.lt_size q3
      · obtain ⟨o, e, _⟩ := itB_obj q4; exact Heap.lt_size e
      · obtain ⟨o, e, _⟩ := itB_obj q5; exact Heap.lt_size e
    rw [upd_ne (Nat.ne_of_lt (Nat.lt_of_lt_of_le lt hT))]
    exact (hf d hd).1
  done := by
    intro X hP hw hK hc i pins s σ H E I hf st hg
    subst hP hw hK
    obtain ⟨q1, q2, ⟨x0, y0, q3⟩, q4, q5⟩ := st
    obtain ⟨xs, ys, hx, hy, hi⟩ := hg
    obtain ⟨i1s, r1, p1, _⟩ := hx.inv I
    obtain ⟨i2s, r2, p2, _⟩ := hy.inv I
    have l1 := r1.length
    have l2 := r2.length
    have hh : X.A.in1.handled = none := I.ok.hd hc
    have Wk := WalksT.zipD2 (prog := X.prog) (w := X.w) (A := X.A) S (drawB t1 hh i1 a n1 i1s.toArray) (drawB t2 hh i2 b n2 i2s.toArray)
    have en : i = min i1s.toArray.size i2s.toArray.size := by simp only [List.size_toArray]; omega
    subst en
    obtain ⟨f0, f1, f2, f3, f4, f5⟩ := hf z (by simp)
    refine Wk.done s _ _ ⟨q1, q2, ⟨x0, y0, q3⟩, ⟨q4, p1⟩, ⟨q5, p2⟩⟩ fun h' tk hk => ⟨rfl, ?_⟩
    refine I.turnedL (t' := tk) (ch := [z, TI, TO, i1, i2]) (fun d o hd q => hk d o (fun m => hd ?_) q) hf
    simp only [List.mem_cons, List.not_mem_nil, or_false] at m ⊢
    rcases m with rfl | rfl | rfl | rfl <;> simp
  self := fun A i s Q E st h => wpAny_pyIter_zip st.1 h
def iZip2 (K : PySem.W.Frag) (ta : TA) : TI := fun σ H R => ta σ H fun vs H1 => ∃ a b xs ys t1 t2, vs = [V.ref a, V.ref b] ∧ SqB K t1 H1 a xs ∧ SqB K t2 H1 b ys ∧ R (It2 K t1 t2 a b) H1
theorem pi_zip2 {X : Cx} {es : List Expr} {e : Expr} {ta : TA} {p pos tpos : Pos} {elts : List Expr} {kk : Nat} (hg : Gl X "zip") (hm : X.mg "zip" = none) (ha : PA X (e :: es) ta) (hs : starEach (e :: es) X.env = (false, eval e X.env) :: starEach es X.env) (hpl : (backTo pos (starEach es X.env)).any (·.1) = false) :
    PI X (.Tuple elts kk tpos) (.Call (.Name "zip" p) (e :: es) [] pos) (iZip2 X.K ta) := by
  refine ⟨fun pins s σ H R I h => ?_⟩
  refine Call_ (ld_blt I hg hm PyProof.Rows.boot_zip (PyProof.Rows.callWith_type1 (thn (ha.run pos pins s σ H _ I h) fun us s1 ⟨vs, H1, I1, r1, a, b, xs, ys, t1, t2, ex, hx, hy, q⟩ => ?_) hs hpl))
  subst ex
  obtain rfl : us = [.ref a, .ref b] := by
    cases r1 with
    | cons r r1 =>
      cases r1 with
      | cons r' r1 => cases r1; cases r; cases r'; rfl
  obtain ⟨i1s, v1, p1, l1⟩ := hx.inv I1
  obtain ⟨i2s, v2, p2, l2⟩ := hy.inv I1
  refine zip_begins2 (beginB t1 a i1s.toArray) (beginB t2 b i2s.toArray) p1 p2 fun h' g1 g2 g3 g4 g5 hsz hk => wpAny_pyIter_zip g1 ?_
  have S := zip_sep2 (N := s1.heap.objs.size) (fp1 := [a]) (fp2 := [b]) (fun d hd => by rw [List.mem_singleton.mp hd]; exact l1) (fun d hd => by rw [List.mem_singleton.mp hd]; exact l2)
  refine ⟨s1.heap.objs.size + 4, [s1.heap.objs.size + 4, s1.heap.objs.size + 2, s1.heap.objs.size + 3, s1.heap.objs.size, s1.heap.objs.size + 1], _, _, H1, rfl, I1.kept (t' := s1.toks) hk,
    turn_zip2 (t1 := t1) (t2 := t2) S (Nat.ne_of_lt l1) (fun e => ?_), ⟨g1, g2, ⟨_, _, g3⟩, itB_new g4, itB_new g5⟩, fun d hd => ?_, q⟩
  · exact absurd (e ▸ l2) (Nat.not_lt.mpr (Nat.le_add_right _ _))
  · have le : s1.heap.objs.size ≤ d := by
      simp only [List.mem_cons, List.not_mem_nil, or_false] at hd
      rcases hd with rfl | rfl | rfl | rfl | rfl
      · exact Nat.le_add_right _ _
      · exact Nat.le_add_right _ _
      · exact Nat.le_add_right _ _
      · exact Nat.le_refl _
      · exact Nat.le_add_right _ _
    exact I1.fpOk le (I1.hok.fresh le)
/-- the turns of zip of three -/
def It3 (K : PySem.W.Frag) (t1 t2 t3 : Bool) (a b c : Addr) : It := ⟨fun i H => ∃ xs ys zs : List V, SqB K t1 H a xs ∧ SqB K t2 H b ys ∧ SqB K t3 H c zs ∧ i < min (min xs.length ys.length) zs.length,
  fun i H v H' => ∃ T x y z, v = .ref T ∧ H T = none ∧ H' = upd H T (.tup [x, y, z]) ∧ (∀ xs, SqB K t1 H a xs → xs[i]? = some x) ∧ (∀ ys, SqB K t2 H b ys → ys[i]? = some y) ∧ ∀ zs, SqB K t3 H c zs → zs[i]? = some z,
  fun i H => ∃ xs ys zs : List V, SqB K t1 H a xs ∧ SqB K t2 H b ys ∧ SqB K t3 H c zs ∧ i = min (min xs.length ys.length) zs.length⟩
theorem turn_zip3 {P : Program} {w : World} {K : PySem.W.Frag} {elts : List Expr} {kk : Nat} {tpos : Pos} {t1 t2 t3 : Bool} {a b c z TI TO i1 i2 i3 : Addr} (S : ZipSep3 z TI TO i1 i2 i3 [i1, a] [i2, b] [i3, c]) (n1 : a ≠ i1) (n2 : b ≠ i2) (n3 : c ≠ i3) :
    Turn P w K (.Tuple elts kk tpos) (It3 K t1 t2 t3 a b c) [z, TI, TO, i1, i2, i3] z (fun i h => IsZip h z TI TO .none ∧ IsTupOf3 h TI (.ref i1) (.ref i2) (.ref i3) ∧ (∃ x y u, IsTupOf3 h TO x y u) ∧ itB t1 h i1 a i ∧ itB t2 h i2 b i ∧ itB t3 h i3 c i) where
  mem := by simp
  obj := fun i h st d hd => by
    obtain ⟨q1, q2, ⟨x, y, u, q3⟩, q4, q5, q6⟩ := st
    simp only [List.mem_cons, List.not_mem_nil, or_false] at hd
    rcases hd with rfl | rfl | rfl | rfl | rfl | rfl
    · exact ⟨_, q1, fun v q => nomatch q⟩
    · exact ⟨_, q2, fun v q => nomatch q⟩
    · exact ⟨_, q3, fun v q => nomatch q⟩
    · exact itB_obj q4
    · exact itB_obj q5
    · exact itB_obj q6
  keep := fun i h h' st k => by
    obtain ⟨q1, q2, ⟨x, y, u, q3⟩, q4, q5, q6⟩ := st
    exact ⟨k z (by simp) _ q1, k TI (by simp) _ q2, ⟨x, y, u, k TO (by simp) _ q3⟩, itB_at q4 (k i1 (by simp)), itB_at q5 (k i2 (by simp)), itB_at q6 (k i3 (by simp))⟩
  item := by
    intro X hP hw hK hc i pins s σ H E I hf st hg
    subst hP hw hK
    obtain ⟨q1, q2, ⟨x0, y0, u0, q3⟩, q4, q5, q6⟩ := st
    obtain ⟨xs, ys, zs, hx, hy, hz, hi⟩ := hg
    obtain ⟨i1s, r1, p1, _⟩ := hx.inv I
    obtain ⟨i2s, r2, p2, _⟩ := hy.inv I
    obtain ⟨i3s, r3, p3, _⟩ := hz.inv I
    have l1 := r1.length
    have l2 := r2.length
    have l3 := r3.length
    have hh : X.A.in1.handled = none := I.ok.hd hc
    have Wk := WalksT.zipD3 (prog := X.prog) (w := X.w) (A := X.A) S (drawB t1 hh i1 a n1 i1s.toArray) (drawB t2 hh i2 b n2 i2s.toArray) (drawB t3 hh i3 c n3 i3s.toArray)
    refine Wk.item i s _ _ (by simp only [List.size_toArray]; omega) ⟨q1, q2, ⟨x0, y0, u0, q3⟩, ⟨q4, p1⟩, ⟨q5, p2⟩, ⟨q6, p3⟩⟩ fun T vals h' tk hv hT ht hm hk => ?_
    refine ⟨.ref T, rfl, Wk.go elts kk tpos i T { s with heap := h', toks := tk } _ _ hm fun h'' hs hk2 => ?_⟩
    obtain ⟨u1, u2, u3, e1, e2, e3, rfl⟩ := hv
    have hx0 : xs[i]? = some xs[i] := List.getElem?_eq_getElem (by omega)
    have hy0 : ys[i]? = some ys[i] := List.getElem?_eq_getElem (by omega)
    have hz0 : zs[i]? = some zs[i] := List.getElem?_eq_getElem (by omega)
    have rel : ∀ {vs : List V} {us : List Value} {u : Value} {v : V}, Vals vs us → vs[i]? = some v → us.toArray[i]? = some u → RelV v u := fun {vs us u v} r e e' => by
      obtain ⟨u', q, q'⟩ := r.get e
      have e' : us[i]? = some u := by simpa using e'
      rw [q] at e'
      cases e'
      exact q'
    have a1 := rel r1 hx0 e1
    have a2 := rel r2 hy0 e2
    have a3 := rel r3 hz0 e3
    have nT := Wk.apart i T h' hm
    have ht2 : h''.IsTuple T #[u1, u2, u3] := by
      obtain ⟨o, g1, g2⟩ := ht
      exact ⟨o, hk2 T o nT g1, g2⟩
    have hn : H T = none := I.hok.fresh hT
    have nw : ObjOk X.prog X.w (upd H T (.tup [xs[i], ys[i], zs[i]])) h'' T (.tup [xs[i], ys[i], zs[i]]) := ⟨by show 3 ≤ sizeLine; decide, [u1, u2, u3], .cons a1 (.cons a2 (.cons a3 .nil)), ht2⟩
    have sub : ∀ d, d ∈ [z, TO, i1, i2, i3] → d ∈ [z, TI, TO, i1, i2, i3] := fun d hd => by
      simp only [List.mem_cons, List.not_mem_nil, or_false] at hd ⊢
      rcases hd with rfl | rfl | rfl | rfl | rfl <;> simp
    have I1 : L2.Inv X pins σ (upd H T (.tup [xs[i], ys[i], zs[i]])) { s with heap := h'', toks := tk } :=
      I.turnedNew (ch := [z, TI, TO, i1, i2, i3]) (fun d o hd q => hk2 d o (fun m => hd (sub d m)) (hk d o (fun m => hd (sub d m)) q)) hf hT nw
    obtain ⟨s1, s2, s3, s4, s5, s6⟩ := hs
    refine ⟨.ref T, _, I1, rfl, ⟨T, _, _, _, rfl, hn, rfl, fun l hl => by rw [hl.inj I hx]; exact hx0, fun l hl => by rw [hl.inj I hy]; exact hy0, fun l hl => by rw [hl.inj I hz]; exact hz0⟩, ⟨s1, s2, s3, s4.1, s5.1, s6.1⟩, fun d hd => ?_⟩
    have lt : d < s.heap.objs.size := by
      simp only [List.mem_cons, List.not_mem_nil, or_false] at hd
      rcases hd with rfl | rfl | rfl | rfl | rfl | rfl
      · exact Heap.lt_size q1
      · exact Heap.lt_size q2
      · exact Heap.lt_size q3
      · obtain ⟨o, e, _⟩ := itB_obj q4; exact Heap.lt_size e
      · obtain ⟨o, e, _⟩ := itB_obj q5; exact Heap.lt_size e
      · obtain ⟨o, e, _⟩ := itB_obj q6; exact Heap.lt_size e
    rw [upd_ne (Nat.ne_of_lt (Nat.lt_of_lt_of_le lt hT))]
    exact (hf d hd).1
  done := by
    intro X hP hw hK hc i pins s σ H E I hf st hg
    subst hP hw hK
    obtain ⟨q1, q2, ⟨x0, y0, u0, q3⟩, q4, q5, q6⟩ := st
    obtain ⟨xs, ys, zs, hx, hy, hz, hi⟩ := hg
    obtain ⟨i1s, r1, p1, _⟩ := hx.inv I
    obtain ⟨i2s, r2, p2, _⟩ := hy.inv I
    obtain ⟨i3s, r3, p3, _⟩ := hz.inv I
    have l1 := r1.length
    have l2 := r2.length
    have l3 := r3.length
    have hh : X.A.in1.handled = none := I.ok.hd hc
    have Wk := WalksT.zipD3 (prog := X.prog) (w := X.w) (A := X.A) S (drawB t1 hh i1 a n1 i1s.toArray) (drawB t2 hh i2 b n2 i2s.toArray) (drawB t3 hh i3 c n3 i3s.toArray)
    have en : i = min (min i1s.toArray.size i2s.toArray.size) i3s.toArray.size := by simp only [List.size_toArray]; omega
    subst en
    obtain ⟨f0, f1, f2, f3, f4, f5⟩ := hf z (by simp)
    refine Wk.done s _ _ ⟨q1, q2, ⟨x0, y0, u0, q3⟩, ⟨q4, p1⟩, ⟨q5, p2⟩, ⟨q6, p3⟩⟩ fun h' tk hk => ⟨rfl, ?_⟩
    refine I.turnedL (t' := tk) (ch := [z, TI, TO, i1, i2, i3]) (fun d o hd q => hk d o (fun m => hd ?_) q) hf
    simp only [List.mem_cons, List.not_mem_nil, or_false] at m ⊢
    rcases m with rfl | rfl | rfl | rfl | rfl <;> simp
  self := fun A i s Q E st h => wpAny_pyIter_zip st.1 h
def iZip3 (K : PySem.W.Frag) (ta : TA) : TI := fun σ H R => ta σ H fun vs H1 => ∃ a b c xs ys zs t1 t2 t3, vs = [V.ref a, V.ref b, V.ref c] ∧ SqB K t1 H1 a xs ∧ SqB K t2 H1 b ys ∧ SqB K t3 H1 c zs ∧ R (It3 K t1 t2 t3 a b c) H1
theorem pi_zip3 {X : Cx} {es : List Expr} {e : Expr} {ta : TA} {p pos tpos : Pos} {elts : List Expr} {kk : Nat} (hg : Gl X "zip") (hm : X.mg "zip" = none) (ha : PA X (e :: es) ta) (hs : starEach (e :: es) X.env = (false, eval e X.env) :: starEach es X.env) (hpl : (backTo pos (starEach es X.env)).any (·.1) = false) :
    PI X (.Tuple elts kk tpos) (.Call (.Name "zip" p) (e :: es) [] pos) (iZip3 X.K ta) := by
  refine ⟨fun pins s σ H R I h => ?_⟩
  refine Call_ (ld_blt I hg hm PyProof.Rows.boot_zip (PyProof.Rows.callWith_type1 (thn (ha.run pos pins s σ H _ I h) fun us s1 ⟨vs, H1, I1, r1, a, b, c, xs, ys, zs, t1, t2, t3, ex, hx, hy, hz, q⟩ => ?_) hs hpl))
  subst ex
  obtain rfl : us = [.ref a, .ref b, .ref c] := by
    cases r1 with
    | cons r r1 =>
      cases r1 with
      | cons r' r1 =>
        cases r1 with
        | cons r'' r1 => cases r1; cases r; cases r'; cases r''; rfl
  obtain ⟨i1s, v1, p1, l1⟩ := hx.inv I1
  obtain ⟨i2s, v2, p2, l2⟩ := hy.inv I1
  obtain ⟨i3s, v3, p3, l3⟩ := hz.inv I1
  refine zip_begins3 (beginB t1 a i1s.toArray) (beginB t2 b i2s.toArray) (beginB t3 c i3s.toArray) p1 p2 p3 fun h' g1 g2 g3 g4 g5 g6 hsz hk => wpAny_pyIter_zip g1 ?_
  have S := zip_sep3 (N := s1.heap.objs.size) (fp1 := [a]) (fp2 := [b]) (fp3 := [c]) (fun d hd => by rw [List.mem_singleton.mp hd]; exact l1) (fun d hd => by rw [List.mem_singleton.mp hd]; exact l2) (fun d hd => by rw [List.mem_singleton.mp hd]; exact l3)
  refine ⟨s1.heap.objs.size + 5, [s1.heap.objs.size + 5, s1.heap.objs.size + 3, s1.heap.objs.size + 4, s1.heap.objs.size, s1.heap.objs.size + 1, s1.heap.objs.size + 2], _, _, H1, rfl, I1.kept (t' := s1.toks) hk,
    turn_zip3 (t1 := t1) (t2 := t2) (t3 := t3) S (Nat.ne_of_lt l1) (fun e => ?_) (fun e => ?_), ⟨g1, g2, ⟨_, _, _, g3⟩, itB_new g4, itB_new g5, itB_new g6⟩, fun d hd => ?_, q⟩
  · exact absurd (e ▸ l2) (Nat.not_lt.mpr (Nat.le_add_right _ _))
  · exact absurd (e ▸ l3) (Nat.not_lt.mpr (Nat.le_add_right _ _))
  · have le : s1.heap.objs.size ≤ d := by
      simp only [List.mem_cons, List.not_mem_nil, or_false] at hd
      rcases hd with rfl | rfl | rfl | rfl | rfl | rfl
      · exact Nat.le_add_right _ _
      · exact Nat.le_add_right _ _
      · exact Nat.le_add_right _ _
      · exact Nat.le_refl _
      · exact Nat.le_add_right _ _
      · exact Nat.le_add_right _ _
    exact I1.fpOk le (I1.hok.fresh le)
end Ev

/-! Ev, part L: walks; names' lists locked while they are walked. -/
namespace Ev
open PySem L2 PyProof.Rows

/-! ### items by their numbers -/
theorem upto_len : ∀ (n : Nat) (lo : Int), (upto lo n).length = n
  | 0, _ => rfl
  | n + 1, lo => by show (upto (lo + 1) n).length + 1 = n + 1; rw [upto_len n]
theorem upto_get : ∀ (n : Nat) (lo : Int) (i : Nat) (d : PyData), (upto lo n)[i]? = some d → i < n ∧ d = .int (lo + i)
  | 0, _, i, d, h => by simp [upto] at h
  | n + 1, lo, 0, d, h => by simp [upto] at h; subst h; exact ⟨Nat.succ_pos _, by simp⟩
  | n + 1, lo, i + 1, d, h => by
    obtain ⟨h1, h2⟩ := upto_get n (lo + 1) i d (by simpa [upto] using h)
    refine ⟨Nat.succ_lt_succ h1, ?_⟩
    rw [h2]; congr 1; omega
theorem stepto_len (c : Int) : ∀ (n : Nat) (lo : Int), (stepto lo c n).length = n
  | 0, _ => rfl
  | n + 1, lo => by show (stepto (lo + c) c n).length + 1 = n + 1; rw [stepto_len c n]
theorem stepto_get (c : Int) : ∀ (n : Nat) (lo : Int) (i : Nat) (d : PyData), (stepto lo c n)[i]? = some d → i < n ∧ d = .int (lo + (i : Nat) * c)
  | 0, _, i, d, h => by simp [stepto] at h
  | n + 1, lo, 0, d, h => by simp [stepto] at h; subst h; exact ⟨Nat.succ_pos _, by simp⟩
  | n + 1, lo, i + 1, d, h => by
    obtain ⟨h1, h2⟩ := stepto_get c n (lo + c) i d (by simpa [stepto] using h)
    refine ⟨Nat.succ_lt_succ h1, ?_⟩
    rw [h2]; congr 1
    rw [Int.natCast_succ, Int.add_mul, Int.one_mul]; omega
theorem numd_len : ∀ (xs : List PyData) (k : Int), (numd k xs).length = xs.length
  | [], _ => rfl
  | x :: xs, k => by show (numd (k + 1) xs).length + 1 = _; rw [numd_len xs]; rfl
theorem numd_get : ∀ (xs : List PyData) (k : Int) (i : Nat) (d : PyData), (numd k xs)[i]? = some d → ∃ x, xs[i]? = some x ∧ d = .tuple [.int (k + i), x]
  | [], _, i, d, h => by simp [numd] at h
  | x :: xs, k, 0, d, h => by simp [numd] at h; subst h; exact ⟨x, rfl, by simp⟩
  | x :: xs, k, i + 1, d, h => by
    obtain ⟨y, h1, h2⟩ := numd_get xs (k + 1) i d (by simpa [numd] using h)
    refine ⟨y, by simpa using h1, ?_⟩
    rw [h2]
    rw [show k + 1 + (i : Int) = k + ((i + 1 : Nat) : Int) by omega]
theorem pairs_get : ∀ (xs ys : List PyData) (i : Nat) (d : PyData), (pairs xs ys)[i]? = some d → ∃ x y, xs[i]? = some x ∧ ys[i]? = some y ∧ d = .tuple [x, y]
  | [], _, i, d, h => by simp [pairs] at h
  | _ :: _, [], i, d, h => by simp [pairs] at h
  | x :: xs, y :: ys, 0, d, h => by simp [pairs] at h; subst h; exact ⟨x, y, rfl, rfl, rfl⟩
  | x :: xs, y :: ys, i + 1, d, h => by
    obtain ⟨a, b, h1, h2, h3⟩ := pairs_get xs ys i d (by simpa [pairs] using h)
    exact ⟨a, b, by simpa using h1, by simpa using h2, h3⟩
theorem pairs_len : ∀ (xs ys : List PyData), (pairs xs ys).length = min xs.length ys.length
  | [], _ => by simp [pairs]
  | _ :: _, [] => by simp [pairs]
  | x :: xs, y :: ys => by
    show (pairs xs ys).length + 1 = min (xs.length + 1) (ys.length + 1)
    rw [pairs_len xs ys]; omega
theorem triples_get : ∀ (xs ys zs : List PyData) (i : Nat) (d : PyData), (triples xs ys zs)[i]? = some d → ∃ x y z, xs[i]? = some x ∧ ys[i]? = some y ∧ zs[i]? = some z ∧ d = .tuple [x, y, z]
  | [], _, _, i, d, h => by simp [triples] at h
  | _ :: _, [], _, i, d, h => by simp [triples] at h
  | _ :: _, _ :: _, [], i, d, h => by simp [triples] at h
  | x :: xs, y :: ys, z :: zs, 0, d, h => by simp [triples] at h; subst h; exact ⟨x, y, z, rfl, rfl, rfl, rfl⟩
  | x :: xs, y :: ys, z :: zs, i + 1, d, h => by
    obtain ⟨a, b, c, h1, h2, h3, h4⟩ := triples_get xs ys zs i d (by simpa [triples] using h)
    exact ⟨a, b, c, by simpa using h1, by simpa using h2, by simpa using h3, h4⟩
theorem triples_len : ∀ (xs ys zs : List PyData), (triples xs ys zs).length = min (min xs.length ys.length) zs.length
  | [], _, _ => by simp [triples]
  | _ :: _, [], _ => by simp [triples]
  | _ :: _, _ :: _, [] => by simp [triples]
  | x :: xs, y :: ys, z :: zs => by
    show (triples xs ys zs).length + 1 = min (min (xs.length + 1) (ys.length + 1)) (zs.length + 1)
    rw [triples_len xs ys zs]; omega

/-! ### walks of data -/
structure Wlk (K : PySem.W.Frag) (J : It) (xs : List PyData) (P : (Addr → Prop) → (Addr → Prop) → Hp → Prop) : Prop where
  go : ∀ (i : Nat) (Mu Z : Addr → Prop) (H : Hp) (d : PyData), P Mu Z H → xs[i]? = some d → J.go i H
  yld : ∀ (i : Nat) (Mu Z : Addr → Prop) (H : Hp) (d : PyData) (v : V) (H' : Hp), P Mu Z H → xs[i]? = some d → J.yld i H v H' → (H' = H ∧ Fz K H Z v d) ∨ ∃ T us ds, v = V.ref T ∧ H T = none ∧ H' = upd H T (.tup us) ∧ d = .tuple ds ∧ FzAll K H Z us ds
  stop : ∀ (i : Nat) (Mu Z : Addr → Prop) (H : Hp), P Mu Z H → xs.length = i → J.stop i H
  step : ∀ (Mu Z : Addr → Prop) (H : Hp) (Mu' Z' : Addr → Prop) (H' : Hp), P Mu Z H → Stp Mu Z H Mu' Z' H' → P Mu' Z' H'
/-- a list that nobody changes now -/
def PLs (K : PySem.W.Frag) (a : Addr) (vs : List V) (xs : List PyData) : (Addr → Prop) → (Addr → Prop) → Hp → Prop := fun Mu Z H => (RdL K H a vs ∨ (H a = some (.lst vs) ∧ ¬ Mu a)) ∧ FzAll K H Z vs xs
def PTu (K : PySem.W.Frag) (a : Addr) (vs : List V) (xs : List PyData) : (Addr → Prop) → (Addr → Prop) → Hp → Prop := fun _ Z H => SqT K H a vs ∧ FzAll K H Z vs xs
section
variable {K : PySem.W.Frag} {a b : Addr} {vs us : List V} {xs ys : List PyData} {Mu Z Mu' Z' : Addr → Prop} {H H' : Hp}
theorem PLs.step (h : PLs K a vs xs Mu Z H) (s : Stp Mu Z H Mu' Z' H') : PLs K a vs xs Mu' Z' H' := by
  obtain ⟨h1 | ⟨h1, h2⟩, h3⟩ := h
  · exact ⟨.inl (h1.step s), h3.step s⟩
  · refine ⟨.inr ⟨s.keep a _ h1 h2, fun q => ?_⟩, h3.step s⟩
    rcases s.mnew a q with q | q
    · exact h2 q
    · rw [h1] at q; cases q
theorem PLs.sq (h : PLs K a vs xs Mu Z H) : SqL K H a vs := by
  obtain ⟨h1 | ⟨h1, h2⟩, h3⟩ := h
  · exact h1.sq
  · exact .inl (.inl h1)
theorem PTu.step (h : PTu K a vs xs Mu Z H) (s : Stp Mu Z H Mu' Z' H') : PTu K a vs xs Mu' Z' H' := ⟨SqT.step s h.1, h.2.step s⟩
theorem wlk_list : Wlk K (Itl K a) xs (PLs K a vs xs) where
  go := fun i Mu Z H d p e => let ⟨v, h1, _⟩ := p.2.get e; ⟨vs, v, p.sq, h1⟩
  yld := fun i Mu Z H d v H' p e ⟨y1, y2⟩ => by
    obtain ⟨u, h1, h2⟩ := p.2.get e
    have := y2 vs p.sq
    rw [h1] at this; cases this
    exact .inl ⟨y1, h2⟩
  stop := fun i Mu Z H p e => ⟨vs, p.sq, by rw [p.2.length]; exact Nat.le_of_eq e⟩
  step := fun _ _ _ _ _ _ p s => p.step s
theorem wlk_tup : Wlk K (Itt K a) xs (PTu K a vs xs) where
  go := fun i Mu Z H d p e => let ⟨v, h1, _⟩ := p.2.get e; ⟨vs, v, p.1, h1⟩
  yld := fun i Mu Z H d v H' p e ⟨y1, y2⟩ => by
    obtain ⟨u, h1, h2⟩ := p.2.get e
    have := y2 vs p.1
    rw [h1] at this; cases this
    exact .inl ⟨y1, h2⟩
  stop := fun i Mu Z H p e => ⟨vs, p.1, by rw [p.2.length]; exact Nat.le_of_eq e⟩
  step := fun _ _ _ _ _ _ p s => p.step s
theorem wlk_rng {lo : Int} {n : Nat} : Wlk K (Itr lo n) (upto lo n) (fun _ _ _ => True) where
  go := fun i Mu Z H d p e => (upto_get n lo i d e).1
  yld := fun i Mu Z H d v H' p e ⟨y1, y2⟩ => by
    obtain ⟨h1, h2⟩ := upto_get n lo i d e
    subst h2 y2
    exact .inl ⟨y1, .int _⟩
  stop := fun i Mu Z H p e => by rw [upto_len] at e; exact Nat.le_of_eq e
  step := fun _ _ _ _ _ _ _ _ => trivial
theorem wlk_rngC {lo c : Int} {n : Nat} : Wlk K (Itc lo c n) (stepto lo c n) (fun _ _ _ => True) where
  go := fun i Mu Z H d p e => (stepto_get c n lo i d e).1
  yld := fun i Mu Z H d v H' p e ⟨y1, y2⟩ => by
    obtain ⟨h1, h2⟩ := stepto_get c n lo i d e
    subst h2 y2
    exact .inl ⟨y1, .int _⟩
  stop := fun i Mu Z H p e => by rw [stepto_len] at e; exact Nat.le_of_eq e
  step := fun _ _ _ _ _ _ _ _ => trivial
theorem wlk_enum : Wlk K (Ite K a) (numd 0 xs) (PLs K a vs xs) where
  go := fun i Mu Z H d p e => let ⟨x, h0, _⟩ := numd_get xs 0 i d e; let ⟨v, h1, _⟩ := p.2.get h0; ⟨vs, v, p.sq, h1⟩
  yld := fun i Mu Z H d v H' p e ⟨T, x, y0, y1, y2, y3⟩ => by
    obtain ⟨w, h0, rfl⟩ := numd_get xs 0 i d e
    obtain ⟨u, h1, h2⟩ := p.2.get h0
    have := y3 vs p.sq
    rw [h1] at this; cases this
    exact .inr ⟨T, _, _, y0, y1, y2, rfl, .cons (by rw [Int.zero_add]; exact .int _) (.cons h2 .nil)⟩
  stop := fun i Mu Z H p e => ⟨vs, p.sq, by rw [numd_len] at e; rw [p.2.length]; exact Nat.le_of_eq e⟩
  step := fun _ _ _ _ _ _ p s => p.step s
theorem wlk_enumT : Wlk K (IteT K a) (numd 0 xs) (PTu K a vs xs) where
  go := fun i Mu Z H d p e => let ⟨x, h0, _⟩ := numd_get xs 0 i d e; let ⟨v, h1, _⟩ := p.2.get h0; ⟨vs, v, p.1, h1⟩
  yld := fun i Mu Z H d v H' p e ⟨T, x, y0, y1, y2, y3⟩ => by
    obtain ⟨w, h0, rfl⟩ := numd_get xs 0 i d e
    obtain ⟨u, h1, h2⟩ := p.2.get h0
    have := y3 vs p.1
    rw [h1] at this; cases this
    exact .inr ⟨T, _, _, y0, y1, y2, rfl, .cons (by rw [Int.zero_add]; exact .int _) (.cons h2 .nil)⟩
  stop := fun i Mu Z H p e => ⟨vs, p.1, by rw [numd_len] at e; rw [p.2.length]; exact Nat.le_of_eq e⟩
  step := fun _ _ _ _ _ _ p s => p.step s
theorem wlk_zip : Wlk K (Itz K a b) (pairs xs ys) (fun Mu Z H => PLs K a vs xs Mu Z H ∧ PLs K b us ys Mu Z H) where
  go := fun i Mu Z H d p e => let ⟨x, y, h0, h1, _⟩ := pairs_get xs ys i d e; let ⟨v, h2, _⟩ := p.1.2.get h0; let ⟨u, h3, _⟩ := p.2.2.get h1; ⟨vs, us, v, u, p.1.sq, p.2.sq, h2, h3⟩
  yld := fun i Mu Z H d v H' p e ⟨T, x, y, y0, y1, y2, y3, y4⟩ => by
    obtain ⟨w, z, h0, h1, rfl⟩ := pairs_get xs ys i d e
    obtain ⟨u1, q1, q2⟩ := p.1.2.get h0
    obtain ⟨u2, q3, q4⟩ := p.2.2.get h1
    have e1 := y3 vs p.1.sq
    have e2 := y4 us p.2.sq
    rw [q1] at e1; cases e1
    rw [q3] at e2; cases e2
    exact .inr ⟨T, _, _, y0, y1, y2, rfl, .cons q2 (.cons q4 .nil)⟩
  stop := fun i Mu Z H p e => ⟨vs, us, p.1.sq, p.2.sq, by rw [pairs_len] at e; rw [p.1.2.length, p.2.2.length]; omega⟩
  step := fun _ _ _ _ _ _ p s => ⟨p.1.step s, p.2.step s⟩
theorem wlk_zipT : Wlk K (RZ.ItzT K a b) (pairs xs ys) (fun Mu Z H => PTu K a vs xs Mu Z H ∧ PTu K b us ys Mu Z H) where
  go := fun i Mu Z H d p e => let ⟨x, y, h0, h1, _⟩ := pairs_get xs ys i d e; let ⟨v, h2, _⟩ := p.1.2.get h0; let ⟨u, h3, _⟩ := p.2.2.get h1; ⟨vs, us, v, u, p.1.1, p.2.1, h2, h3⟩
  yld := fun i Mu Z H d v H' p e ⟨T, x, y, y0, y1, y2, y3, y4⟩ => by
    obtain ⟨w, z, h0, h1, rfl⟩ := pairs_get xs ys i d e
    obtain ⟨u1, q1, q2⟩ := p.1.2.get h0
    obtain ⟨u2, q3, q4⟩ := p.2.2.get h1
    have e1 := y3 vs p.1.1
    have e2 := y4 us p.2.1
    rw [q1] at e1; cases e1
    rw [q3] at e2; cases e2
    exact .inr ⟨T, _, _, y0, y1, y2, rfl, .cons q2 (.cons q4 .nil)⟩
  stop := fun i Mu Z H p e => ⟨vs, us, p.1.1, p.2.1, by rw [pairs_len] at e; rw [p.1.2.length, p.2.2.length]; omega⟩
  step := fun _ _ _ _ _ _ p s => ⟨p.1.step s, p.2.step s⟩
def PB (K : PySem.W.Frag) (t : Bool) (a : Addr) (vs : List V) (xs : List PyData) : (Addr → Prop) → (Addr → Prop) → Hp → Prop := match t with
  | true => PLs K a vs xs
  | false => PTu K a vs xs
theorem PB.step {t : Bool} (h : PB K t a vs xs Mu Z H) (s : Stp Mu Z H Mu' Z' H') : PB K t a vs xs Mu' Z' H' := by
  cases t
  · exact PTu.step h s
  · exact PLs.step h s
theorem PB.sq {t : Bool} (h : PB K t a vs xs Mu Z H) : SqB K t H a vs := by
  cases t
  · exact h.1
  · exact PLs.sq h
theorem PB.fz {t : Bool} (h : PB K t a vs xs Mu Z H) : FzAll K H Z vs xs := by
  cases t
  · exact h.2
  · exact h.2
theorem wlk_zip2 {t1 t2 : Bool} : Wlk K (It2 K t1 t2 a b) (pairs xs ys) (fun Mu Z H => PB K t1 a vs xs Mu Z H ∧ PB K t2 b us ys Mu Z H) where
  go := fun i Mu Z H d p e => by
    obtain ⟨x, y, h0, h1, _⟩ := pairs_get xs ys i d e
    obtain ⟨_, q1, _⟩ := p.1.fz.get h0
    obtain ⟨_, q2, _⟩ := p.2.fz.get h1
    have l1 := (List.getElem?_eq_some_iff.mp q1).1
    have l2 := (List.getElem?_eq_some_iff.mp q2).1
    exact ⟨vs, us, p.1.sq, p.2.sq, by omega⟩
  yld := fun i Mu Z H d v H' p e ⟨T, x, y, y0, y1, y2, y3, y4⟩ => by
    obtain ⟨w1, w2, h0, h1, rfl⟩ := pairs_get xs ys i d e
    obtain ⟨u1, q1, r1⟩ := p.1.fz.get h0
    obtain ⟨u2, q2, r2⟩ := p.2.fz.get h1
    have e1 := y3 vs p.1.sq
    have e2 := y4 us p.2.sq
    rw [q1] at e1; cases e1
    rw [q2] at e2; cases e2
    exact .inr ⟨T, _, _, y0, y1, y2, rfl, .cons r1 (.cons r2 .nil)⟩
  stop := fun i Mu Z H p e => ⟨vs, us, p.1.sq, p.2.sq, by rw [pairs_len] at e; rw [p.1.fz.length, p.2.fz.length]; exact e.symm⟩
  step := fun _ _ _ _ _ _ p s => ⟨p.1.step s, p.2.step s⟩
theorem wlk_zip3 {c : Addr} {ws : List V} {zs : List PyData} {t1 t2 t3 : Bool} : Wlk K (It3 K t1 t2 t3 a b c) (triples xs ys zs) (fun Mu Z H => PB K t1 a vs xs Mu Z H ∧ PB K t2 b us ys Mu Z H ∧ PB K t3 c ws zs Mu Z H) where
  go := fun i Mu Z H d p e => by
    obtain ⟨x, y, z, h0, h1, h2, _⟩ := triples_get xs ys zs i d e
    obtain ⟨_, q1, _⟩ := p.1.fz.get h0
    obtain ⟨_, q2, _⟩ := p.2.1.fz.get h1
    obtain ⟨_, q3, _⟩ := p.2.2.fz.get h2
    have l1 := (List.getElem?_eq_some_iff.mp q1).1
    have l2 := (List.getElem?_eq_some_iff.mp q2).1
    have l3 := (List.getElem?_eq_some_iff.mp q3).1
    exact ⟨vs, us, ws, p.1.sq, p.2.1.sq, p.2.2.sq, by omega⟩
  yld := fun i Mu Z H d v H' p e ⟨T, x, y, z, y0, y1, y2, y3, y4, y5⟩ => by
    obtain ⟨w1, w2, w3, h0, h1, h2, rfl⟩ := triples_get xs ys zs i d e
    obtain ⟨u1, q1, r1⟩ := p.1.fz.get h0
    obtain ⟨u2, q2, r2⟩ := p.2.1.fz.get h1
    obtain ⟨u3, q3, r3⟩ := p.2.2.fz.get h2
    have e1 := y3 vs p.1.sq
    have e2 := y4 us p.2.1.sq
    have e3 := y5 ws p.2.2.sq
    rw [q1] at e1; cases e1
    rw [q2] at e2; cases e2
    rw [q3] at e3; cases e3
    exact .inr ⟨T, _, _, y0, y1, y2, rfl, .cons r1 (.cons r2 (.cons r3 .nil))⟩
  stop := fun i Mu Z H p e => ⟨vs, us, ws, p.1.sq, p.2.1.sq, p.2.2.sq, by rw [triples_len] at e; rw [p.1.fz.length, p.2.1.fz.length, p.2.2.fz.length]; exact e.symm⟩
  step := fun _ _ _ _ _ _ p s => ⟨p.1.step s, p.2.1.step s, p.2.2.step s⟩
end

/-! ### locks -/
inductive Locks : Env → List Nat → Env → Prop
  | nil {e : Env} : Locks e [] e
  | cons {e e2 : Env} {i : Nat} {xs : List PyData} {ls : List Nat} : e[i]? = some (some (.l xs)) → Locks (e.set i (some (.k xs))) ls e2 → Locks e (i :: ls) e2
theorem Locks.append : ∀ {e e1 e2 : Env} {ls ms : List Nat}, Locks e ls e1 → Locks e1 ms e2 → Locks e (ls ++ ms) e2
  | _, _, _, _, _, .nil, h => h
  | _, _, _, _, _, .cons q r, h => .cons q (r.append h)
section
variable {K : PySem.W.Frag} {fa : Nat → V → Prop} {σ : L2.St} {H0 H : Hp} {Z : Addr → Prop} {env env1 : Env}
theorem Own_lock {i : Nat} {xs : List PyData} {a : Addr} (h : Own σ (env.set i (some (.k xs))) a) : Own σ env a := Own_set (fun ys e => by cases e) h
theorem ownd_lock {i j : Nat} {xs : List PyData} (e : env[i]? = some (some (.l xs))) (h : ownd (env.set i (some (.k xs))) j) : ownd env j := by
  obtain ⟨ys, h⟩ := h
  by_cases ej : j = i
  · subst ej; exact ⟨xs, .inl e⟩
  · rw [List.getElem?_set_ne (Ne.symm ej)] at h
    exact ⟨ys, h⟩
theorem Eok.lock {i : Nat} {xs : List PyData} (ok : Eok K fa H Z σ env) (h : env[i]? = some (some (.l xs))) : Eok K fa H Z σ (env.set i (some (.k xs))) := by
  refine ⟨fun j w q => ?_, fun j k b q1 q2 => ok.apart j k b (ownd_lock h q1) (ownd_lock h q2), ok.zl, by rw [List.length_set]; exact ok.len⟩
  rcases getElem?_set_cases q with ⟨rfl, e, _⟩ | ⟨_, e⟩
  · cases e
    obtain ⟨v, e1, e2⟩ := ok.nm j _ h
    exact ⟨v, e1, e2⟩
  · exact ok.nm j w e
theorem Locks.own : ∀ {env env1 : Env} {ls : List Nat}, Locks env ls env1 → ∀ a, Own σ env1 a → Own σ env a
  | _, _, _, .nil, _, h => h
  | _, _, _, .cons _ r, a, h => Own_lock (r.own a h)
/-- a thing that is walked -/
theorem lock_src {r : Rv} {v : V} {xs : List PyData} {ls : List Nat} (ok : Eok K fa H Z σ env) (old : ∀ a, Own σ env a → ∃ us, H0 a = some (HO.lst us)) (h : RvOk K fa H0 H Z σ r v) (e : lockR env r = some (env1, xs, ls)) :
    Locks env ls env1 ∧ Eok K fa H Z σ env1 ∧ ∃ a vs, v = V.ref a ∧ ((isLs r = true ∧ PLs K a vs xs (Own σ env1) Z H) ∨ (isLs r = false ∧ PTu K a vs xs (Own σ env1) Z H)) := by
  cases r with
  | v x =>
    cases x <;> simp only [lockR] at e <;> try (cases e; done)
    · cases e
      have h : Fz K H Z v (.list xs) := h
      cases h with
      | lst h1 h2 h3 => exact ⟨.nil, ok, _, _, rfl, .inl ⟨rfl, .inr ⟨h1, fun q => h2 (ok.muz _ q)⟩, h3⟩⟩
    · cases e
      have h : Fz K H Z v (.tuple xs) := h
      cases h with
      | tup h1 h3 => exact ⟨.nil, ok, _, _, rfl, .inr ⟨rfl, h1, h3⟩⟩
  | n ys =>
    cases e
    obtain ⟨a, vs, rfl, h1, h2, h3, h4⟩ := h
    exact ⟨.nil, ok, a, vs, rfl, .inl ⟨rfl, .inr ⟨h1, fun q => by
      obtain ⟨us, q⟩ := old a q
      rw [h3] at q; cases q⟩, h4⟩⟩
  | r ys =>
    cases e
    obtain ⟨a, vs, rfl, h1, h4⟩ := h
    exact ⟨.nil, ok, a, vs, rfl, .inl ⟨rfl, .inl h1, h4⟩⟩
  | f n => cases e
  | p i =>
    have h : σ[i]? = some (some v) := h
    unfold lockR at e
    dsimp only at e
    split at e
    · rename_i ys hw
      cases e
      obtain ⟨v', e1, a, vs, rfl, h1, h2, h3⟩ := ok.nm i _ hw
      rw [h] at e1; cases e1
      refine ⟨.cons hw .nil, ok.lock hw, a, vs, rfl, .inl ⟨rfl, .inr ⟨h1, fun ⟨j, zs, q1, q2⟩ => ?_⟩, h3⟩⟩
      rcases getElem?_set_cases q1 with ⟨_, e, _⟩ | ⟨ne, e⟩
      · cases e
      · exact ne (ok.apart j i a ⟨zs, .inl e⟩ ⟨_, .inl hw⟩ q2 h)
    · rename_i ys hw
      cases e
      obtain ⟨v', e1, a, vs, rfl, h1, h2, h3⟩ := ok.nm i _ hw
      rw [h] at e1; cases e1
      refine ⟨.nil, ok, a, vs, rfl, .inl ⟨rfl, .inr ⟨h1, fun ⟨j, zs, q1, q2⟩ => ?_⟩, h3⟩⟩
      have := ok.apart j i a ⟨zs, .inl q1⟩ ⟨_, .inr hw⟩ q2 h
      subst this
      rw [hw] at q1; cases q1
    · rename_i ys hw
      cases e
      obtain ⟨v', e1, e2⟩ := ok.nm i _ hw
      rw [h] at e1; cases e1
      have e2 : Fz K H Z v (.list xs) := e2
      cases e2 with
      | lst h1 h2 h3 => exact ⟨.nil, ok, _, _, rfl, .inl ⟨rfl, .inr ⟨h1, fun q => h2 (ok.muz _ q)⟩, h3⟩⟩
    · cases e
end
/-! ### the reading of what is walked -/
def tI (K : PySem.W.Frag) (fa : Nat → V → Prop) (XX : XW) (G : Tab) (w : Nat) (ms : List ME) : TI := fun σ H R => ∃ Z env, Eok K fa H Z σ env ∧ match evs G ms env with
  | .ok p => match items w p.1 p.2 with
    | some (env1, xs, ls) => ∀ Z' H' J P, Mid K fa σ H Z env H' Z' p.1 → Locks p.1 ls env1 → Eok K fa H' Z' σ env1 → Wlk K J xs P → P (Own σ env1) Z' H' → R J H'
    | none => False
  | .ex c a => ∀ Mu' Z' H', Stp (Own σ env) Z H Mu' Z' H' → XX c a σ H'
  | .bad => False
theorem PI.weak {X : Cx} {tg iter : Expr} {wi wi' : TI} (h : PI X tg iter wi) (w : ∀ σ H R, wi' σ H R → wi σ H R) : PI X tg iter wi' := ⟨fun pins s σ H R I q => h.run pins s σ H R I (w σ H R q)⟩
section
variable {X : Cx} {fa : Nat → V → Prop} {XX : XW} {G : Tab} {tg a b c : Expr} {ma mb mc : ME} {ms : List ME} {pos : Pos} {σ : L2.St} {H : Hp}
/-- the arguments are evaluated, their walk begins -/
theorem tI.args {w : Nat} {R : It → Hp → Prop} (h : tI X.K fa XX G w ms σ H R) : tA X.K fa XX G ms σ H fun vs H1 => ∃ Z env Z1 env' rs env1 xs ls, Eok X.K fa H Z σ env ∧ Mid X.K fa σ H Z env H1 Z1 env' ∧ RvsOk X.K fa H H1 Z1 σ rs vs ∧ items w env' rs = some (env1, xs, ls) ∧
    ∀ J P, Locks env' ls env1 → Eok X.K fa H1 Z1 σ env1 → Wlk X.K J xs P → P (Own σ env1) Z1 H1 → R J H1 := by
  obtain ⟨Z, env, ok, h⟩ := h
  refine ⟨Z, env, ok, ?_⟩
  revert h
  cases evs G ms env with
  | bad => exact fun z => z
  | ex c a => exact fun z => z
  | ok p =>
    intro h Z1 H1 vs m hr
    dsimp only at h
    cases hi : items w p.1 p.2 with
    | none => rw [hi] at h; exact h.elim
    | some q =>
      obtain ⟨env1, xs, ls⟩ := q
      rw [hi] at h
      exact ⟨Z, env, Z1, p.1, p.2, env1, xs, ls, ok, m, hr, hi, fun J P l1 l2 l3 l4 => h Z1 H1 J P m l1 l2 l3 l4⟩
theorem tI.one {w : Nat} {R : It → Hp → Prop} (h : tI X.K fa XX G w [ma] σ H R) : tE X.K fa XX G ma σ H fun v H1 => ∃ Z env Z1 env' r env1 xs ls, Eok X.K fa H Z σ env ∧ Mid X.K fa σ H Z env H1 Z1 env' ∧ RvOk X.K fa H H1 Z1 σ r v ∧ items w env' [r] = some (env1, xs, ls) ∧
    ∀ J P, Locks env' ls env1 → Eok X.K fa H1 Z1 σ env1 → Wlk X.K J xs P → P (Own σ env1) Z1 H1 → R J H1 := by
  obtain ⟨Z, env, ok, h⟩ := h
  refine ⟨Z, env, ok, ?_⟩
  unfold evs at h
  revert h
  cases ev G ma env with
  | bad => exact fun z => z
  | ex c a => exact fun z => z
  | ok p =>
    unfold evs
    intro h Z1 H1 v m hr
    simp only [Rs.bind] at h
    cases hi : items w p.1 [p.2] with
    | none => rw [hi] at h; exact h.elim
    | some q =>
      obtain ⟨env1, xs, ls⟩ := q
      rw [hi] at h
      exact ⟨Z, env, Z1, p.1, p.2, env1, xs, ls, ok, m, hr, hi, fun J P l1 l2 l3 l4 => h Z1 H1 J P m l1 l2 l3 l4⟩
theorem i_seq (ha : PE X a (tE X.K fa XX G ma)) : PI X tg a (tI X.K fa XX G 0 [ma]) := by
  refine PI.weak (pi_seq ha) fun σ H R h => tM.mono h.one fun v H1 ⟨Z, env, Z1, env', r, env1, xs, ls, ok, m, hr, hi, go⟩ => ?_
  obtain ⟨l1, l2, a, vs, rfl, q⟩ := lock_src m.ok (fun a q => m.old q) hr (show lockR env' r = some (env1, xs, ls) from hi)
  refine ⟨a, vs, rfl, ?_⟩
  rcases q with ⟨_, q⟩ | ⟨_, q⟩
  · exact .inl ⟨q.sq, go _ _ l1 l2 wlk_list q⟩
  · exact .inr ⟨q.1, go _ _ l1 l2 wlk_tup q⟩
theorem rvs1 {K : PySem.W.Frag} {H0 H1 : Hp} {Z : Addr → Prop} {rs : List Rv} {vs : List V} {r : Rv} (h : RvsOk K fa H0 H1 Z σ rs vs) (e : rs = [r]) : ∃ v, vs = [v] ∧ RvOk K fa H0 H1 Z σ r v := by
  subst e
  cases h with
  | cons h1 h2 h3 => cases h3; exact ⟨_, rfl, h1⟩
theorem rvs2 {K : PySem.W.Frag} {H0 H1 : Hp} {Z : Addr → Prop} {rs : List Rv} {vs : List V} {r q : Rv} (h : RvsOk K fa H0 H1 Z σ rs vs) (e : rs = [r, q]) : ∃ v u, vs = [v, u] ∧ RvOk K fa H0 H1 Z σ r v ∧ RvOk K fa H0 H1 Z σ q u := by
  subst e
  cases h with
  | cons h1 h2 h3 =>
    obtain ⟨u, rfl, h4⟩ := rvs1 h3 rfl
    exact ⟨_, u, rfl, h1, h4⟩
theorem i_enum {es : List Expr} {kk : Nat} {p pos tpos : Pos} (hg : Gl X "enumerate") (hm : X.mg "enumerate" = none) (ha : PA X [a] (tA X.K fa XX G [ma])) (hs : starEach [a] X.env = [(false, eval a X.env)]) : PI X (.Tuple es kk tpos) (.Call (.Name "enumerate" p) [a] [] pos) (tI X.K fa XX G 4 [ma]) := by
  refine PI.weak (pi_enumA hg hm ha hs) fun σ H R h => tA.mono h.args fun vs H1 ⟨Z, env, Z1, env', rs, env1, xs, ls, ok, m, hr, hi, go⟩ => ?_
  replace hi : items4 env' rs = some (env1, xs, ls) := hi
  unfold items4 at hi
  split at hi <;> try (cases hi; done)
  rename_i r
  obtain ⟨v, rfl, hv⟩ := rvs1 hr rfl
  cases hl : lockR env' r with
  | none => rw [hl] at hi; cases hi
  | some q =>
    obtain ⟨e1, ys, l⟩ := q
    rw [hl] at hi
    cases hi
    obtain ⟨l1, l2, a, vs, rfl, q⟩ := lock_src m.ok (fun a q => m.old q) hv hl
    refine ⟨a, vs, rfl, ?_⟩
    rcases q with ⟨_, q⟩ | ⟨_, q⟩
    · exact .inl ⟨q.sq, go _ _ l1 l2 wlk_enum q⟩
    · exact .inr ⟨q.1, go _ _ l1 l2 wlk_enumT q⟩
theorem PB.of {K : PySem.W.Frag} {b : Bool} {a : Addr} {vs : List V} {xs : List PyData} {Mu Z : Addr → Prop} {H : Hp} (h : (b = true ∧ PLs K a vs xs Mu Z H) ∨ (b = false ∧ PTu K a vs xs Mu Z H)) : PB K b a vs xs Mu Z H := by
  rcases h with ⟨e, h⟩ | ⟨e, h⟩
  · subst e; exact h
  · subst e; exact h
theorem i_zip {es : List Expr} {kk : Nat} {p pos tpos : Pos} (hg : Gl X "zip") (hm : X.mg "zip" = none) (ha : PA X [a, b] (tA X.K fa XX G [ma, mb])) (hs : starEach [a, b] X.env = (false, eval a X.env) :: starEach [b] X.env) (hpl : (backTo pos (starEach [b] X.env)).any (·.1) = false) :
    PI X (.Tuple es kk tpos) (.Call (.Name "zip" p) [a, b] [] pos) (tI X.K fa XX G 5 [ma, mb]) := by
  refine PI.weak (pi_zip2 hg hm ha hs hpl) fun σ H R h => tA.mono h.args fun vs H1 ⟨Z, env, Z1, env', rs, env1, xs, ls, ok, m, hr, hi, go⟩ => ?_
  replace hi : items5 env' rs = some (env1, xs, ls) := hi
  unfold items5 at hi
  split at hi <;> try (cases hi; done)
  rename_i r q
  obtain ⟨v, u, rfl, hv, hu⟩ := rvs2 hr rfl
  cases hl : lockR env' r with
  | none => rw [hl] at hi; cases hi
  | some t =>
    obtain ⟨e1, ys, l⟩ := t
    rw [hl] at hi
    dsimp only at hi
    cases hl2 : lockR e1 q with
    | none => rw [hl2] at hi; cases hi
    | some t =>
      obtain ⟨e2, zs, l'⟩ := t
      rw [hl2] at hi
      cases hi
      obtain ⟨l1, l2, a, vs, rfl, q1⟩ := lock_src m.ok (fun a q => m.old q) hv hl
      obtain ⟨l3, l4, b, us, rfl, q2⟩ := lock_src l2 (fun a q => m.old (l1.own a q)) hu hl2
      have st : Stp (Own σ e1) Z1 H1 (Own σ env1) Z1 H1 := ⟨fun _ _ h _ => h, fun _ o h => ⟨o, h⟩, fun _ h _ => h, fun _ h => .inl h, fun a h => .inl (l3.own a h), l2.muz, l2.zl⟩
      have p1 := (PB.of q1).step st
      have p2 := PB.of q2
      exact ⟨a, b, vs, us, _, _, rfl, p1.sq, p2.sq, go _ _ (l1.append l3) l4 wlk_zip2 ⟨p1, p2⟩⟩
theorem i_zip3 {es : List Expr} {kk : Nat} {p pos tpos : Pos} (hg : Gl X "zip") (hm : X.mg "zip" = none) (ha : PA X [a, b, c] (tA X.K fa XX G [ma, mb, mc])) (hs : starEach [a, b, c] X.env = (false, eval a X.env) :: starEach [b, c] X.env) (hpl : (backTo pos (starEach [b, c] X.env)).any (·.1) = false) :
    PI X (.Tuple es kk tpos) (.Call (.Name "zip" p) [a, b, c] [] pos) (tI X.K fa XX G 6 [ma, mb, mc]) := by
  refine PI.weak (pi_zip3 hg hm ha hs hpl) fun σ H R h => tA.mono h.args fun vs H1 ⟨Z, env, Z1, env', rs, env1, xs, ls, ok, m, hr, hi, go⟩ => ?_
  replace hi : items6 env' rs = some (env1, xs, ls) := hi
  unfold items6 at hi
  split at hi <;> try (cases hi; done)
  rename_i r q t
  cases hr with
  | cons hv _ hr =>
  obtain ⟨u, w, rfl, hu, hw⟩ := rvs2 hr rfl
  rename_i v _ _
  cases hl : lockR env' r with
  | none => rw [hl] at hi; cases hi
  | some t1 =>
  obtain ⟨e1, xs1, l⟩ := t1
  rw [hl] at hi
  dsimp only at hi
  cases hl2 : lockR e1 q with
  | none => rw [hl2] at hi; cases hi
  | some t1 =>
  obtain ⟨e2, xs2, l'⟩ := t1
  rw [hl2] at hi
  dsimp only at hi
  cases hl3 : lockR e2 t with
  | none => rw [hl3] at hi; cases hi
  | some t1 =>
  obtain ⟨e3, xs3, l''⟩ := t1
  rw [hl3] at hi
  cases hi
  obtain ⟨l1, l2, a, vs, rfl, q1⟩ := lock_src m.ok (fun a q => m.old q) hv hl
  obtain ⟨l3, l4, b, us, rfl, q2⟩ := lock_src l2 (fun a q => m.old (l1.own a q)) hu hl2
  obtain ⟨l5, l6, c, ws, rfl, q3⟩ := lock_src l4 (fun a q => m.old (l1.own a (l3.own a q))) hw hl3
  have st : ∀ {e e' : Env}, (∀ a, Own σ e' a → Own σ e a) → Eok X.K fa H1 Z1 σ e → Stp (Own σ e) Z1 H1 (Own σ e') Z1 H1 := fun o ok => ⟨fun _ _ h _ => h, fun _ o h => ⟨o, h⟩, fun _ h _ => h, fun _ h => .inl h, fun a h => .inl (o a h), ok.muz, ok.zl⟩
  have p1 := ((PB.of q1).step (st l3.own l2)).step (st l5.own l4)
  have p2 := (PB.of q2).step (st l5.own l4)
  have p3 := PB.of q3
  exact ⟨a, b, c, vs, us, ws, _, _, _, rfl, p1.sq, p2.sq, p3.sq, go _ _ (l1.append (l3.append l5)) l6 wlk_zip3 ⟨p1, p2, p3⟩⟩
theorem i_rng1 {p : Pos} (hg : Gl X "range") (hm : X.mg "range" = none) (ha : PA X [a] (tA X.K fa XX G [ma])) (hs : starEach [a] X.env = [(false, eval a X.env)]) : PI X tg (.Call (.Name "range" p) [a] [] pos) (tI X.K fa XX G 1 [ma]) := by
  refine PI.weak (pi_range1 hg hm ha hs) fun σ H R h => tA.mono h.args fun vs H1 ⟨Z, env, Z1, env', rs, env1, xs, ls, ok, m, hr, hi, go⟩ => ?_
  replace hi : items1 env' rs = some (env1, xs, ls) := hi
  unfold items1 at hi
  split at hi <;> try (cases hi; done)
  rename_i j
  obtain ⟨v, rfl, hv⟩ := rvs1 hr rfl
  have hv : Fz X.K H1 Z1 v (.int j) := hv
  cases hv
  split at hi
  · rename_i hb
    cases hi
    exact ⟨j, rfl, by omega, by omega, go _ _ .nil m.ok wlk_rng trivial⟩
  · cases hi
theorem i_rng2 {p : Pos} (hg : Gl X "range") (hm : X.mg "range" = none) (ha : PA X [a, b] (tA X.K fa XX G [ma, mb])) (hs : starEach [a, b] X.env = [(false, eval a X.env), (false, eval b X.env)]) (hs2 : starEach [b] X.env = [(false, eval b X.env)]) : PI X tg (.Call (.Name "range" p) [a, b] [] pos) (tI X.K fa XX G 2 [ma, mb]) := by
  refine PI.weak (pi_range2 hg hm ha hs hs2) fun σ H R h => tA.mono h.args fun vs H1 ⟨Z, env, Z1, env', rs, env1, xs, ls, ok, m, hr, hi, go⟩ => ?_
  replace hi : items2 env' rs = some (env1, xs, ls) := hi
  unfold items2 at hi
  split at hi <;> try (cases hi; done)
  rename_i i j
  obtain ⟨v, u, rfl, hv, hu⟩ := rvs2 hr rfl
  have hv : Fz X.K H1 Z1 v (.int i) := hv
  have hu : Fz X.K H1 Z1 u (.int j) := hu
  cases hv
  cases hu
  split at hi
  · rename_i hb
    cases hi
    exact ⟨i, j, rfl, ⟨by omega, by omega, by omega, by omega⟩, go _ _ .nil m.ok wlk_rng trivial⟩
  · cases hi
theorem i_rng3 {p : Pos} (hg : Gl X "range") (hm : X.mg "range" = none) (ha : PA X [a, b, c] (tA X.K fa XX G [ma, mb, mc])) (hs : starEach [a, b, c] X.env = (false, eval a X.env) :: starEach [b, c] X.env) (hpl : (backTo pos (starEach [b, c] X.env)).any (·.1) = false) : PI X tg (.Call (.Name "range" p) [a, b, c] [] pos) (tI X.K fa XX G 3 [ma, mb, mc]) := by
  refine PI.weak (pi_range3 hg hm ha hs hpl) fun σ H R h => tA.mono h.args fun vs H1 ⟨Z, env, Z1, env', rs, env1, xs, ls, ok, m, hr, hi, go⟩ => ?_
  replace hi : items3 env' rs = some (env1, xs, ls) := hi
  unfold items3 at hi
  split at hi <;> try (cases hi; done)
  rename_i i j k
  cases hr with
  | cons hv _ hr =>
    obtain ⟨u, w, rfl, hu, hw⟩ := rvs2 hr rfl
    rename_i v _ _
    have hv : Fz X.K H1 Z1 v (.int i) := hv
    have hu : Fz X.K H1 Z1 u (.int j) := hu
    have hw : Fz X.K H1 Z1 w (.int k) := hw
    cases hv
    cases hu
    cases hw
    split at hi
    · rename_i hb
      cases hi
      exact ⟨i, j, k, _, rfl, ⟨hb.1, hb.2.1, hb.2.2, PyProof.Rows.rangeSize_toNat i j k⟩, go _ _ .nil m.ok wlk_rngC trivial⟩
    · cases hi
end
end Ev

/-! Ev, part M: targets; comprehensions. -/
namespace Ev
open PySem L2 PyProof.Rows

/-- a step in which names may be bound to data, but to no list of their own -/
structure Bm (K : PySem.W.Frag) (fa : Nat → V → Prop) (σ0 : L2.St) (H0 : Hp) (Z0 : Addr → Prop) (env0 : Env) (σ : L2.St) (H : Hp) (Z : Addr → Prop) (env : Env) : Prop where
  st : Stp (Own σ0 env0) Z0 H0 (Own σ env) Z H
  mo : ∀ a, Own σ env a → Own σ0 env0 a
  mw : ∀ i, ownd env i → ownd env0 i ∧ σ[i]? = σ0[i]?
  kk : ∀ (i : Nat) (xs : List PyData), env[i]? = some (some (W.k xs)) → env0[i]? = some (some (W.k xs))
  ok : Eok K fa H Z σ env
section
variable {K : PySem.W.Frag} {fa : Nat → V → Prop} {σ σ0 σ1 σ2 : L2.St} {H H0 H1 H2 : Hp} {Z Z0 Z1 Z2 : Addr → Prop} {env env0 env1 env2 : Env} {v : V} {d : PyData}
theorem Bm.refl (h : Eok K fa H Z σ env) : Bm K fa σ H Z env σ H Z env := ⟨.refl h.muz h.zl, fun _ h => h, fun _ h => ⟨h, rfl⟩, fun _ _ h => h, h⟩
theorem Bm.trans (a : Bm K fa σ0 H0 Z0 env0 σ1 H1 Z1 env1) (b : Bm K fa σ1 H1 Z1 env1 σ2 H2 Z2 env2) : Bm K fa σ0 H0 Z0 env0 σ2 H2 Z2 env2 :=
  ⟨a.st.trans b.st, fun x h => a.mo x (b.mo x h), fun i h => let ⟨h1, e1⟩ := b.mw i h; let ⟨h2, e2⟩ := a.mw i h1; ⟨h2, e1.trans e2⟩, fun i xs h => a.kk i xs (b.kk i xs h), b.ok⟩
theorem Mid.bm (m : Mid K fa σ H0 Z0 env0 H Z env) : Bm K fa σ H0 Z0 env0 σ H Z env := ⟨m.st, m.mo, fun i h => ⟨m.mw i h, rfl⟩, m.kk, m.ok⟩
/-- the lists that names own stood at the start -/
theorem Bm.slot (m : Bm K fa σ0 H0 Z0 env0 σ H Z env) (ok : Eok K fa H0 Z0 σ0 env0) {i : Nat} {a : Addr} (h : ownd env i) (e : σ[i]? = some (some (V.ref a))) : ∃ vs, H0 a = some (HO.lst vs) := by
  obtain ⟨h1, e1⟩ := m.mw i h
  rw [e1] at e
  exact (ok.slot h1 e).2
theorem Bm.newT {p : Addr} {o : HO} (m : Bm K fa σ0 H0 Z0 env0 σ H Z env) (h : H p = none) : Bm K fa σ0 H0 Z0 env0 σ (upd H p o) Z env := m.trans ((Mid.refl m.ok).newT h).bm
/-- data is bound to a name -/
theorem Eok.bind (ok : Eok K fa H Z σ env) (f : Fz K H Z v d) (i : Nat) : Eok K fa H Z (σ.set i (some v)) (env.set i (some (.d d))) := by
  have nd : ∀ ys, (some (W.d d) : Option W) ≠ some (.l ys) ∧ (some (W.d d) : Option W) ≠ some (.k ys) := fun ys => ⟨fun q => (by cases q), fun q => (by cases q)⟩
  refine ⟨fun j w hj => ?_, fun j k b o1 o2 e1 e2 => ?_, ok.zl, by rw [List.length_set, List.length_set]; exact ok.len⟩
  · rcases getElem?_set_cases hj with ⟨rfl, e, hl⟩ | ⟨ne, e⟩
    · cases e
      exact ⟨v, List.getElem?_set_self (by rw [← ok.len]; exact hl), f⟩
    · obtain ⟨u, e1, e2⟩ := ok.nm j w e
      exact ⟨u, by rw [List.getElem?_set_ne (Ne.symm ne)]; exact e1, e2⟩
  · obtain ⟨h1, n1⟩ := ownd_set nd o1
    obtain ⟨h2, n2⟩ := ownd_set nd o2
    rw [List.getElem?_set_ne (Ne.symm n1)] at e1
    rw [List.getElem?_set_ne (Ne.symm n2)] at e2
    exact ok.apart j k b h1 h2 e1 e2
theorem Bm.bind (ok : Eok K fa H Z σ env) (f : Fz K H Z v d) (i : Nat) : Bm K fa σ H Z env (σ.set i (some v)) H Z (env.set i (some (.d d))) := by
  have nd : ∀ ys, (some (W.d d) : Option W) ≠ some (.l ys) ∧ (some (W.d d) : Option W) ≠ some (.k ys) := fun ys => ⟨fun q => (by cases q), fun q => (by cases q)⟩
  have mo : ∀ a, Own (σ.set i (some v)) (env.set i (some (.d d))) a → Own σ env a := fun a ⟨j, xs, q1, q2⟩ => by
    rcases getElem?_set_cases q1 with ⟨_, e, _⟩ | ⟨ne, e⟩
    · cases e
    · rw [List.getElem?_set_ne (Ne.symm ne)] at q2
      exact ⟨j, xs, e, q2⟩
  refine ⟨⟨fun _ _ h _ => h, fun _ o h => ⟨o, h⟩, fun _ h _ => h, fun _ h => .inl h, fun a h => .inl (mo a h), ok.muz, ok.zl⟩, mo, fun j h => ?_, fun j xs h => ?_, ok.bind f i⟩
  · obtain ⟨h1, n1⟩ := ownd_set nd h
    exact ⟨h1, List.getElem?_set_ne (Ne.symm n1)⟩
  · rcases getElem?_set_cases h with ⟨_, e, _⟩ | ⟨_, e⟩
    · cases e
    · exact e

/-! ### targets -/
def gT (K : PySem.W.Frag) (fa : Nat → V → Prop) (t : Tgt) : TG := fun v σ H Q => ∃ Z env d env', Eok K fa H Z σ env ∧ Fz K H Z v d ∧ asgT t d env = some env' ∧
  ∀ σ', Bm K fa σ H Z env σ' H Z env' → (∀ i, i ∉ stoT t → σ'[i]? = σ[i]?) → σ'.length = σ.length → Q σ' H
def gTs (K : PySem.W.Frag) (fa : Nat → V → Prop) (ts : List Tgt) : TGs := fun vs σ H Q => ∃ Z env ds env', Eok K fa H Z σ env ∧ FzAll K H Z vs ds ∧ asgTs ts ds env = some env' ∧
  ∀ σ', Bm K fa σ H Z env σ' H Z env' → (∀ i, i ∉ stoTs ts → σ'[i]? = σ[i]?) → σ'.length = σ.length → Q σ' H
theorem PG.weak {X : Cx} {e : Expr} {t t' : TG} (h : PG X e t) (w : ∀ v σ H Q, t' v σ H Q → t v σ H Q) : PG X e t' := ⟨fun pins s σ H v u Q I r q => h.run pins s σ H v u Q I r (w v σ H Q q)⟩
theorem PGs.weak {X : Cx} {es : List Expr} {t t' : TGs} (h : PGs X es t) (w : ∀ v σ H Q, t' v σ H Q → t v σ H Q) : PGs X es t' := ⟨fun pins s σ H v u Q I r q => h.run pins s σ H v u Q I r (w v σ H Q q)⟩
end
section
variable {X : Cx} {fa : Nat → V → Prop} {pos : Pos}
theorem g_name {i : Nat} {x : Str} (hN : X.N.Nodup) (hi : X.N[i]? = some x) (hx : Loc X.env.scope x) (hf : X.fn x = true ∨ X.env.scope.names.lookup x = some .local) : PG X (.Name x pos) (gT X.K fa (.n i)) := by
  refine PG.weak (pg_name hN hi hx hf) fun v σ H Q ⟨Z, env, d, env', ok, f, e, q⟩ => ?_
  unfold asgT at e
  split at e
  · cases e
    exact q _ (Bm.bind ok f i) (fun j hj => List.getElem?_set_ne (by
      intro e
      subst e
      exact hj (by simp [stoT]))) (by rw [List.length_set])
  · cases e
theorem gs_nil : PGs X [] (gTs X.K fa []) := PGs.weak pgs_nil fun vs σ H Q ⟨Z, env, ds, env', ok, f, e, q⟩ => by
  cases f with
  | nil =>
    cases e
    exact ⟨rfl, q σ (.refl ok) (fun _ _ => rfl) rfl⟩
  | cons h r => cases e
theorem gs_cons {e : Expr} {es : List Expr} {t : Tgt} {ts : List Tgt} (h1 : PG X e (gT X.K fa t)) (h2 : PGs X es (gTs X.K fa ts)) (hs : (assignEach (e :: es) X.env).map (·.2) = assign e X.env :: (assignEach es X.env).map (·.2)) : PGs X (e :: es) (gTs X.K fa (t :: ts)) := by
  refine PGs.weak (pgs_cons h1 h2 hs) fun vs σ H Q ⟨Z, env, ds, env', ok, f, e, q⟩ => ?_
  cases f with
  | nil => cases e
  | cons f1 f2 =>
    unfold asgTs at e
    split at e
    · rename_i env1 e1
      refine ⟨_, _, rfl, Z, env, _, env1, ok, f1, e1, fun σ1 b1 o1 l1 => ⟨Z, env1, _, env', b1.ok, f2, e, fun σ2 b2 o2 l2 => ?_⟩⟩
      refine q σ2 (b1.trans b2) (fun i hi => ?_) (l2.trans l1)
      unfold stoTs at hi
      rw [List.mem_append, not_or] at hi
      rw [o2 i hi.2, o1 i hi.1]
    · cases e
theorem asgTs_len : ∀ {ts : List Tgt} {ds : List PyData} {env env' : Env}, asgTs ts ds env = some env' → ts.length = ds.length
  | [], [], _, _, _ => rfl
  | [], _ :: _, _, _, h => by cases h
  | _ :: _, [], _, _, h => by cases h
  | t :: ts, d :: ds, env, env', h => by
    unfold asgTs at h
    split at h
    · rw [List.length_cons, List.length_cons, asgTs_len h]
    · cases h
theorem g_tup {es : List Expr} {k : Nat} {ts : List Tgt} {n : Nat} (hc : X.calm = true) (h : PGs X es (gTs X.K fa ts)) (hl : ts.length = n) (hn : (assignEach es X.env).length = n) (hst : (assignEach es X.env).findIdx? (·.1) = none) : PG X (.Tuple es k pos) (gT X.K fa (.t ts)) := by
  refine PG.weak (pg_tup hc h hn hst) fun v σ H Q ⟨Z, env, d, env', ok, f, e, q⟩ => ?_
  cases d <;> simp only [asgT] at e <;> try (cases e; done)
  cases f with
  | tup f1 f2 => exact ⟨_, _, rfl, f1, by rw [f2.length, ← asgTs_len e, hl], Z, env, _, env', ok, f2, e, fun σ' b o l => q σ' b (by simpa [stoT] using o) l⟩
/-- names by a list -/
def gL (K : PySem.W.Frag) (fa : Nat → V → Prop) (ts : List Tgt) : TG := fun v σ H Q => ∃ (a : Addr) (us : List V) (Z : Addr → Prop) (env : Env) (ds : List PyData) (env' : Env), v = V.ref a ∧ H a = some (HO.lst us) ∧ Eok K fa H Z σ env ∧ FzAll K H Z us ds ∧ asgTs ts ds env = some env' ∧
  ∀ σ', Bm K fa σ H Z env σ' H Z env' → (∀ i, i ∉ stoTs ts → σ'[i]? = σ[i]?) → σ'.length = σ.length → Q σ' H
theorem g_lst {es : List Expr} {k : Nat} {ts : List Tgt} {n : Nat} (hc : X.calm = true) (h : PGs X es (gTs X.K fa ts)) (hl : ts.length = n) (hn : (assignEach es X.env).length = n) (hst : (assignEach es X.env).findIdx? (·.1) = none) : PG X (.Tuple es k pos) (gL X.K fa ts) := by
  refine PG.weak (pg_unl hc h hn hst) fun v σ H Q ⟨a, us, Z, env, ds, env', ev, ha, ok, f, e, q⟩ => ?_
  exact ⟨a, us, ev, .inl (.inl ha), by rw [f.length, ← asgTs_len e, hl], Z, env, ds, env', ok, f, e, q⟩
end

/-! ### slots of a block's own names -/
section
variable {K : PySem.W.Frag} {fa : Nat → V → Prop} {σ σ0 σ1 σ2 : L2.St} {H H0 H1 H2 : Hp} {Z Z0 Z1 Z2 : Addr → Prop} {env env0 env1 env2 : Env} {v : V} {d : PyData}
theorem wipeE_len (env : Env) : ∀ vs : List Nat, (wipeE env vs).length = env.length
  | [] => rfl
  | v :: vs => by unfold wipeE; rw [List.length_set, wipeE_len env vs]
theorem wipeE_some {i : Nat} {w : W} : ∀ {vs : List Nat}, (wipeE env vs)[i]? = some (some w) → env[i]? = some (some w) ∧ i ∉ vs
  | [], h => ⟨h, by simp⟩
  | v :: vs, h => by
    unfold wipeE at h
    rcases getElem?_set_cases h with ⟨_, e, _⟩ | ⟨ne, e⟩
    · cases e
    · obtain ⟨h1, h2⟩ := wipeE_some e
      exact ⟨h1, by simp only [List.mem_cons, not_or]; exact ⟨ne, h2⟩⟩
theorem wipe_ne {i : Nat} : ∀ {vs : List Nat}, i ∉ vs → (L2.wipe σ vs)[i]? = σ[i]?
  | [], _ => rfl
  | v :: vs, h => by
    simp only [List.mem_cons, not_or] at h
    unfold L2.wipe
    rw [List.getElem?_set_ne (Ne.symm h.1), wipe_ne h.2]
theorem wipe_in {i : Nat} : ∀ {vs : List Nat}, i ∈ vs → i < σ.length → (L2.wipe σ vs)[i]? = some none
  | v :: vs, h, hl => by
    unfold L2.wipe
    by_cases e : v = i
    · subst e
      exact List.getElem?_set_self (by rw [L2.wipe_length]; exact hl)
    · rw [List.getElem?_set_ne e]
      rcases List.mem_cons.mp h with q | q
      · exact absurd q.symm e
      · exact wipe_in q hl
theorem wipe_eq {vs : List Nat} (hl : σ2.length = σ.length) (h : ∀ i, i ∉ vs → σ2[i]? = (L2.wipe σ vs)[i]?) : L2.wipe σ2 vs = L2.wipe σ vs := by
  apply List.ext_getElem?
  intro i
  by_cases hi : i ∈ vs
  · by_cases hb : i < σ.length
    · rw [wipe_in hi hb, wipe_in hi (by rw [hl]; exact hb)]
    · rw [List.getElem?_eq_none (by rw [L2.wipe_length, hl]; omega), List.getElem?_eq_none (by rw [L2.wipe_length]; omega)]
  · rw [wipe_ne hi, h i hi]
theorem Bm.wipe (ok : Eok K fa H Z σ env) (vs : List Nat) : Bm K fa σ H Z env (L2.wipe σ vs) H Z (wipeE env vs) := by
  have mo : ∀ a, Own (L2.wipe σ vs) (wipeE env vs) a → Own σ env a := fun a ⟨j, xs, q1, q2⟩ => ⟨j, xs, (wipeE_some q1).1, (L2.wipe_some q2).1⟩
  have mw : ∀ i, ownd (wipeE env vs) i → ownd env i ∧ (L2.wipe σ vs)[i]? = σ[i]? := fun i ⟨xs, h⟩ => by
    rcases h with h | h
    · obtain ⟨h1, h2⟩ := wipeE_some h
      exact ⟨⟨xs, .inl h1⟩, wipe_ne h2⟩
    · obtain ⟨h1, h2⟩ := wipeE_some h
      exact ⟨⟨xs, .inr h1⟩, wipe_ne h2⟩
  refine ⟨⟨fun _ _ h _ => h, fun _ o h => ⟨o, h⟩, fun _ h _ => h, fun _ h => .inl h, fun a h => .inl (mo a h), ok.muz, ok.zl⟩, mo, mw, fun i xs h => (wipeE_some h).1, ⟨fun i w h => ?_, fun i j b o1 o2 e1 e2 => ?_, ok.zl, by rw [wipeE_len, L2.wipe_length]; exact ok.len⟩⟩
  · obtain ⟨h1, h2⟩ := wipeE_some h
    obtain ⟨v, e1, e2⟩ := ok.nm i w h1
    exact ⟨v, by rw [wipe_ne h2]; exact e1, e2⟩
  · obtain ⟨h1, q1⟩ := mw i o1
    obtain ⟨h2, q2⟩ := mw j o2
    rw [q1] at e1
    rw [q2] at e2
    exact ok.apart i j b h1 h2 e1 e2
theorem restE_len (env0 env : Env) : ∀ vs : List Nat, (restE env0 env vs).length = env.length
  | [] => rfl
  | v :: vs => by unfold restE; rw [List.length_set, restE_len env0 env vs]
theorem restE_some {i : Nat} {w : W} : ∀ {vs : List Nat}, (restE env0 env vs)[i]? = some (some w) → (i ∈ vs ∧ env0[i]? = some (some w)) ∨ (i ∉ vs ∧ env[i]? = some (some w))
  | [], h => .inr ⟨by simp, h⟩
  | v :: vs, h => by
    unfold restE at h
    rcases getElem?_set_cases h with ⟨e1, e, _⟩ | ⟨ne, e⟩
    · subst e1
      refine .inl ⟨List.mem_cons_self, ?_⟩
      rw [List.getD_eq_getElem?_getD] at e
      cases q : env0[i]? with
      | none => rw [q] at e; cases e
      | some o => rw [q] at e; cases o <;> cases e; rfl
    · rcases restE_some e with ⟨h1, h2⟩ | ⟨h1, h2⟩
      · exact .inl ⟨List.mem_cons_of_mem _ h1, h2⟩
      · exact .inr ⟨by simp only [List.mem_cons, not_or]; exact ⟨ne, h1⟩, h2⟩
theorem restE_ownd {i : Nat} {vs : List Nat} (h : ownd (restE env0 env vs) i) : (i ∈ vs ∧ ownd env0 i) ∨ (i ∉ vs ∧ ownd env i) := by
  obtain ⟨xs, h | h⟩ := h
  · rcases restE_some h with ⟨h1, h2⟩ | ⟨h1, h2⟩
    · exact .inl ⟨h1, xs, .inl h2⟩
    · exact .inr ⟨h1, xs, .inl h2⟩
  · rcases restE_some h with ⟨h1, h2⟩ | ⟨h1, h2⟩
    · exact .inl ⟨h1, xs, .inr h2⟩
    · exact .inr ⟨h1, xs, .inr h2⟩
/-- behind the block its own names are as they were -/
theorem Bm.rest {vs : List Nat} (ok : Eok K fa H1 Z1 σ env1) (b : Bm K fa (L2.wipe σ vs) H1 Z1 (wipeE env1 vs) (L2.wipe σ vs) H Z env) : Mid K fa σ H1 Z1 env1 H Z (restE env1 env vs) := by
  have bw := Bm.wipe ok vs
  have own1 : ∀ a, Own (L2.wipe σ vs) env a → Own σ env1 a := fun a q => bw.mo a (b.mo a q)
  have own : ∀ a, Own σ (restE env1 env vs) a → Own σ env1 a := fun a ⟨i, xs, q1, q2⟩ => by
    rcases restE_some q1 with ⟨h1, h2⟩ | ⟨h1, h2⟩
    · exact ⟨i, xs, h2, q2⟩
    · exact own1 a ⟨i, xs, h2, by rw [wipe_ne h1]; exact q2⟩
  have mw : ∀ i, ownd (restE env1 env vs) i → ownd env1 i := fun i q => by
    rcases restE_ownd q with ⟨_, h⟩ | ⟨_, h⟩
    · exact h
    · exact (bw.mw i (b.mw i h).1).1
  have old : ∀ i a, i ∈ vs → ownd env1 i → σ[i]? = some (some (V.ref a)) → ¬ Own (L2.wipe σ vs) (wipeE env1 vs) a := fun i a hi o e ⟨j, xs, q1, q2⟩ => by
    obtain ⟨h1, h2⟩ := wipeE_some q1
    rw [wipe_ne h2] at q2
    have := ok.apart i j a o ⟨xs, .inl h1⟩ e q2
    subst this
    exact h2 hi
  refine ⟨⟨fun a o h n => b.st.keep a o h fun q => n (bw.mo a q), b.st.dom, fun a h n => b.st.zold a h fun q => n (bw.mo a q), b.st.znew, fun a h => .inl (own a h), ok.muz, ok.zl⟩, own, mw, fun i a h e => (ok.slot (mw i h) e).2, fun i xs h => ?_, ⟨fun i w h => ?_, fun i j a o1 o2 e1 e2 => ok.apart i j a (mw i o1) (mw j o2) e1 e2, b.ok.zl, ?_⟩⟩
  · rcases restE_some h with ⟨_, h⟩ | ⟨_, h⟩
    · exact h
    · exact bw.kk i xs (b.kk i xs h)
  · rcases restE_some h with ⟨hi, h⟩ | ⟨hi, h⟩
    · obtain ⟨v, e1, e2⟩ := ok.nm i w h
      refine ⟨v, e1, ?_⟩
      cases w with
      | d x => exact Fz.step b.st e2
      | l xs =>
        obtain ⟨a, us, rfl, h1, h2, h3⟩ := e2
        have n := old i a hi ⟨xs, .inl h⟩ e1
        exact ⟨a, us, rfl, b.st.keep a _ h1 n, b.st.zold a h2 n, FzAll.step b.st h3⟩
      | k xs =>
        obtain ⟨a, us, rfl, h1, h2, h3⟩ := e2
        have n := old i a hi ⟨xs, .inr h⟩ e1
        exact ⟨a, us, rfl, b.st.keep a _ h1 n, b.st.zold a h2 n, FzAll.step b.st h3⟩
      | r xs =>
        obtain ⟨a, us, rfl, h1, h3⟩ := e2
        exact ⟨a, us, rfl, RdL.step b.st h1, FzAll.step b.st h3⟩
      | f n => exact e2
    · obtain ⟨v, e1, e2⟩ := b.ok.nm i w h
      exact ⟨v, by rw [wipe_ne hi] at e1; exact e1, e2⟩
  · rw [restE_len, b.ok.len, L2.wipe_length]

/-! ### unlocking -/
theorem unlock1_some {i : Nat} (h : unlock1 env i = some env1) : ∃ xs, env[i]? = some (some (.k xs)) ∧ env1 = env.set i (some (.l xs)) := by
  unfold unlock1 at h
  split at h
  · rename_i xs e
    cases h
    exact ⟨xs, e, rfl⟩
  · cases h
theorem Eok.unlock1 {i : Nat} {xs : List PyData} (ok : Eok K fa H Z σ env) (h : env[i]? = some (some (.k xs))) : Eok K fa H Z σ (env.set i (some (.l xs))) := by
  have ow : ∀ j, ownd (env.set i (some (.l xs))) j → ownd env j := fun j ⟨ys, q⟩ => by
    by_cases ej : j = i
    · subst ej; exact ⟨xs, .inr h⟩
    · rw [List.getElem?_set_ne (Ne.symm ej)] at q
      exact ⟨ys, q⟩
  refine ⟨fun j w q => ?_, fun j k b q1 q2 => ok.apart j k b (ow j q1) (ow k q2), ok.zl, by rw [List.length_set]; exact ok.len⟩
  rcases getElem?_set_cases q with ⟨rfl, e, _⟩ | ⟨_, e⟩
  · cases e
    obtain ⟨v, e1, e2⟩ := ok.nm j _ h
    exact ⟨v, e1, e2⟩
  · exact ok.nm j w e
theorem Mid.unlock1 {i : Nat} {xs : List PyData} (ok : Eok K fa H1 Z1 σ env1) (h : env1[i]? = some (some (.l xs))) (m : Mid K fa σ H1 Z1 (env1.set i (some (.k xs))) H Z env) (u : unlock1 env i = some env2) : Mid K fa σ H1 Z1 env1 H Z env2 := by
  obtain ⟨ys, e1, rfl⟩ := unlock1_some u
  obtain ⟨a, vs, ea, _, _⟩ := ok.own h
  have hi : i < env1.length := (List.getElem?_eq_some_iff.mp h).1
  have mo0 : ∀ b, Own σ (env1.set i (some (.k xs))) b → Own σ env1 b := fun b q => Own_lock q
  have own : ∀ b, Own σ (env.set i (some (.l ys))) b → Own σ env1 b := fun b ⟨j, zs, q1, q2⟩ => by
    rcases getElem?_set_cases q1 with ⟨rfl, _, _⟩ | ⟨_, e⟩
    · exact ⟨j, xs, h, q2⟩
    · exact mo0 b (m.mo b ⟨j, zs, e, q2⟩)
  have mw : ∀ j, ownd (env.set i (some (.l ys))) j → ownd env1 j := fun j ⟨zs, q⟩ => by
    by_cases ej : j = i
    · subst ej; exact ⟨xs, .inl h⟩
    · rw [List.getElem?_set_ne (Ne.symm ej)] at q
      exact ownd_lock h (m.mw j ⟨zs, q⟩)
  refine ⟨⟨fun b o q n => m.st.keep b o q fun z => n (mo0 b z), m.st.dom, fun b q n => m.st.zold b q fun z => n (mo0 b z), m.st.znew, fun b q => .inl (own b q), ok.muz, ok.zl⟩, own, mw, fun j b q e => (ok.slot (mw j q) e).2, fun j zs q => ?_, m.ok.unlock1 e1⟩
  rcases getElem?_set_cases q with ⟨_, e, _⟩ | ⟨ne, e⟩
  · cases e
  · have := m.kk j zs e
    rw [List.getElem?_set_ne (Ne.symm ne)] at this
    exact this
theorem Mid.unlock : ∀ {ls : List Nat} {env1 envl env env2 : Env}, Locks env1 ls envl → Eok K fa H1 Z1 σ env1 → Mid K fa σ H1 Z1 envl H Z env → Ev.unlock env ls = some env2 → Mid K fa σ H1 Z1 env1 H Z env2
  | _, _, _, _, _, .nil, _, m, u => by cases u; exact m
  | _, _, _, _, _, .cons h r, ok, m, u => by
    unfold Ev.unlock at u
    split at u
    · rename_i e' h'
      exact Mid.unlock1 ok h (Mid.unlock r (ok.lock h) m h') u
    · cases u
end
end Ev

/-! Ev, part N: comprehensions. -/
namespace Ev
open PySem L2 PyProof.Rows

/-- nothing is raised -/
def noX : XW := fun _ _ _ _ => False
/-- the tests of a comprehension -/
def tTs (K : PySem.W.Frag) (fa : Nat → V → Prop) (G : Tab) (ms : List ME) : TT := fun σ H Q => ∃ Z env, Eok K fa H Z σ env ∧ match evt G ms env with
  | .ok p => ∀ Z' H', Mid K fa σ H Z env H' Z' p.1 → Q p.2 H'
  | _ => False
theorem PTs.weak {X : Cx} {ifs : List Expr} {t t' : TT} (h : PTs X ifs t) (w : ∀ σ H Q, t' σ H Q → t σ H Q) : PTs X ifs t' := ⟨fun pins s σ H Q I q => h.run pins s σ H Q I (w σ H Q q)⟩
section
variable {X : Cx} {fa : Nat → V → Prop} {G : Tab} {c : Expr} {mc : ME}
theorem t_nil : PTs X [] (tTs X.K fa G []) := PTs.weak pts_nil fun σ H Q ⟨Z, env, ok, h⟩ => h Z H (.refl ok)
theorem t_one (hc : PT X c (tB X.K fa noX G mc)) : PTs X [c] (tTs X.K fa G [mc]) := by
  refine PTs.weak (pts_one hc) fun σ H Q ⟨Z, env, ok, h⟩ => ?_
  refine ⟨Z, env, ok, ?_⟩
  unfold evt at h
  revert h
  cases ev G mc env with
  | bad => exact fun z => z
  | ex c a => exact fun z => z.elim
  | ok p =>
    simp only [Rs.bind]
    cases ht : truR p.1 p.2 with
    | none => exact fun z => z
    | some k =>
      cases k with
      | false => exact fun z => z
      | true =>
        unfold evt
        exact fun z => z
end
/-- one turn -/
def lcTurn (G : Tab) (own : List Nat) (tg : Tgt) (ifs : List ME) (e : ME) : PyData → Env → Rs (Env × Option PyData) := fun x en => match asgT tg x en with
  | none => .bad
  | some en1 => (evt G ifs en1).bind fun q => if q.2 then (ev G e q.1).bind fun t => match keep t.1 t.2 with
      | some (en2, y) => .ok (wipeE en2 own, some y)
      | none => .bad
    else .ok (wipeE q.1 own, none)
theorem ev_lc (G : Tab) (own : List Nat) (tg : Tgt) (w : Nat) (its ifs : List ME) (e : ME) (env : Env) : ev G (.lc own tg w its ifs e) env = (evs G its env).bind fun p => match items w p.1 p.2 with
    | none => .bad
    | some (env1, xs, ls) => match lcGo (lcTurn G own tg ifs e) xs (wipeE env1 own) [] with
        | .ok (env2, acc) => if acc.length ≤ sizeLine then match unlock (restE env1 env2 own) ls with
            | some env3 => .ok (env3, .n acc)
            | none => .bad
          else .bad
        | _ => .bad := by
  rw [ev]
  rfl
theorem lcGo_len (turn : PyData → Env → Rs (Env × Option PyData)) : ∀ (xs : List PyData) (en : Env) (acc : List PyData) (r : Env × List PyData), lcGo turn xs en acc = .ok r → acc.length ≤ r.2.length
  | [], en, acc, r, h => by cases h; exact Nat.le_refl _
  | x :: xs, en, acc, r, h => by
    unfold lcGo at h
    split at h
    · have := lcGo_len turn xs _ _ r h
      rw [List.length_append, List.length_singleton] at this
      omega
    · exact lcGo_len turn xs _ _ r h
    · cases h
section
variable {K : PySem.W.Frag} {fa : Nat → V → Prop} {σ : L2.St} {H H0 H1 : Hp} {Z Z0 Z1 : Addr → Prop} {env env0 env1 : Env} {D : Addr}
/-- the new list is written -/
theorem Bm.writeNew {vs : List V} (b : Bm K fa σ H0 Z0 env0 σ H Z env) (ok : Eok K fa H0 Z0 σ env0) (n : H0 D = none) (z : Z D) : Bm K fa σ H0 Z0 env0 σ (upd H D (.lst vs)) Z env := by
  have s : Stp (fun a => a = D) Z H (fun a => a = D) Z (upd H D (.lst vs)) := Stp.write (fun a e => by rw [e]; exact z) b.ok.zl rfl
  refine ⟨⟨fun a o h m => ?_, fun a o h => ?_, b.st.zold, b.st.znew, b.st.mnew, b.st.muz, b.st.zl⟩, b.mo, b.mw, b.kk, b.ok.stay s (fun a q => ?_) fun i a o e => ?_⟩
  · rw [upd_ne (ne_of_none h n)]; exact b.st.keep a o h m
  · rw [upd_ne (ne_of_none h n)]; exact b.st.dom a o h
  · by_cases e : a = D
    · subst e; exact ⟨vs, upd_same⟩
    · rw [upd_ne e]; exact b.ok.zl a q
  · obtain ⟨us, q⟩ := b.slot ok o e
    exact ⟨upd_ne (ne_of_none q n), (b.ok.slot o e).1⟩
theorem FzAll.writeNew {vs us : List V} {ds : List PyData} (zl : Zl Z H) (z : Z D) (f : FzAll K H Z us ds) : FzAll K (upd H D (.lst vs)) Z us ds :=
  f.step (Stp.write (Mu := fun a => a = D) (fun a e => by rw [e]; exact z) zl rfl)
end
theorem lc_weak {X : Cx} {fa : Nat → V → Prop} {XX : XW} {G : Tab} {vs : List Nat} {t : Tgt} {w : Nat} {its mifs : List ME} {me : ME} (hto : ∀ i ∈ stoT t, i ∈ vs) (σ : L2.St) (H : Hp) (Q : VK) (h0 : tE X.K fa XX G (.lc vs t w its mifs me) σ H Q) :
    L2.tLc (tI X.K fa XX G w its) (gT X.K fa t) (tTs X.K fa G mifs) (tE X.K fa noX G me) vs σ H Q := by
  obtain ⟨Z, env, ok, h⟩ := h0
  rw [ev_lc] at h
  refine ⟨Z, env, ok, ?_⟩
  revert h
  cases evs G its env with
  | bad => exact fun z => z
  | ex c a => exact fun z => z
  | ok p =>
    simp only [Rs.bind]
    cases hit : items w p.1 p.2 with
    | none => exact fun z => z
    | some q =>
      obtain ⟨env1, xs, ls⟩ := q
      dsimp only
      cases hgo : lcGo (lcTurn G vs t mifs me) xs (wipeE env1 vs) [] with
      | bad => exact fun z => z.elim
      | ex c a => exact fun z => z.elim
      | ok r =>
        obtain ⟨env2, acc⟩ := r
        dsimp only
        split
        · rename_i hz
          cases hu : unlock (restE env1 env2 vs) ls with
          | none => exact fun z => z.elim
          | some env3 =>
            intro hf Z1 H1 J P m hl ok1 wl p1 D hD
            have okw : Eok X.K fa H1 Z1 (L2.wipe σ vs) (wipeE env1 vs) := (Bm.wipe ok1 vs).ok
            refine ⟨fun i n H => n = xs.length - i ∧ i ≤ xs.length ∧ ∃ Z en av ad, Bm X.K fa (L2.wipe σ vs) H1 Z1 (wipeE env1 vs) (L2.wipe σ vs) H Z en ∧ H D = some (.lst av) ∧ Z D ∧ FzAll X.K H Z av ad ∧ lcGo (lcTurn G vs t mifs me) (xs.drop i) en ad = .ok (env2, acc),
              ⟨xs.length, by omega, Nat.zero_le _, more Z1 D, wipeE env1 vs, [], [], ?_, upd_same, .inr rfl, .nil, hgo⟩, ?_⟩
            · exact ((Mid.refl okw).newL hD).bm
            · rintro i n H' ⟨rfl, hi, Z', en, av, ad, b, hDv, hDz, hf', hgo'⟩
              have pc : P (Own (L2.wipe σ vs) en) Z' H' := wl.step _ _ _ _ _ _ (wl.step _ _ _ _ _ _ p1 (Bm.wipe ok1 vs).st) b.st
              by_cases hlt : i < xs.length
              · have hx : xs[i]? = some xs[i] := List.getElem?_eq_getElem hlt
                refine .inr ⟨wl.go i _ _ _ _ pc hx, _, fun H2 hn => hn, fun x H2 hy => ?_⟩
                rw [List.drop_eq_getElem_cons hlt] at hgo'
                unfold lcGo at hgo'
                -- the item
                have item : Bm X.K fa (L2.wipe σ vs) H1 Z1 (wipeE env1 vs) (L2.wipe σ vs) H2 Z' en ∧ Fz X.K H2 Z' x xs[i] ∧ H2 D = some (.lst av) ∧ FzAll X.K H2 Z' av ad := by
                  rcases wl.yld i _ _ _ _ x H2 pc hx hy with ⟨rfl, f⟩ | ⟨T, us, ds, rfl, hT, rfl, ed, f⟩
                  · exact ⟨b, f, hDv, hf'⟩
                  · refine ⟨b.newT hT, ?_, by rw [upd_ne (ne_of_none hDv hT)]; exact hDv, hf'.newT b.ok.zl hT⟩
                    rw [ed]
                    exact .tup (.inl (.inl upd_same)) (f.newT b.ok.zl hT)
                obtain ⟨b2, fx, hD2, hf2⟩ := item
                cases ha : asgT t xs[i] en with
                | none =>
                  unfold lcTurn at hgo'
                  simp only [ha] at hgo'
                  cases hgo'
                | some en1 =>
                  refine ⟨Z', en, xs[i], en1, b2.ok, fx, ha, fun σ2 b3 ho hlen => ?_⟩
                  have hw : L2.wipe σ2 vs = L2.wipe σ vs := wipe_eq (by rw [hlen, L2.wipe_length]) fun j hj => ho j fun q => hj (hto j q)
                  refine ⟨hw, Z', en1, b3.ok, ?_⟩
                  have step : lcTurn G vs t mifs me xs[i] en = (evt G mifs en1).bind fun q => if q.2 then (ev G me q.1).bind fun t => match keep t.1 t.2 with
                      | some (en2, y) => .ok (wipeE en2 vs, some y)
                      | none => .bad
                    else .ok (wipeE q.1 vs, none) := by
                    unfold lcTurn
                    rw [ha]
                  rw [step] at hgo'
                  cases htt : evt G mifs en1 with
                  | bad => rw [htt] at hgo'; cases hgo'
                  | ex c a => rw [htt] at hgo'; cases hgo'
                  | ok q =>
                    obtain ⟨en2, k⟩ := q
                    rw [htt] at hgo'
                    intro Z3 H3 m3
                    have b4 : Bm X.K fa (L2.wipe σ vs) H1 Z1 (wipeE env1 vs) σ2 H3 Z3 en2 := (b2.trans b3).trans m3.bm
                    have nD : ∀ {σ' : L2.St} {en' : Env}, (∀ a, Own σ' en' a → Own (L2.wipe σ vs) (wipeE env1 vs) a) → ¬ Own σ' en' D := fun mo q => by
                      obtain ⟨us, e⟩ := ok1.zl D (ok1.muz D ((Bm.wipe ok1 vs).mo D (mo D q)))
                      rw [hD] at e; cases e
                    have n1 : ¬ Own σ2 en1 D := nD (b2.trans b3).mo
                    have hD3 : H3 D = some (.lst av) := m3.st.keep D _ hD2 n1
                    have hZ3 : Z3 D := m3.st.zold D hDz n1
                    have hf3 : FzAll X.K H3 Z3 av ad := hf2.step m3.st
                    cases k with
                    | false =>
                      simp only [Rs.bind, Bool.false_eq_true, if_false] at hgo' ⊢
                      have b5 := b4.trans (Bm.wipe b4.ok vs)
                      rw [hw] at b5
                      exact ⟨xs.length - (i + 1), by omega, rfl, hlt, Z3, _, av, ad, b5, hD3, hZ3, hf3, hgo'⟩
                    | true =>
                      simp only [Rs.bind, if_true] at hgo' ⊢
                      refine ⟨Z3, en2, m3.ok, ?_⟩
                      cases hev : ev G me en2 with
                      | bad => rw [hev] at hgo'; cases hgo'
                      | ex c a => rw [hev] at hgo'; cases hgo'
                      | ok r =>
                        obtain ⟨en3, rr⟩ := r
                        rw [hev] at hgo'
                        simp only [Rs.bind] at hgo'
                        intro Z4 H4 y m4 hr
                        cases hk : keep en3 rr with
                        | none => rw [hk] at hgo'; cases hgo'
                        | some kq =>
                          obtain ⟨en4, yd⟩ := kq
                          rw [hk] at hgo'
                          dsimp only at hgo'
                          obtain ⟨Z5, m5, fy, _, _⟩ := m4.keep hr hk
                          have n2 : ¬ Own σ2 en2 D := nD b4.mo
                          have hD4 : H4 D = some (.lst av) := m5.st.keep D _ hD3 n2
                          have hZ5 : Z5 D := m5.st.zold D hZ3 n2
                          have hf5 : FzAll X.K H4 Z5 av ad := hf3.step m5.st
                          have b5 := (b4.trans m5.bm).trans (Bm.wipe m5.ok vs)
                          rw [hw] at b5
                          have hl2 := lcGo_len _ _ _ _ _ hgo'
                          rw [List.length_append, List.length_singleton] at hl2
                          dsimp only at hl2
                          refine ⟨av, hD4, by rw [hf5.length]; omega, ?_⟩
                          exact ⟨xs.length - (i + 1), by omega, rfl, hlt, Z5, _, av ++ [y], ad ++ [yd], b5.writeNew okw hD hZ5, upd_same, hZ5, (hf5.append (.cons fy .nil)).writeNew b5.ok.zl hZ5, hgo'⟩
              · have e : i = xs.length := by omega
                subst e
                rw [List.drop_length] at hgo'
                cases hgo'
                refine .inl ⟨wl.stop _ _ _ _ pc rfl, ?_⟩
                have m6 : Mid X.K fa σ H1 Z1 env1 H' Z' (restE env1 env2 vs) := Bm.rest ok1 b
                have m7 := m.trans (Mid.unlock hl m.ok m6 hu)
                exact hf Z' H' (V.ref D) m7 ⟨D, av, rfl, hDv, hDz, m.fresh hD, hf'⟩
        · exact fun z => z.elim
theorem s_lc {X : Cx} {fa : Nat → V → Prop} {XX : XW} {G : Tab} {elt tg iter : Expr} {ifs : List Expr} {scope : Scope} {own : List (Str × Nat)} {pos : Pos} {t : Tgt} {w : Nat} {its mifs : List ME} {me : ME} (hc : X.calm = true) (hN : X.N.Nodup) (hi : PI X tg iter (tI X.K fa XX G w its)) (ok : BlkOk X.N X.env.scope scope own)
    (hg : ∀ (s : Shared) (H : Hp) (C : Addr) (cl : List (Str × Addr)) (fp : List Addr), PG (X.blk s H scope (compEnvC scope cl C X.env) fp) tg (gT X.K fa t))
    (ht : ∀ (s : Shared) (H : Hp) (C : Addr) (cl : List (Str × Addr)) (fp : List Addr), PTs (X.blk s H scope (compEnvC scope cl C X.env) fp) ifs (tTs X.K fa G mifs))
    (he : ∀ (s : Shared) (H : Hp) (C : Addr) (cl : List (Str × Addr)) (fp : List Addr), PE (X.blk s H scope (compEnvC scope cl C X.env) fp) elt (tE X.K fa noX G me)) (hs : ∀ x, foldedSetIterable iter X.env x = pure x) (hto : ∀ i ∈ stoT t, i ∈ own.map (·.2)) :
    PE X (.ListComp elt [⟨tg, iter, ifs, 0⟩] scope pos) (tE X.K fa XX G (.lc (own.map (·.2)) t w its mifs me)) := by
  refine PE.weak (pe_lc hc hN hi ok hg ht he hs) (lc_weak hto)
end Ev

/-! Ev, part O: statements. -/
namespace Ev
open PySem L2 PyProof.Rows

/-- a step of statements: names may be bound to new lists of their own -/
structure Sm (S : Nat → Prop) (K : PySem.W.Frag) (fa : Nat → V → Prop) (σ0 : L2.St) (H0 : Hp) (Z0 : Addr → Prop) (env0 : Env) (σ : L2.St) (H : Hp) (Z : Addr → Prop) (env : Env) : Prop where
  st : Stp (Own σ0 env0) Z0 H0 (Own σ env) Z H
  kk : ∀ (i : Nat) (xs : List PyData), env[i]? = some (some (W.k xs)) → env0[i]? = some (some (W.k xs)) ∧ σ[i]? = σ0[i]?
  ow : ∀ (i : Nat) (a : Addr), ownd env i → σ[i]? = some (some (V.ref a)) → (ownd env0 i ∧ σ[i]? = σ0[i]?) ∨ H0 a = none
  ag : ∀ i, ¬ S i → σ[i]? = σ0[i]?
  len : σ.length = σ0.length
  ok : Eok K fa H Z σ env
section
variable {S : Nat → Prop} {K : PySem.W.Frag} {fa : Nat → V → Prop} {σ σ0 σ1 σ2 : L2.St} {H H0 H1 H2 : Hp} {Z Z0 Z1 Z2 : Addr → Prop} {env env0 env1 env2 : Env} {v : V} {d : PyData} {r : Rv}
theorem Sm.refl (h : Eok K fa H Z σ env) : Sm S K fa σ H Z env σ H Z env := ⟨.refl h.muz h.zl, fun _ _ h => ⟨h, rfl⟩, fun _ _ h _ => .inl ⟨h, rfl⟩, fun _ _ => rfl, rfl, h⟩
theorem Sm.trans (a : Sm S K fa σ0 H0 Z0 env0 σ1 H1 Z1 env1) (b : Sm S K fa σ1 H1 Z1 env1 σ2 H2 Z2 env2) : Sm S K fa σ0 H0 Z0 env0 σ2 H2 Z2 env2 := by
  refine ⟨a.st.trans b.st, fun i xs h => ?_, fun i x h e => ?_, fun i n => (b.ag i n).trans (a.ag i n), b.len.trans a.len, b.ok⟩
  · obtain ⟨h1, e1⟩ := b.kk i xs h
    obtain ⟨h2, e2⟩ := a.kk i xs h1
    exact ⟨h2, e1.trans e2⟩
  · rcases b.ow i x h e with ⟨h1, e1⟩ | h1
    · rcases a.ow i x h1 (e1 ▸ e) with ⟨h2, e2⟩ | h2
      · exact .inl ⟨h2, e1.trans e2⟩
      · exact .inr h2
    · right
      cases q : H0 x with
      | none => rfl
      | some o =>
        obtain ⟨o', q'⟩ := a.st.dom x o q
        rw [h1] at q'; cases q'
theorem Bm.sm (b : Bm K fa σ0 H0 Z0 env0 σ H Z env) (ag : ∀ i, ¬ S i → σ[i]? = σ0[i]?) (len : σ.length = σ0.length) : Sm S K fa σ0 H0 Z0 env0 σ H Z env := ⟨b.st, fun i xs h => ⟨b.kk i xs h, (b.mw i ⟨xs, .inr h⟩).2⟩, fun i a h _ => .inl (b.mw i h), ag, len, b.ok⟩
theorem Mid.sm (m : Mid K fa σ H0 Z0 env0 H Z env) : Sm S K fa σ H0 Z0 env0 σ H Z env := m.bm.sm (fun _ _ => rfl) rfl
theorem Sm.fresh (m : Sm S K fa σ0 H0 Z0 env0 σ H Z env) {a : Addr} (h : H a = none) : H0 a = none := by
  cases q : H0 a with
  | none => rfl
  | some o =>
    obtain ⟨o', q'⟩ := m.st.dom a o q
    rw [h] at q'; cases q'
theorem RvOk.backS (m : Sm S K fa σ0 H0 Z0 env0 σ H Z env) (h : RvOk K fa H H1 Z1 σ1 r v) : RvOk K fa H0 H1 Z1 σ1 r v := by
  cases r with
  | n xs =>
    obtain ⟨a, vs, rfl, h1, h2, h3, h4⟩ := h
    exact ⟨a, vs, rfl, h1, h2, m.fresh h3, h4⟩
  | v x => exact h
  | p i => exact h
  | r xs => exact h
  | f k => exact h

/-! ### names are bound -/
theorem Sm.bindL {a : Addr} {vs : List V} {xs : List PyData} {i : Nat} (hS : S i) (m : Sm S K fa σ0 H0 Z0 env0 σ H Z env) (h : H a = some (.lst vs)) (z : Z a) (n : H0 a = none) (f : FzAll K H Z vs xs) (ap : ∀ j, ownd env j → σ[j]? ≠ some (some (V.ref a))) :
    Sm S K fa σ0 H0 Z0 env0 (σ.set i (some (V.ref a))) H Z (env.set i (some (.l xs))) := by
  have own : ∀ b, Own (σ.set i (some (V.ref a))) (env.set i (some (.l xs))) b → Own σ env b ∨ b = a := fun b ⟨j, zs, q1, q2⟩ => by
    rcases getElem?_set_cases q1 with ⟨rfl, _, hl⟩ | ⟨ne, e⟩
    · right
      rw [List.getElem?_set_self (by rw [← m.ok.len]; exact hl)] at q2
      cases q2; rfl
    · left
      rw [List.getElem?_set_ne (Ne.symm ne)] at q2
      exact ⟨j, zs, e, q2⟩
  have ow : ∀ j, ownd (env.set i (some (.l xs))) j → j ≠ i → ownd env j := fun j ⟨zs, q⟩ ne => by
    rw [List.getElem?_set_ne (Ne.symm ne)] at q
    exact ⟨zs, q⟩
  refine ⟨⟨m.st.keep, m.st.dom, m.st.zold, m.st.znew, fun b q => ?_, m.st.muz, m.st.zl⟩, fun j zs q => ?_, fun j b o e => ?_, fun j nj => ?_, by rw [List.length_set]; exact m.len, ⟨fun j w q => ?_, fun j k b o1 o2 e1 e2 => ?_, m.ok.zl, by rw [List.length_set, List.length_set]; exact m.ok.len⟩⟩
  · rcases own b q with q | rfl
    · exact m.st.mnew b q
    · exact .inr n
  · rcases getElem?_set_cases q with ⟨_, e, _⟩ | ⟨ne, e⟩
    · cases e
    · obtain ⟨h1, h2⟩ := m.kk j zs e
      exact ⟨h1, by rw [List.getElem?_set_ne (Ne.symm ne)]; exact h2⟩
  · by_cases hj : j = i
    · subst hj
      have hl : j < σ.length := by
        rw [← m.ok.len]
        obtain ⟨zs, q⟩ := o
        rcases q with q | q <;> (have := (List.getElem?_eq_some_iff.mp q).1; rw [List.length_set] at this; exact this)
      rw [List.getElem?_set_self hl] at e
      cases e
      exact .inr n
    · rw [List.getElem?_set_ne (Ne.symm hj)] at e ⊢
      exact m.ow j b (ow j o hj) e
  · have ne : i ≠ j := fun e => nj (by rw [← e]; exact hS)
    rw [List.getElem?_set_ne ne]
    exact m.ag j nj
  · rcases getElem?_set_cases q with ⟨rfl, e, hl⟩ | ⟨ne, e⟩
    · cases e
      exact ⟨V.ref a, List.getElem?_set_self (by rw [← m.ok.len]; exact hl), a, vs, rfl, h, z, f⟩
    · obtain ⟨u, e1, e2⟩ := m.ok.nm j w e
      exact ⟨u, by rw [List.getElem?_set_ne (Ne.symm ne)]; exact e1, e2⟩
  · have il : ∀ j, ownd (env.set i (some (.l xs))) j → j = i → i < env.length := fun j ⟨zs, q⟩ e => by
      subst e
      rcases q with q | q <;> (have := (List.getElem?_eq_some_iff.mp q).1; rw [List.length_set] at this; exact this)
    by_cases hj : j = i
    · by_cases hk : k = i
      · rw [hj, hk]
      · exfalso
        rw [hj, List.getElem?_set_self (by rw [← m.ok.len]; exact il j o1 hj)] at e1
        rw [List.getElem?_set_ne (Ne.symm hk)] at e2
        cases e1
        exact ap k (ow k o2 hk) e2
    · by_cases hk : k = i
      · exfalso
        rw [hk, List.getElem?_set_self (by rw [← m.ok.len]; exact il k o2 hk)] at e2
        rw [List.getElem?_set_ne (Ne.symm hj)] at e1
        cases e2
        exact ap j (ow j o1 hj) e1
      · rw [List.getElem?_set_ne (Ne.symm hj)] at e1
        rw [List.getElem?_set_ne (Ne.symm hk)] at e2
        exact m.ok.apart j k b (ow j o1 hj) (ow k o2 hk) e1 e2
theorem Eok.bindF (ok : Eok K fa H Z σ env) {n : Nat} (f : fa n v) (i : Nat) : Bm K fa σ H Z env (σ.set i (some v)) H Z (env.set i (some (.f n))) := by
  have nd : ∀ ys, (some (W.f n) : Option W) ≠ some (.l ys) ∧ (some (W.f n) : Option W) ≠ some (.k ys) := fun ys => ⟨fun q => (by cases q), fun q => (by cases q)⟩
  have mo : ∀ a, Own (σ.set i (some v)) (env.set i (some (.f n))) a → Own σ env a := fun a ⟨j, xs, q1, q2⟩ => by
    rcases getElem?_set_cases q1 with ⟨_, e, _⟩ | ⟨ne, e⟩
    · cases e
    · rw [List.getElem?_set_ne (Ne.symm ne)] at q2
      exact ⟨j, xs, e, q2⟩
  refine ⟨⟨fun _ _ h _ => h, fun _ o h => ⟨o, h⟩, fun _ h _ => h, fun _ h => .inl h, fun a h => .inl (mo a h), ok.muz, ok.zl⟩, mo, fun j h => ?_, fun j xs h => ?_, ⟨fun j w hj => ?_, fun j k b o1 o2 e1 e2 => ?_, ok.zl, by rw [List.length_set, List.length_set]; exact ok.len⟩⟩
  · obtain ⟨h1, n1⟩ := ownd_set nd h
    exact ⟨h1, List.getElem?_set_ne (Ne.symm n1)⟩
  · rcases getElem?_set_cases h with ⟨_, e, _⟩ | ⟨_, e⟩
    · cases e
    · exact e
  · rcases getElem?_set_cases hj with ⟨rfl, e, hl⟩ | ⟨ne, e⟩
    · cases e
      exact ⟨v, List.getElem?_set_self (by rw [← ok.len]; exact hl), f⟩
    · obtain ⟨u, e1, e2⟩ := ok.nm j w e
      exact ⟨u, by rw [List.getElem?_set_ne (Ne.symm ne)]; exact e1, e2⟩
  · obtain ⟨h1, n1⟩ := ownd_set nd o1
    obtain ⟨h2, n2⟩ := ownd_set nd o2
    rw [List.getElem?_set_ne (Ne.symm n1)] at e1
    rw [List.getElem?_set_ne (Ne.symm n2)] at e2
    exact ok.apart j k b h1 h2 e1 e2
/-- the values no longer tell of names -/
def noP (rs : List Rv) : Prop := ∀ i, Rv.p i ∉ rs
theorem Mid.settle : ∀ {rs : List Rv} {vs : List V} {qs : List Rv} {env env2 : Env} {Z : Addr → Prop}, Mid K fa σ H0 Z0 env0 H Z env → RvsOk K fa H0 H Z σ rs vs → Ev.settle env rs = some (env2, qs) →
    ∃ Z1, Mid K fa σ H0 Z0 env0 H Z1 env2 ∧ RvsOk K fa H0 H Z1 σ qs vs ∧ noP qs ∧ (∀ a, Z1 a → Z a) ∧ (∀ a, Z a → H0 a = none → Z1 a) ∧ ∀ a, Nw qs vs a → Nw rs vs a
  | _, _, qs, env, env2, Z, m, .nil, e => by cases e; exact ⟨Z, m, .nil, fun _ h => by simp at h, fun _ q => q, fun _ q _ => q, fun _ q => q⟩
  | _, _, qs, env, env2, Z, m, .cons (r := r) (rs := rs) (v := v) (vs := vs) h1 h2 h3, e => by
    have gen : (∀ j, r ≠ .p j) → Ev.settle env (r :: rs) = (match Ev.settle env rs with
      | some (e2, qs) => some (e2, r :: qs)
      | none => none) := fun n => by
      cases r <;> first | rfl | exact absurd rfl (n _)
    by_cases hp : ∃ j, r = .p j
    · obtain ⟨j, rfl⟩ := hp
      unfold Ev.settle at e
      cases k : Ev.keep env (.p j) with
      | none => rw [k] at e; cases e
      | some p =>
        obtain ⟨e1, x⟩ := p
        rw [k] at e
        obtain ⟨Z1, m1, f1, s1, k1⟩ := m.keep h1 k
        dsimp only at e
        cases k2 : Ev.settle e1 rs with
        | none => rw [k2] at e; cases e
        | some p =>
          obtain ⟨e2, ps⟩ := p
          rw [k2] at e
          cases e
          obtain ⟨Z2, m2, r2, n2, s2, t2, w2⟩ := Mid.settle m1 (h3.less s1 fun a q z n => k1 a z n fun ⟨ys, e1⟩ => by cases e1) k2
          refine ⟨Z2, m2, .cons (f1.sub s2) (fun ys a e => by cases e) r2, fun i hi => ?_, fun a q => s1 a (s2 a q), fun a z n => t2 a (k1 a z n fun ⟨ys, e1⟩ => by cases e1) n, fun a q => ?_⟩
          · rcases List.mem_cons.mp hi with hi | hi
            · cases hi
            · exact n2 i hi
          · rcases q.cons with ⟨ys, e, _⟩ | q
            · cases e
            · exact (w2 a q).tail
    · have hp : ∀ j, r ≠ .p j := fun j e => hp ⟨j, e⟩
      rw [gen hp] at e
      cases k2 : Ev.settle env rs with
      | none => rw [k2] at e; cases e
      | some p =>
        obtain ⟨e2, ps⟩ := p
        rw [k2] at e
        cases e
        obtain ⟨Z2, m2, r2, n2, s2, t2, w2⟩ := Mid.settle m h3 k2
        refine ⟨Z2, m2, .cons (h1.less s2 fun a ys _ _ z n => t2 a z n) (fun ys a e1 e2 q => h2 ys a e1 e2 (w2 a q)) r2, fun i hi => ?_, s2, t2, fun a q => ?_⟩
        · rcases List.mem_cons.mp hi with hi | hi
          · exact hp i hi.symm
          · exact n2 i hi
        · rcases q.cons with ⟨ys, e1, e2⟩ | q
          · exact ⟨0, ys, by rw [e1]; rfl, by rw [e2]; rfl⟩
          · exact (w2 a q).tail
/-- the slots with their new values -/
def setV (σ : L2.St) : List Nat → List V → L2.St
  | i :: is, v :: vs => setV (σ.set i (some v)) is vs
  | _, _ => σ
theorem RvOk.noName {r : Rv} (n : ∀ j, r ≠ .p j) (h : RvOk K fa H0 H Z σ r v) : RvOk K fa H0 H Z σ1 r v := by
  cases r with
  | p i => exact absurd rfl (n i)
  | v x => exact h
  | n xs => exact h
  | r xs => exact h
  | f k => exact h
theorem RvsOk.noName : ∀ {rs : List Rv} {vs : List V}, noP rs → RvsOk K fa H0 H Z σ rs vs → RvsOk K fa H0 H Z σ1 rs vs
  | _, _, _, .nil => .nil
  | _, _, n, .cons h1 h2 h3 => .cons (h1.noName fun j e => n j (by rw [e]; exact List.mem_cons_self)) h2 (RvsOk.noName (fun j h => n j (List.mem_cons_of_mem _ h)) h3)
theorem Sm.bindAll : ∀ {qs : List Rv} {vs : List V} {is : List Nat} {σ : L2.St} {env env2 : Env}, (∀ i ∈ is, S i) → Sm S K fa σ0 H0 Z0 env0 σ H Z env → RvsOk K fa H0 H Z σ qs vs → noP qs → (∀ a, Nw qs vs a → ∀ j, ownd env j → σ[j]? ≠ some (some (V.ref a))) → Ev.bindAll env is qs = some env2 →
    is.length = vs.length ∧ Sm S K fa σ0 H0 Z0 env0 (setV σ is vs) H Z env2
  | _, _, [], σ, env, env2, _, m, .nil, _, _, e => by cases e; exact ⟨rfl, m⟩
  | _, _, _ :: _, σ, env, env2, _, m, .nil, _, _, e => by cases e
  | _, _, [], σ, env, env2, _, m, .cons _ _ _, _, _, e => by cases e
  | _, _, i :: is, σ, env, env2, hS, m, .cons (r := r) (rs := rs) (v := v) (vs := vs) h1 h2 h3, n, ap, e => by
    unfold Ev.bindAll at e
    cases k : bindN env i r with
    | none => rw [k] at e; cases e
    | some e1 =>
      rw [k] at e
      have n3 : noP rs := fun j h => n j (List.mem_cons_of_mem _ h)
      have ags : ∀ _k : Nat, ∀ j, ¬ S j → (σ.set i (some v))[j]? = σ[j]? := fun _ j nj => List.getElem?_set_ne (show i ≠ j from fun e => nj (by rw [← e]; exact hS i List.mem_cons_self))
      have key : ∃ w, Sm S K fa σ0 H0 Z0 env0 (σ.set i (some v)) H Z e1 ∧ e1 = env.set i (some w) ∧ ((∃ xs, w = .l xs ∧ r = .n xs) ∨ ((∀ ys, (some w : Option W) ≠ some (.l ys)) ∧ ∀ ys, (some w : Option W) ≠ some (.k ys))) := by
        cases r with
        | v x =>
          simp only [bindN] at k
          split at k
          · cases k
            exact ⟨.d x, m.trans ((Bm.bind m.ok h1 i).sm (ags i) (by rw [List.length_set])), rfl, .inr ⟨fun ys q => (by cases q), fun ys q => (by cases q)⟩⟩
          · cases k
        | n xs =>
          simp only [bindN] at k
          split at k
          · cases k
            obtain ⟨a, us, rfl, q1, q2, q3, q4⟩ := h1
            exact ⟨.l xs, Sm.bindL (hS i List.mem_cons_self) m q1 q2 q3 q4 (ap a ⟨0, xs, rfl, rfl⟩), rfl, .inl ⟨xs, rfl, rfl⟩⟩
          · cases k
        | f t =>
          simp only [bindN] at k
          split at k
          · cases k
            exact ⟨.f t, m.trans ((m.ok.bindF h1 i).sm (ags i) (by rw [List.length_set])), rfl, .inr ⟨fun ys q => (by cases q), fun ys q => (by cases q)⟩⟩
          · cases k
        | p j => cases k
        | r xs => cases k
      obtain ⟨w, m1, ew, hw⟩ := key
      have hap : ∀ a, Nw rs vs a → ∀ j, ownd e1 j → (σ.set i (some v))[j]? ≠ some (some (V.ref a)) := fun a q j o ej => by
        by_cases hj : j = i
        · subst hj
          rcases hw with ⟨xs, rfl, rfl⟩ | ⟨w1, w2⟩
          · have il : j < σ.length := by
              obtain ⟨zs, q⟩ := o
              rw [← m.ok.len]
              rw [ew] at q
              rcases q with q | q <;> (have := (List.getElem?_eq_some_iff.mp q).1; rw [List.length_set] at this; exact this)
            rw [List.getElem?_set_self il] at ej
            cases ej
            exact h2 xs a rfl rfl q
          · obtain ⟨zs, q⟩ := o
            rw [ew] at q
            rcases q with q | q
            · rcases getElem?_set_cases q with ⟨_, e, _⟩ | ⟨ne, _⟩
              · exact w1 zs e.symm
              · exact ne rfl
            · rcases getElem?_set_cases q with ⟨_, e, _⟩ | ⟨ne, _⟩
              · exact w2 zs e.symm
              · exact ne rfl
        · rw [List.getElem?_set_ne (Ne.symm hj)] at ej
          refine ap a q.tail j ?_ ej
          obtain ⟨zs, q⟩ := o
          rw [ew, List.getElem?_set_ne (Ne.symm hj)] at q
          exact ⟨zs, q⟩
      obtain ⟨l1, m2⟩ := Sm.bindAll (fun j h => hS j (List.mem_cons_of_mem _ h)) m1 (h3.noName n3) n3 hap e
      exact ⟨by rw [List.length_cons, List.length_cons, l1], m2⟩
end
end Ev

/-! Ev, part P: the readings of statements. -/
namespace Ev
open PySem L2 PyProof.Rows

def FinO (S : Nat → Prop) (K : PySem.W.Frag) (fa : Nat → V → Prop) (X : XW) (σ0 : L2.St) (H0 : Hp) (Z0 : Addr → Prop) (env0 : Env) (o : Ou) (D : Ends) : Prop := match o with
  | .nx e => ∀ σ' Z' H', Sm S K fa σ0 H0 Z0 env0 σ' H' Z' e → D.nx σ' H'
  | .ct e => ∀ σ' Z' H', Sm S K fa σ0 H0 Z0 env0 σ' H' Z' e → D.ct σ' H'
  | .bk e => ∀ σ' Z' H', Sm S K fa σ0 H0 Z0 env0 σ' H' Z' e → D.bk σ' H'
  | .rt e r => ∀ σ' Z' H' v, Sm S K fa σ0 H0 Z0 env0 σ' H' Z' e → RvOk K fa H0 H' Z' σ' r v → D.rt v H'
  | .ex c a => ∀ σ' Mu' Z' H', Stp (Own σ0 env0) Z0 H0 Mu' Z' H' → X c a σ' H'
  | .bad => False
def tS (S : Nat → Prop) (K : PySem.W.Frag) (fa : Nat → V → Prop) (X : XW) (run : Env → Ou) : TS := fun D σ H => ∃ Z env, Eok K fa H Z σ env ∧ FinO S K fa X σ H Z env (run env) D
section
variable {S : Nat → Prop} {K : PySem.W.Frag} {fa : Nat → V → Prop} {XX : XW} {σ σ0 : L2.St} {H H0 : Hp} {Z Z0 : Addr → Prop} {env env0 : Env} {o : Ou} {D : Ends}
theorem FinO.on (m : Sm S K fa σ0 H0 Z0 env0 σ H Z env) (h : FinO S K fa XX σ0 H0 Z0 env0 o D) : FinO S K fa XX σ H Z env o D := by
  cases o with
  | nx e => exact fun σ' Z' H' s => h σ' Z' H' (m.trans s)
  | ct e => exact fun σ' Z' H' s => h σ' Z' H' (m.trans s)
  | bk e => exact fun σ' Z' H' s => h σ' Z' H' (m.trans s)
  | rt e r => exact fun σ' Z' H' v s q => h σ' Z' H' v (m.trans s) (q.backS m)
  | ex c a => exact fun σ' Mu' Z' H' s => h σ' Mu' Z' H' (m.st.trans s)
  | bad => exact h
/-- an expression, then the rest -/
theorem FinO.of {X : Cx} {G : Tab} {ma : ME} {k : Env × Rv → Ou} (ok : Eok X.K fa H0 Z0 σ0 env0) (h : FinO S X.K fa XX σ0 H0 Z0 env0 (Ou.of (ev G ma env0) k) D) :
    tE X.K fa XX G ma σ0 H0 fun v H1 => ∃ Z1 env1 r, Mid X.K fa σ0 H0 Z0 env0 H1 Z1 env1 ∧ RvOk X.K fa H0 H1 Z1 σ0 r v ∧ FinO S X.K fa XX σ0 H0 Z0 env0 (k (env1, r)) D := by
  refine ⟨Z0, env0, ok, ?_⟩
  revert h
  cases ev G ma env0 with
  | bad => exact fun z => z
  | ex c a => exact fun z Mu' Z' H' s => z σ0 Mu' Z' H' s
  | ok p => exact fun z Z' H' v m r => ⟨Z', p.1, p.2, m, r, z⟩
theorem FinO.ofs {X : Cx} {G : Tab} {ms : List ME} {k : Env × List Rv → Ou} (ok : Eok X.K fa H0 Z0 σ0 env0) (h : FinO S X.K fa XX σ0 H0 Z0 env0 (Ou.of (evs G ms env0) k) D) :
    tA X.K fa XX G ms σ0 H0 fun vs H1 => ∃ Z1 env1 rs, Mid X.K fa σ0 H0 Z0 env0 H1 Z1 env1 ∧ RvsOk X.K fa H0 H1 Z1 σ0 rs vs ∧ FinO S X.K fa XX σ0 H0 Z0 env0 (k (env1, rs)) D := by
  refine ⟨Z0, env0, ok, ?_⟩
  revert h
  cases evs G ms env0 with
  | bad => exact fun z => z
  | ex c a => exact fun z Mu' Z' H' s => z σ0 Mu' Z' H' s
  | ok p => exact fun z Z' H' v m r => ⟨Z', p.1, p.2, m, r, z⟩
end
theorem PS.weak {X : Cx} {s : Stmt} {t t' : TS} (h : PS X s t) (w : ∀ D σ H, t' D σ H → t D σ H) : PS X s t' := ⟨fun pins sh σ H D I q => h.run pins sh σ H D I (w D σ H q)⟩
theorem PSs.weak {X : Cx} {s : List Stmt} {t t' : TS} (h : PSs X s t) (w : ∀ D σ H, t' D σ H → t D σ H) : PSs X s t' := ⟨fun pins sh σ H D I q => h.run pins sh σ H D I (w D σ H q)⟩
section
variable {S : Nat → Prop} {X : Cx} {fa : Nat → V → Prop} {XX : XW} {G : Tab} {a b c : Expr} {ma mb mc : ME} {ms : List ME} {pos : Pos} {st : Stmt} {ss : List Stmt} {m : MS} {bs : List MS}
abbrev t1 (S : Nat → Prop) (K : PySem.W.Frag) (fa : Nat → V → Prop) (XX : XW) (G : Tab) (m : MS) : TS := tS S K fa XX (exs1 G m)
abbrev tn (S : Nat → Prop) (K : PySem.W.Frag) (fa : Nat → V → Prop) (XX : XW) (G : Tab) (bs : List MS) : TS := tS S K fa XX (exs G bs)
theorem p_nil : PSs X [] (tn S X.K fa XX G []) := PSs.weak pss_nil fun D σ H ⟨Z, env, ok, h⟩ => by
  unfold exs at h
  exact h σ Z H (.refl ok)
theorem p_cons (h1 : PS X st (t1 S X.K fa XX G m)) (h2 : PSs X ss (tn S X.K fa XX G bs)) : PSs X (st :: ss) (tn S X.K fa XX G (m :: bs)) := by
  refine PSs.weak (pss_cons h1 h2) fun D σ H ⟨Z, env, ok, h⟩ => ?_
  refine ⟨Z, env, ok, ?_⟩
  unfold exs at h
  revert h
  cases exs1 G m env with
  | nx e => exact fun z σ' Z' H' s => ⟨Z', e, s.ok, FinO.on s z⟩
  | ct e => exact fun z => z
  | bk e => exact fun z => z
  | rt e r => exact fun z => z
  | ex c a => exact fun z => z
  | bad => exact fun z => z
theorem p_pass : PS X (.Pass pos) (t1 S X.K fa XX G .pas) := PS.weak ps_pass fun D σ H ⟨Z, env, ok, h⟩ => by
  unfold exs1 at h
  exact h σ Z H (.refl ok)
theorem p_doc {x : Str} {j : Nat} {pos' : Pos} (hd : PS X st tNext) : PS X st (t1 S X.K fa XX G .pas) := PS.weak hd fun D σ H ⟨Z, env, ok, h⟩ => by
  unfold exs1 at h
  exact h σ Z H (.refl ok)
theorem p_brk : PS X (.Break pos) (t1 S X.K fa XX G .brk) := PS.weak ps_break fun D σ H ⟨Z, env, ok, h⟩ => by
  unfold exs1 at h
  exact h σ Z H (.refl ok)
theorem p_cnt : PS X (.Continue pos) (t1 S X.K fa XX G .cnt) := PS.weak ps_continue fun D σ H ⟨Z, env, ok, h⟩ => by
  unfold exs1 at h
  exact h σ Z H (.refl ok)
theorem p_exp (he : PE X a (tE X.K fa XX G ma)) (hs : swapsWith a none pos.line X.env = pure false) : PS X (.Expr a pos) (t1 S X.K fa XX G (.exp ma)) := by
  refine PS.weak (ps_expr he hs) fun D σ H ⟨Z, env, ok, h⟩ => ?_
  unfold exs1 at h
  exact tM.mono (FinO.of ok h) fun v H1 ⟨Z1, env1, r, m1, hr, hf⟩ => hf σ Z1 H1 m1.sm
theorem p_ret (he : PE X a (tE X.K fa XX G ma)) : PS X (.Return (some a) pos) (t1 S X.K fa XX G (.ret ma)) := by
  refine PS.weak (ps_ret he) fun D σ H ⟨Z, env, ok, h⟩ => ?_
  unfold exs1 at h
  exact tM.mono (FinO.of ok h) fun v H1 ⟨Z1, env1, r, m1, hr, hf⟩ => hf σ Z1 H1 v m1.sm hr
theorem p_retN : PS X (.Return none pos) (t1 S X.K fa XX G .retN) := PS.weak ps_retN fun D σ H ⟨Z, env, ok, h⟩ => by
  unfold exs1 at h
  exact h σ Z H _ (.refl ok) .non
theorem p_ite {p q : List Stmt} {mp mq : List MS} (hc : PT X c (tB X.K fa XX G mc)) (hp : PSs X p (tn S X.K fa XX G mp)) (hq : PSs X q (tn S X.K fa XX G mq)) : PS X (.If c p q pos) (t1 S X.K fa XX G (.ite mc mp mq)) := by
  refine PS.weak (ps_if hc hp hq) fun D σ H ⟨Z, env, ok, h⟩ => ?_
  refine ⟨Z, env, ok, ?_⟩
  unfold exs1 at h
  revert h
  cases ev G mc env with
  | bad => exact fun z => z
  | ex c a => exact fun z Mu' Z' H' s => z σ Mu' Z' H' s
  | ok r =>
    simp only [Ou.of]
    cases truR r.1 r.2 with
    | none => exact fun z => z
    | some k =>
      cases k with
      | true => exact fun z Z' H' n => iteT ⟨Z', r.1, n.ok, FinO.on n.sm z⟩
      | false => exact fun z Z' H' n => iteF ⟨Z', r.1, n.ok, FinO.on n.sm z⟩
/-- a target is stored: data -/
theorem asg_weak {t : Tgt} (hS : ∀ i ∈ stoT t, S i) (D : Ends) (σ : L2.St) (H : Hp) (h0 : t1 S X.K fa XX G (.asg t ma) D σ H) : tAsg (tE X.K fa XX G ma) (gT X.K fa t) D σ H := by
  obtain ⟨Z, env, ok, h⟩ := h0
  unfold exs1 at h
  refine tM.mono (FinO.of ok h) fun v H1 ⟨Z1, env1, r, m1, hr, hf⟩ => ?_
  cases r with
  | v x =>
    dsimp only at hf
    cases ha : asgT t x env1 with
    | none => rw [ha] at hf; exact hf.elim
    | some env2 =>
      rw [ha] at hf
      exact ⟨Z1, env1, x, env2, m1.ok, hr, ha, fun σ' b ag ln => hf σ' Z1 H1 (m1.sm.trans (b.sm (fun j nj => ag j fun q => nj (hS j q)) ln))⟩
  | n xs => exact hf.elim
  | p i => exact hf.elim
  | r xs => exact hf.elim
  | f k => exact hf.elim
theorem p_asg {tg : Expr} {t : Tgt} (hS : ∀ i ∈ stoT t, S i) (he : PE X a (tE X.K fa XX G ma)) (hg : PG X tg (gT X.K fa t)) (hs : swapsWithSole [tg] a pos.line X.env = pure false) (hw : swappedStores [tg] a X.env = pure none) (h1 : (assignEach [tg] X.env).map (·.2) = [assign tg X.env]) :
    PS X (.Assign [tg] a pos) (t1 S X.K fa XX G (.asg t ma)) := PS.weak (ps_asg he hg hs hw h1) (asg_weak hS)
/-- values bound to names -/
theorem par_go {is : List Nat} (hS : ∀ i ∈ is, S i) (D : Ends) (σ : L2.St) (H : Hp) (h0 : t1 S X.K fa XX G (.par is ms) D σ H) : tA X.K fa XX G ms σ H fun vs H1 => is.length = vs.length ∧ D.nx (setV σ is vs) H1 := by
  obtain ⟨Z, env, ok, h⟩ := h0
  unfold exs1 at h
  refine tA.mono (FinO.ofs ok h) fun vs H1 ⟨Z1, env1, rs, m1, hr, hf⟩ => ?_
  dsimp only at hf
  cases hs : settle env1 rs with
  | none => rw [hs] at hf; exact hf.elim
  | some q =>
    obtain ⟨env2, qs⟩ := q
    rw [hs] at hf
    dsimp only at hf
    cases hb : bindAll env2 is qs with
    | none => rw [hb] at hf; exact hf.elim
    | some env3 =>
      rw [hb] at hf
      obtain ⟨Z2, m2, r2, n2, _, _, _⟩ := m1.settle hr hs
      obtain ⟨hl, m3⟩ := Sm.bindAll hS m2.sm r2 n2 (fun a q j o e => by
        obtain ⟨_, hn, _⟩ := r2.nw q
        obtain ⟨us, e2⟩ := m2.sl j a o e
        rw [hn] at e2; cases e2) hb
      exact ⟨hl, hf _ Z2 H1 m3⟩
theorem one_par {i : Nat} (hS : S i) (D : Ends) (σ : L2.St) (H : Hp) (h0 : t1 S X.K fa XX G (.par [i] [ma]) D σ H) : tAsg (tE X.K fa XX G ma) (gName i) D σ H := by
  obtain ⟨Z, env, ok, h⟩ := par_go (is := [i]) (fun j h => by rw [List.mem_singleton.mp h]; exact hS) D σ H h0
  refine ⟨Z, env, ok, ?_⟩
  unfold evs at h
  revert h
  cases ev G ma env with
  | bad => exact fun z => z
  | ex c a => exact fun z => z
  | ok p =>
    unfold evs
    intro h Z' H' v m r
    exact (h Z' H' [v] m (.cons r (fun _ _ _ _ q => Nw.not_nil q) .nil)).2
/-- name = value -/
theorem p_set {i : Nat} {x : Str} {p : Pos} (hS : S i) (hN : X.N.Nodup) (hi : X.N[i]? = some x) (hx : Loc X.env.scope x) (he : PE X a (tE X.K fa XX G ma)) (hs : swapsWith a (some (.Name x p)) pos.line X.env = pure false) (hf : X.fn x = true ∨ X.env.scope.names.lookup x = some .local) :
    PS X (.Assign [.Name x p] a pos) (t1 S X.K fa XX G (.par [i] [ma])) := PS.weak (ps_set hN hi hx he hs hf) (one_par hS)
/-- name = [..] on one line -/
theorem p_setLc {i : Nat} {y : Str} {py : Pos} {elt tg iter : Expr} {ifs : List Expr} {scope : Scope} {own : List (Str × Nat)} {pos spos : Pos} {t : Tgt} {w : Nat} {its mifs : List ME} {me : ME} (hS : S i) (hc : X.calm = true) (hN : X.N.Nodup) (hy : X.N[i]? = some y) (hyl : X.env.scope.names.lookup y = some .local)
    (hsw : swapsWith (.ListComp elt [⟨tg, iter, ifs, 0⟩] scope pos) (some (.Name y py)) spos.line X.env = pure true) (hi : PI X tg iter (tI X.K fa XX G w its)) (ok : BlkOk X.N X.env.scope scope own)
    (hg : ∀ (s : Shared) (H : Hp) (C : Addr) (cl : List (Str × Addr)) (fp : List Addr), PG (X.blk s H scope (compEnvC scope cl C X.env) fp) tg (gT X.K fa t))
    (ht : ∀ (s : Shared) (H : Hp) (C : Addr) (cl : List (Str × Addr)) (fp : List Addr), PTs (X.blk s H scope (compEnvC scope cl C X.env) fp) ifs (tTs X.K fa G mifs))
    (he : ∀ (s : Shared) (H : Hp) (C : Addr) (cl : List (Str × Addr)) (fp : List Addr), PE (X.blk s H scope (compEnvC scope cl C X.env) fp) elt (tE X.K fa noX G me)) (hs : ∀ x, foldedSetIterable iter X.env x = pure x) (hto : ∀ i ∈ stoT t, i ∈ own.map (·.2)) :
    PS X (.Assign [.Name y py] (.ListComp elt [⟨tg, iter, ifs, 0⟩] scope pos) spos) (t1 S X.K fa XX G (.par [i] [.lc (own.map (·.2)) t w its mifs me])) := by
  refine PS.weak (ps_setLc hc hN hy hyl hsw hi ok hg ht he hs) fun D σ H h => ?_
  exact lc_weak hto σ H _ (one_par hS D σ H h)
theorem p_par2 {i j : Nat} {x y : Str} {px py pt : Pos} {kt k2 : Nat} {pt2 : Pos} (hS : ∀ k ∈ [i, j], S k) (hc : X.calm = true) (hN : X.N.Nodup) (hi : X.N[i]? = some x) (hj : X.N[j]? = some y) (hij : i ≠ j) (hx : X.env.scope.names.lookup x = some .local) (hy : X.env.scope.names.lookup y = some .local) (ha : PA X [a, b] (tA X.K fa XX G ms))
    (hw : swappedStores [.Tuple [.Name x px, .Name y py] kt pt] (.Tuple [a, b] k2 pt2) X.env = pure (some [x, y])) (hs : swapsWithSole [.Tuple [.Name x px, .Name y py] kt pt] (.Tuple [a, b] k2 pt2) pos.line X.env = pure false) :
    PS X (.Assign [.Tuple [.Name x px, .Name y py] kt pt] (.Tuple [a, b] k2 pt2) pos) (t1 S X.K fa XX G (.par [i, j] ms)) := by
  refine PS.weak (ps_par hc hN hi hj hij hx hy ha hw hs) fun D σ H h => tA.mono (par_go hS D σ H h) fun vs H1 ⟨hl, q⟩ => ?_
  match vs, hl, q with
  | [v, w], _, q => exact ⟨v, w, rfl, q⟩
theorem p_par3 {i j l : Nat} {x y z : Str} {px py pz pt : Pos} {kt k2 : Nat} {pt2 : Pos} (hS : ∀ k ∈ [i, j, l], S k) (hc : X.calm = true) (hN : X.N.Nodup) (hi : X.N[i]? = some x) (hj : X.N[j]? = some y) (hl : X.N[l]? = some z) (hij : i ≠ j) (hil : i ≠ l) (hjl : j ≠ l) (hx : X.env.scope.names.lookup x = some .local) (hy : X.env.scope.names.lookup y = some .local) (hz : X.env.scope.names.lookup z = some .local) (ha : PA X [a, b, c] (tA X.K fa XX G ms))
    (hw : swappedStores [.Tuple [.Name x px, .Name y py, .Name z pz] kt pt] (.Tuple [a, b, c] k2 pt2) X.env = pure (some [x, y, z])) (hs : swapsWithSole [.Tuple [.Name x px, .Name y py, .Name z pz] kt pt] (.Tuple [a, b, c] k2 pt2) pos.line X.env = pure false) :
    PS X (.Assign [.Tuple [.Name x px, .Name y py, .Name z pz] kt pt] (.Tuple [a, b, c] k2 pt2) pos) (t1 S X.K fa XX G (.par [i, j, l] ms)) := by
  refine PS.weak (ps_par3 hc hN hi hj hl hij hil hjl hx hy hz ha hw hs) fun D σ H h => tA.mono (par_go hS D σ H h) fun vs H1 ⟨hl, q⟩ => ?_
  match vs, hl, q with
  | [u, v, w], _, q => exact ⟨u, v, w, rfl, q⟩
/-- names as targets, from the left -/
def gNames : List Nat → TGs := fun is vs σ H Q => is.length = vs.length ∧ Q (setV σ is vs) H
theorem gn_nil : PGs X [] (gNames []) := PGs.weak pgs_nil fun vs σ H Q ⟨hl, q⟩ => by
  cases vs with
  | nil => exact ⟨rfl, q⟩
  | cons v vs => cases hl
theorem gn_cons {i : Nat} {x : Str} {p : Pos} {es : List Expr} {is : List Nat} (hN : X.N.Nodup) (hi : X.N[i]? = some x) (hx : Loc X.env.scope x) (hf : X.fn x = true ∨ X.env.scope.names.lookup x = some .local) (h2 : PGs X es (gNames is)) (hs : (assignEach (.Name x p :: es) X.env).map (·.2) = assign (.Name x p) X.env :: (assignEach es X.env).map (·.2)) :
    PGs X (.Name x p :: es) (gNames (i :: is)) := by
  refine PGs.weak (pgs_cons (pg_name hN hi hx hf) h2 hs) fun vs σ H Q ⟨hl, q⟩ => ?_
  cases vs with
  | nil => cases hl
  | cons v vs => exact ⟨v, vs, rfl, by simpa using hl, q⟩
/-- several names of any kind, by a tuple -/
theorem p_parT {es fs : List Expr} {kt k2 : Nat} {pt pt2 : Pos} {is : List Nat} {n : Nat} (hS : ∀ i ∈ is, S i) (hc : X.calm = true) (ha : PA X fs (tA X.K fa XX G ms)) (hg : PGs X es (gNames is)) (hl : is.length = n) (hz : n ≤ sizeLine) (hn : (assignEach es X.env).length = n) (hst : (assignEach es X.env).findIdx? (·.1) = none)
    (hs : swapsWithSole [.Tuple es kt pt] (.Tuple fs k2 pt2) pos.line X.env = pure false) (hw : swappedStores [.Tuple es kt pt] (.Tuple fs k2 pt2) X.env = pure none) (h1 : (assignEach [.Tuple es kt pt] X.env).map (·.2) = [assign (.Tuple es kt pt) X.env]) :
    PS X (.Assign [.Tuple es kt pt] (.Tuple fs k2 pt2) pos) (t1 S X.K fa XX G (.par is ms)) := by
  refine PS.weak (ps_asg (pe_tup ha) (pg_tup hc hg hn hst) hs hw h1) fun D σ H ⟨Z, env, ok, h⟩ => ?_
  unfold exs1 at h
  refine tA.mono (FinO.ofs ok h) fun vs H1 ⟨Z1, env1, rs, m1, hr, hf⟩ => ?_
  dsimp only at hf
  cases hs : settle env1 rs with
  | none => rw [hs] at hf; exact hf.elim
  | some q =>
    obtain ⟨env2, qs⟩ := q
    rw [hs] at hf
    dsimp only at hf
    cases hb : bindAll env2 is qs with
    | none => rw [hb] at hf; exact hf.elim
    | some env3 =>
      rw [hb] at hf
      obtain ⟨Z2, m2, r2, n2, _, _, _⟩ := m1.settle hr hs
      have hlen : is.length = vs.length := (Sm.bindAll hS m2.sm r2 n2 (fun a q j o e => by
        obtain ⟨_, hn, _⟩ := r2.nw q
        obtain ⟨us, e2⟩ := m2.sl j a o e
        rw [hn] at e2; cases e2) hb).1
      refine ⟨by omega, fun p hp => ⟨p, vs, rfl, .inl (.inl upd_same), by omega, hlen, ?_⟩⟩
      have m3 := m2.newT (o := .tup vs) hp
      have r3 : RvsOk X.K fa H (upd H1 p (.tup vs)) Z2 σ qs vs := r2.on2 m2 ((Mid.refl m2.ok).newT hp)
      exact hf _ Z2 _ (Sm.bindAll hS m3.sm r3 n2 (fun a q j o e => by
        obtain ⟨_, hn, _⟩ := r3.nw q
        obtain ⟨us, e2⟩ := m3.sl j a o e
        rw [hn] at e2; cases e2) hb).2

/-! ### places of lists -/
def gSets (K : PySem.W.Frag) (fa : Nat → V → Prop) (G : Tab) (ts : List (Nat × ME)) : TGs := fun vs σ H Q => ∃ Z env ys env2, Eok K fa H Z σ env ∧ FzAll K H Z vs ys ∧ setAll (fun e en => ev G e en) ts ys env = some env2 ∧ ∀ Z' H', Mid K fa σ H Z env H' Z' env2 → Q σ H'
def gSet (K : PySem.W.Frag) (fa : Nat → V → Prop) (G : Tab) (i : Nat) (m : ME) : TG := fun v σ H Q => ∃ Z env y env2, Eok K fa H Z σ env ∧ Fz K H Z v y ∧ setAll (fun e en => ev G e en) [(i, m)] [y] env = some env2 ∧ ∀ Z' H', Mid K fa σ H Z env H' Z' env2 → Q σ H'
theorem setAll_cons {evl : ME → Env → Rs (Env × Rv)} {i : Nat} {ix : ME} {ts : List (Nat × ME)} {y : PyData} {ys : List PyData} {env env2 : Env} (h : setAll evl ((i, ix) :: ts) (y :: ys) env = some env2) :
    isL env i = true ∧ ∃ e1 k xs j, evl ix env = .ok (e1, .v (.int k)) ∧ e1[i]? = some (some (.l xs)) ∧ L2.ixN xs.length k = some j ∧ setAll evl ts ys (e1.set i (some (.l (xs.set j y)))) = some env2 := by
  unfold setAll at h
  split at h
  · rename_i hl
    refine ⟨hl, ?_⟩
    split at h
    · rename_i e1 k he
      split at h
      · rename_i xs hx
        split at h
        · rename_i j hj
          exact ⟨e1, k, xs, j, he, hx, hj, h⟩
        · cases h
      · cases h
    · cases h
  · cases h
theorem g_set {i : Nat} {x : Str} {p : Pos} (hN : X.N[i]? = some x) (hv : Vis X.env.scope x) (hd : (x == ("__debug__" : Str)) = false) (hcd : (x == ("__classdict__" : Str)) = false) (hb : PE X b (tE X.K fa noX G mb))
    (ha : ∀ v, assign (.Subscript (.Name x p) b pos) X.env v = (do
      let ov ← holding [v] (eval (.Name x p) X.env)
      let iv ← holding [v, ov] (eval b X.env)
      standAt pos
      holding [v, ov, iv] (setItem ov iv v)
      release [v, ov, iv] [])) : PG X (.Subscript (.Name x p) b pos) (gSet X.K fa G i mb) := by
  refine PG.weak (pg_sub (recv_v hN hv hd hcd) hb set_list ha) fun v σ H Q ⟨Z, env, y, env2, ok, f, e, q⟩ => ?_
  obtain ⟨hl, e1, k, xs, j, h1, h2, h3, h4⟩ := setAll_cons e
  cases h4
  obtain ⟨a, ea, _⟩ := ok.recv hl
  refine ⟨V.ref a, ea, Z, env, ok, ?_⟩
  rw [h1]
  intro Z1 H1 u m1 hr
  have hr : Fz X.K H1 Z1 u (.int k) := hr
  cases hr
  obtain ⟨a', vs, ea', q1, q2⟩ := m1.ok.own h2
  rw [ea] at ea'; cases ea'
  refine ⟨a, vs, k, j, rfl, rfl, q1, by rw [q2.length]; exact h3, ?_⟩
  exact q Z1 _ (m1.write h2 ea (q2.set (Fz.step m1.st f) j))
theorem gs_set_nil : PGs X [] (gSets X.K fa G []) := PGs.weak pgs_nil fun vs σ H Q ⟨Z, env, ys, env2, ok, f, e, q⟩ => by
  cases f with
  | nil => cases e; exact ⟨rfl, q Z H (.refl ok)⟩
  | cons _ _ => cases e
theorem gs_set_cons {e : Expr} {es : List Expr} {i : Nat} {m : ME} {ts : List (Nat × ME)} (h1 : PG X e (gSet X.K fa G i m)) (h2 : PGs X es (gSets X.K fa G ts)) (hs : (assignEach (e :: es) X.env).map (·.2) = assign e X.env :: (assignEach es X.env).map (·.2)) : PGs X (e :: es) (gSets X.K fa G ((i, m) :: ts)) := by
  refine PGs.weak (pgs_cons h1 h2 hs) fun vs σ H Q ⟨Z, env, ys, env2, ok, f, e, q⟩ => ?_
  cases f with
  | nil => cases e
  | cons f1 f2 =>
    obtain ⟨hl, e1, k, xs, j, a1, a2, a3, a4⟩ := setAll_cons e
    refine ⟨_, _, rfl, Z, env, _, e1.set i (some (.l (xs.set j _))), ok, f1, ?_, fun Z1 H1 m1 => ⟨Z1, _, _, env2, m1.ok, f2.step m1.st, a4, fun Z2 H2 m2 => q Z2 H2 (m1.trans m2)⟩⟩
    unfold setAll
    rw [if_pos hl, a1]
    dsimp only
    rw [a2]
    dsimp only
    rw [a3]
    rfl
theorem setAll_len {evl : ME → Env → Rs (Env × Rv)} : ∀ {ts : List (Nat × ME)} {ys : List PyData} {env env2 : Env}, setAll evl ts ys env = some env2 → ts.length = ys.length
  | [], [], _, _, _ => rfl
  | [], _ :: _, _, _, h => by cases h
  | _ :: _, [], _, _, h => by cases h
  | (i, m) :: ts, y :: ys, env, env2, h => by
    obtain ⟨_, _, _, _, _, _, _, _, h4⟩ := setAll_cons h
    rw [List.length_cons, List.length_cons, setAll_len h4]
theorem p_sets1 {i : Nat} {tg : Expr} (he : PE X a (tE X.K fa XX G ma)) (hg : PG X tg (gSet X.K fa G i mb)) (hs : swapsWithSole [tg] a pos.line X.env = pure false) (hw : swappedStores [tg] a X.env = pure none) (h1 : (assignEach [tg] X.env).map (·.2) = [assign tg X.env]) :
    PS X (.Assign [tg] a pos) (t1 S X.K fa XX G (.sets [(i, mb)] [ma])) := by
  refine PS.weak (ps_asg he hg hs hw h1) fun D σ H ⟨Z, env, ok, h⟩ => ?_
  unfold exs1 at h
  refine ⟨Z, env, ok, ?_⟩
  unfold evs at h
  revert h
  cases ev G ma env with
  | bad => exact fun z => z
  | ex c a => exact fun z Mu' Z' H' s => z σ Mu' Z' H' s
  | ok p =>
    unfold evs
    intro hf Z1 H1 v m1 hr
    simp only [Rs.bind, Ou.of] at hf
    cases hk : keepAll p.1 [p.2] with
    | none => rw [hk] at hf; exact hf.elim
    | some q =>
      obtain ⟨env1, ys⟩ := q
      rw [hk] at hf
      dsimp only at hf
      obtain ⟨Z2, m2, f, _⟩ := m1.keepAll (.cons hr (fun _ _ _ _ q => Nw.not_nil q) .nil) hk
      cases f with
      | cons f1 f2 =>
        cases f2
        cases hsA : setAll (fun e en => ev G e en) [(i, mb)] [_] env1 with
        | none => rw [hsA] at hf; exact hf.elim
        | some env2 =>
          rw [hsA] at hf
          exact ⟨Z2, env1, _, env2, m2.ok, f1, hsA, fun Z3 H3 m3 => hf σ Z3 H3 (m2.trans m3).sm⟩
theorem p_setsT {ts : List (Nat × ME)} {es fs : List Expr} {kt k2 : Nat} {pt pt2 : Pos} {n : Nat} (hc : X.calm = true) (ha : PA X fs (tA X.K fa XX G ms)) (hg : PGs X es (gSets X.K fa G ts)) (hl : ts.length = n) (hz : n ≤ sizeLine) (hn : (assignEach es X.env).length = n) (hst : (assignEach es X.env).findIdx? (·.1) = none)
    (hs : swapsWithSole [.Tuple es kt pt] (.Tuple fs k2 pt2) pos.line X.env = pure false) (hw : swappedStores [.Tuple es kt pt] (.Tuple fs k2 pt2) X.env = pure none) (h1 : (assignEach [.Tuple es kt pt] X.env).map (·.2) = [assign (.Tuple es kt pt) X.env]) :
    PS X (.Assign [.Tuple es kt pt] (.Tuple fs k2 pt2) pos) (t1 S X.K fa XX G (.sets ts ms)) := by
  refine PS.weak (ps_asg (pe_tup ha) (pg_tup hc hg hn hst) hs hw h1) fun D σ H ⟨Z, env, ok, h⟩ => ?_
  unfold exs1 at h
  refine tA.mono (FinO.ofs ok h) fun vs H1 ⟨Z1, env1, rs, m1, hr, hf⟩ => ?_
  dsimp only at hf
  cases hk : keepAll env1 rs with
  | none => rw [hk] at hf; exact hf.elim
  | some q =>
    obtain ⟨env2, ys⟩ := q
    rw [hk] at hf
    dsimp only at hf
    obtain ⟨Z2, m2, f, _⟩ := m1.keepAll hr hk
    cases hsA : setAll (fun e en => ev G e en) ts ys env2 with
    | none => rw [hsA] at hf; exact hf.elim
    | some env3 =>
      rw [hsA] at hf
      have hlen := setAll_len hsA
      have hv := f.length
      refine ⟨by omega, fun p hp => ⟨p, vs, rfl, .inl (.inl upd_same), by omega, ?_⟩⟩
      have m3 := m2.newT (o := .tup vs) hp
      exact ⟨Z2, env2, ys, env3, m3.ok, f.newT m2.ok.zl hp, hsA, fun Z4 H4 m4 => hf σ Z4 H4 (m3.trans m4).sm⟩
/-- names unpacked from a new list -/
theorem p_unp {tg : Expr} {ts : List Tgt} (hS : ∀ i ∈ stoTs ts, S i) (he : PE X a (tE X.K fa XX G ma)) (hg : PG X tg (gL X.K fa ts)) (hs : swapsWithSole [tg] a pos.line X.env = pure false) (hw : swappedStores [tg] a X.env = pure none) (h1 : (assignEach [tg] X.env).map (·.2) = [assign tg X.env]) :
    PS X (.Assign [tg] a pos) (t1 S X.K fa XX G (.unp ts ma)) := PS.weak (ps_asg he hg hs hw h1) fun D σ H ⟨Z, env, ok, h⟩ => by
  unfold exs1 at h
  refine tM.mono (FinO.of ok h) fun v H1 ⟨Z1, env1, r, m1, hr, hf⟩ => ?_
  cases r with
  | n xs =>
    dsimp only at hf
    obtain ⟨b, us, rfl, q1, q2, q3, q4⟩ := hr
    cases ha : asgTs ts xs env1 with
    | none => rw [ha] at hf; exact hf.elim
    | some env2 =>
      rw [ha] at hf
      exact ⟨b, us, Z1, env1, xs, env2, rfl, q1, m1.ok, q4, ha, fun σ' b ag ln => hf σ' Z1 H1 (m1.sm.trans (b.sm (fun j nj => ag j fun q => nj (hS j q)) ln))⟩
  | v x => exact hf.elim
  | p i => exact hf.elim
  | r xs => exact hf.elim
  | f k => exact hf.elim

/-! ### names and places -/
abbrev nmMix (ts : List (Nat × Option ME)) : List Nat := ts.filterMap fun t => match t.2 with
    | none => some t.1
    | some _ => none
def gMix (K : PySem.W.Frag) (fa : Nat → V → Prop) (G : Tab) (ts : List (Nat × Option ME)) : TGs := fun vs σ H Q => ∃ Z env ys env2, Eok K fa H Z σ env ∧ FzAll K H Z vs ys ∧ setMix (fun e en => ev G e en) ts ys env = some env2 ∧ ∀ σ' Z' H', Bm K fa σ H Z env σ' H' Z' env2 → (∀ i, i ∉ nmMix ts → σ'[i]? = σ[i]?) → σ'.length = σ.length → Q σ' H'
theorem gm_nil : PGs X [] (gMix X.K fa G []) := PGs.weak pgs_nil fun vs σ H Q ⟨Z, env, ys, env2, ok, f, e, q⟩ => by
  cases f with
  | nil => cases e; exact ⟨rfl, q σ Z H (.refl ok) (fun _ _ => rfl) rfl⟩
  | cons _ _ => cases e
theorem gm_name {e : Expr} {es : List Expr} {i : Nat} {ts : List (Nat × Option ME)} (h1 : PG X e (gT X.K fa (.n i))) (h2 : PGs X es (gMix X.K fa G ts)) (hs : (assignEach (e :: es) X.env).map (·.2) = assign e X.env :: (assignEach es X.env).map (·.2)) : PGs X (e :: es) (gMix X.K fa G ((i, none) :: ts)) := by
  refine PGs.weak (pgs_cons h1 h2 hs) fun vs σ H Q ⟨Z, env, ys, env2, ok, f, e, q⟩ => ?_
  cases f with
  | nil => cases e
  | cons f1 f2 =>
    unfold setMix at e
    split at e
    · rename_i hl
      refine ⟨_, _, rfl, Z, env, _, env.set i (some (.d _)), ok, f1, ?_, fun σ1 b1 o1 l1 => ⟨Z, _, _, env2, b1.ok, f2, e, fun σ2 Z2 H2 b2 o2 l2 => ?_⟩⟩
      · unfold asgT; rw [if_pos hl]
      · refine q σ2 Z2 H2 (b1.trans b2) (fun j hj => ?_) (l2.trans l1)
        have hj : j ∉ i :: nmMix ts := hj
        simp only [List.mem_cons, not_or] at hj
        rw [o2 j hj.2, o1 j (by simpa [stoT] using hj.1)]
    · cases e
theorem gm_set {e : Expr} {es : List Expr} {i : Nat} {m : ME} {ts : List (Nat × Option ME)} (h1 : PG X e (gSet X.K fa G i m)) (h2 : PGs X es (gMix X.K fa G ts)) (hs : (assignEach (e :: es) X.env).map (·.2) = assign e X.env :: (assignEach es X.env).map (·.2)) : PGs X (e :: es) (gMix X.K fa G ((i, some m) :: ts)) := by
  refine PGs.weak (pgs_cons h1 h2 hs) fun vs σ H Q ⟨Z, env, ys, env2, ok, f, e, q⟩ => ?_
  cases f with
  | nil => cases e
  | @cons v0 vs0 y0 ys0 f1 f2 =>
    have hex : isL env i = true ∧ ∃ e1 k xs j, ev G m env = .ok (e1, .v (.int k)) ∧ e1[i]? = some (some (.l xs)) ∧ L2.ixN xs.length k = some j ∧ setMix (fun e en => ev G e en) ts ys0 (e1.set i (some (.l (xs.set j y0)))) = some env2 := by
      unfold setMix at e
      split at e
      · rename_i hl
        refine ⟨hl, ?_⟩
        split at e
        · rename_i e1 k he
          split at e
          · rename_i xs hx
            split at e
            · rename_i j hj
              exact ⟨e1, k, xs, j, he, hx, hj, e⟩
            · cases e
          · cases e
        · cases e
      · cases e
    obtain ⟨hl, e1, k, xs, j, a1, a2, a3, a4⟩ := hex
    refine ⟨_, _, rfl, Z, env, _, e1.set i (some (.l (xs.set j _))), ok, f1, ?_, fun Z1 H1 m1 => ⟨Z1, _, _, env2, m1.ok, f2.step m1.st, a4, fun σ2 Z2 H2 m2 o2 l2 => q σ2 Z2 H2 (m1.bm.trans m2) o2 l2⟩⟩
    unfold setAll
    rw [if_pos hl, a1]
    dsimp only
    rw [a2]
    dsimp only
    rw [a3]
    rfl
theorem setMix_len {evl : ME → Env → Rs (Env × Rv)} : ∀ {ts : List (Nat × Option ME)} {ys : List PyData} {env env2 : Env}, setMix evl ts ys env = some env2 → ts.length = ys.length
  | [], [], _, _, _ => rfl
  | [], _ :: _, _, _, h => by cases h
  | (_, none) :: _, [], _, _, h => by cases h
  | (_, some _) :: _, [], _, _, h => by cases h
  | (i, none) :: ts, y :: ys, env, env2, h => by
    unfold setMix at h
    split at h
    · rw [List.length_cons, List.length_cons, setMix_len h]
    · cases h
  | (i, some m) :: ts, y :: ys, env, env2, h => by
    unfold setMix at h
    split at h
    · split at h
      · split at h
        · split at h
          · rw [List.length_cons, List.length_cons, setMix_len h]
          · cases h
        · cases h
      · cases h
    · cases h
theorem p_mixT {ts : List (Nat × Option ME)} {es fs : List Expr} {kt k2 : Nat} {pt pt2 : Pos} {n : Nat} (hS : ∀ i ∈ nmMix ts, S i) (hc : X.calm = true) (ha : PA X fs (tA X.K fa XX G ms)) (hg : PGs X es (gMix X.K fa G ts)) (hl : ts.length = n) (hz : n ≤ sizeLine) (hn : (assignEach es X.env).length = n) (hst : (assignEach es X.env).findIdx? (·.1) = none)
    (hs : swapsWithSole [.Tuple es kt pt] (.Tuple fs k2 pt2) pos.line X.env = pure false) (hw : swappedStores [.Tuple es kt pt] (.Tuple fs k2 pt2) X.env = pure none) (h1 : (assignEach [.Tuple es kt pt] X.env).map (·.2) = [assign (.Tuple es kt pt) X.env]) :
    PS X (.Assign [.Tuple es kt pt] (.Tuple fs k2 pt2) pos) (t1 S X.K fa XX G (.mix ts ms)) := by
  refine PS.weak (ps_asg (pe_tup ha) (pg_tup hc hg hn hst) hs hw h1) fun D σ H ⟨Z, env, ok, h⟩ => ?_
  unfold exs1 at h
  refine tA.mono (FinO.ofs ok h) fun vs H1 ⟨Z1, env1, rs, m1, hr, hf⟩ => ?_
  dsimp only at hf
  cases hk : keepAll env1 rs with
  | none => rw [hk] at hf; exact hf.elim
  | some q =>
    obtain ⟨env2, ys⟩ := q
    rw [hk] at hf
    dsimp only at hf
    obtain ⟨Z2, m2, f, _⟩ := m1.keepAll hr hk
    cases hsA : setMix (fun e en => ev G e en) ts ys env2 with
    | none => rw [hsA] at hf; exact hf.elim
    | some env3 =>
      rw [hsA] at hf
      have hlen := setMix_len hsA
      have hv := f.length
      refine ⟨by omega, fun p hp => ⟨p, vs, rfl, .inl (.inl upd_same), by omega, ?_⟩⟩
      have m3 := m2.newT (o := .tup vs) hp
      exact ⟨Z2, env2, ys, env3, m3.ok, f.newT m2.ok.zl hp, hsA, fun σ4 Z4 H4 m4 ag ln => hf σ4 Z4 H4 (m3.sm.trans (m4.sm (fun j nj => ag j fun q => nj (hS j q)) ln))⟩
end
end Ev

/-! Ev, part Q: augmented stores, loops. -/
namespace Ev
open PySem L2 PyProof.Rows
section
variable {S : Nat → Prop} {X : Cx} {fa : Nat → V → Prop} {XX : XW} {G : Tab} {a b c : Expr} {ma mb mc : ME} {ms : List ME} {pos : Pos} {st : Stmt} {ss : List Stmt} {m : MS} {bs : List MS}
def rAug (K : PySem.W.Frag) (o : BOp) : R2 := fun x y H Q => ∃ Z dx dy z, Ds K H Z x dx ∧ Ds K H Z y dy ∧ augT o dx dy = some z ∧ ∀ v, Fz K H Z v z → Q v H
theorem aug_of (o : BOp) : OpR X (inplaceOp (opOf o)) (rAug X.K o) := by
  cases o
  · refine OpR.weak (OpR.or iop_add iop_add_str) fun x y H Q ⟨Z, dx, dy, z, hx, hy, e, w⟩ => ?_
    cases dx <;> cases dy <;> simp only [augT] at e <;> try (cases e; done)
    · cases e
      exact .inl ⟨_, _, hx.int, hy.int, w _ (.int _)⟩
    · split at e
      · rename_i hl
        cases e
        exact .inr ⟨_, _, hx.str, hy.str, hl, w _ (.str _)⟩
      · cases e
  · refine OpR.weak iop_sub fun x y H Q ⟨Z, dx, dy, z, hx, hy, e, w⟩ => ?_
    cases dx <;> cases dy <;> simp only [augT] at e <;> try (cases e; done)
    cases e
    exact ⟨_, _, hx.int, hy.int, w _ (.int _)⟩
  · refine OpR.weak iop_mul fun x y H Q ⟨Z, dx, dy, z, hx, hy, e, w⟩ => ?_
    cases dx <;> cases dy <;> simp only [augT] at e <;> try (cases e; done)
    split at e
    · rename_i hs
      cases e
      refine ⟨_, _, hx.int, hy.int, ?_, w _ (.int _)⟩
      rw [Bool.or_eq_true] at hs
      simp only [sml, Bool.and_eq_true, decide_eq_true_eq] at hs
      exact hs
    · cases e
  · refine OpR.weak iop_fdiv fun x y H Q ⟨Z, dx, dy, z, hx, hy, e, w⟩ => ?_
    cases dx <;> cases dy <;> simp only [augT] at e <;> try (cases e; done)
    split at e
    · rename_i hs
      cases e
      exact ⟨_, _, hx.int, hy.int, hs, w _ (.int _)⟩
    · cases e
  · refine OpR.weak iop_mod fun x y H Q ⟨Z, dx, dy, z, hx, hy, e, w⟩ => ?_
    cases dx <;> cases dy <;> simp only [augT] at e <;> try (cases e; done)
    split at e
    · rename_i hs
      cases e
      exact ⟨_, _, hx.int, hy.int, hs, w _ (.int _)⟩
    · cases e
  · intro pins s σ H x y v u Q I rx ry ⟨Z, dx, dy, z, hx, hy, e, w⟩
    cases dx <;> cases dy <;> simp only [augT] at e <;> cases e
theorem p_aug {i : Nat} {x : Str} {p : Pos} (o : BOp) (hS : S i) (hN : X.N.Nodup) (hi : X.N[i]? = some x) (hx : Loc X.env.scope x) (he : PE X a (tE X.K fa XX G ma)) (hf : X.fn x = true ∨ X.env.scope.names.lookup x = some .local) :
    PS X (.AugAssign (.Name x p) (opOf o) a pos) (t1 S X.K fa XX G (.aug i o ma)) := by
  refine PS.weak (ps_aug hN hi hx he (aug_of o) hf) fun D σ H ⟨Z, env, ok, h⟩ => ?_
  unfold exs1 at h
  split at h
  · rename_i x0 hr
    have hw : env[i]? = some (some (W.d x0)) := by
      unfold rdName at hr
      split at hr <;> cases hr
      assumption
    obtain ⟨v, e1, e2⟩ := ok.nm i _ hw
    refine ⟨v, e1, tM.mono (FinO.of ok h) fun y H1 ⟨Z1, env1, r, m1, hr, hf⟩ => ?_⟩
    dsimp only at hf
    cases hd : dat env1 r with
    | none => rw [hd] at hf; exact hf.elim
    | some d =>
      rw [hd] at hf
      dsimp only at hf
      cases hz : augT o x0 d with
      | none => rw [hz] at hf; exact hf.elim
      | some z =>
        rw [hz] at hf
        dsimp only at hf
        split at hf
        · have e2' : Fz X.K H Z v x0 := e2
          exact ⟨Z1, x0, d, z, .of (Fz.step m1.st e2'), hr.ds m1.ok hd, hz, fun u f => hf _ Z1 H1 (m1.sm.trans ((Bm.bind m1.ok f i).sm (fun j nj => List.getElem?_set_ne (show i ≠ j from fun e => nj (by rw [← e]; exact hS))) (by rw [List.length_set])))⟩
        · exact hf.elim
  · exact h.elim

/-! ### while -/
def whT (G : Tab) (mc : ME) : Env → Rs (Env × Bool) := fun e => (ev G mc e).bind fun p => match truR p.1 p.2 with
  | some k => .ok (p.1, k)
  | none => .bad
theorem p_whl (hp : PassesOwn (model X.prog X.w) X.A X.env X.xe) (hc : PT X c (tB X.K fa XX G mc)) (hb : PSs X ss (tn S X.K fa XX G bs)) : PS X (.While c ss [] pos) (t1 S X.K fa XX G (.whl mc bs)) := by
  refine PS.weak (ps_while hp hc hb) fun D σ H ⟨Z, env, ok, h⟩ => ?_
  have e0 : exs1 G (.whl mc bs) env = whlGo (whT G mc) (fun e => exs G bs e) turns env := by
    rw [exs1]; rfl
  rw [e0] at h
  refine ⟨fun n σ' H' => ∃ Z' en, Sm S X.K fa σ H Z env σ' H' Z' en ∧ FinO S X.K fa XX σ' H' Z' en (whlGo (whT G mc) (fun e => exs G bs e) n en) D, ⟨turns, Z, env, .refl ok, h⟩, ?_⟩
  rintro n σ1 H1 ⟨Z1, en, s1, h1⟩
  refine ⟨Z1, en, s1.ok, ?_⟩
  cases n with
  | zero => exact h1.elim
  | succ n =>
    unfold whlGo at h1
    unfold whT at h1
    revert h1
    cases ev G mc en with
    | bad => exact fun z => z
    | ex c a => exact fun z Mu' Z' H' s => z σ1 Mu' Z' H' s
    | ok p =>
      simp only [Rs.bind]
      cases truR p.1 p.2 with
      | none => exact fun z => z
      | some k =>
        cases k with
        | false => exact fun z Z2 H2 m2 => iteF (z σ1 Z2 H2 m2.sm)
        | true =>
          intro z Z2 H2 m2
          refine iteT ⟨fun σ' H' => ∃ Z' en', Sm S X.K fa σ H Z env σ' H' Z' en' ∧ FinO S X.K fa XX σ' H' Z' en' (whlGo (whT G mc) (fun e => exs G bs e) n en') D, fun σ' H' q => ⟨n, Nat.lt_succ_self n, q⟩, Z2, p.1, m2.ok, ?_⟩
          have z := FinO.on m2.sm z
          dsimp only at z
          have s2 := s1.trans m2.sm
          revert z
          cases exs G bs p.1 with
          | nx e => exact fun z σ' Z' H' s => ⟨Z', e, s2.trans s, FinO.on s z⟩
          | ct e => exact fun z σ' Z' H' s => ⟨Z', e, s2.trans s, FinO.on s z⟩
          | bk e => exact fun z => z
          | rt e r => exact fun z => z
          | ex c a => exact fun z => z
          | bad => exact fun z => z

/-! ### for -/
theorem Sm.unlock1 {K : PySem.W.Frag} {σ σ1 : L2.St} {H H1 : Hp} {Z Z1 : Addr → Prop} {env env1 env2 : Env} {i : Nat} {xs : List PyData} (ok : Eok K fa H1 Z1 σ1 env1) (h : env1[i]? = some (some (.l xs))) (m : Sm S K fa σ1 H1 Z1 (env1.set i (some (.k xs))) σ H Z env) (u : Ev.unlock1 env i = some env2) : Sm S K fa σ1 H1 Z1 env1 σ H Z env2 := by
  obtain ⟨ys, e1, rfl⟩ := unlock1_some u
  have mo0 : ∀ b, Own σ1 (env1.set i (some (.k xs))) b → Own σ1 env1 b := fun b q => Own_lock q
  obtain ⟨k1, k2⟩ := m.kk i ys e1
  refine ⟨⟨fun b o q n => m.st.keep b o q fun z => n (mo0 b z), m.st.dom, fun b q n => m.st.zold b q fun z => n (mo0 b z), m.st.znew, fun b ⟨j, zs, q1, q2⟩ => ?_, ok.muz, ok.zl⟩, fun j zs q => ?_, fun j b q e => ?_, m.ag, m.len, m.ok.unlock1 e1⟩
  · rcases getElem?_set_cases q1 with ⟨rfl, _, _⟩ | ⟨_, e⟩
    · rw [k2] at q2
      exact .inl ⟨j, xs, h, q2⟩
    · rcases m.st.mnew b ⟨j, zs, e, q2⟩ with q | q
      · exact .inl (mo0 b q)
      · exact .inr q
  · rcases getElem?_set_cases q with ⟨_, e, _⟩ | ⟨ne, e⟩
    · cases e
    · obtain ⟨h1, h2⟩ := m.kk j zs e
      rw [List.getElem?_set_ne (Ne.symm ne)] at h1
      exact ⟨h1, h2⟩
  · have o1 : ownd env j := by
      obtain ⟨zs, q⟩ := q
      by_cases ej : j = i
      · subst ej; exact ⟨ys, .inr e1⟩
      · rw [List.getElem?_set_ne (Ne.symm ej)] at q
        exact ⟨zs, q⟩
    rcases m.ow j b o1 e with ⟨h1, h2⟩ | h1
    · exact .inl ⟨ownd_lock h h1, h2⟩
    · exact .inr h1
theorem Sm.unlock {K : PySem.W.Frag} {σ σ1 : L2.St} {H H1 : Hp} {Z Z1 : Addr → Prop} : ∀ {ls : List Nat} {env1 envl env env2 : Env}, Locks env1 ls envl → Eok K fa H1 Z1 σ1 env1 → Sm S K fa σ1 H1 Z1 envl σ H Z env → Ev.unlock env ls = some env2 → Sm S K fa σ1 H1 Z1 env1 σ H Z env2
  | _, _, _, _, _, .nil, _, m, u => by cases u; exact m
  | _, _, _, _, _, .cons h r, ok, m, u => by
    unfold Ev.unlock at u
    split at u
    · rename_i e' h'
      exact Sm.unlock1 ok h (Sm.unlock r (ok.lock h) m h') u
    · cases u
theorem FinO.opened {K : PySem.W.Frag} {σ : L2.St} {H1 : Hp} {Z1 : Addr → Prop} {envU env1 : Env} {ls : List Nat} {o : Ou} {D : Ends} (hl : Locks envU ls env1) (ok : Eok K fa H1 Z1 σ envU) (ok1 : Eok K fa H1 Z1 σ env1) (h : FinO S K fa XX σ H1 Z1 envU (Ev.opened ls o) D) :
    FinO S K fa XX σ H1 Z1 env1 o { D with nx := D.nx, bk := D.nx, ct := fun _ _ => False } := by
  cases o with
  | nx e =>
    intro σ' Z' H' s
    unfold Ev.opened at h
    dsimp only at h
    cases hu : unlock e ls with
    | none => rw [hu] at h; exact h.elim
    | some e' => rw [hu] at h; exact h σ' Z' H' (Sm.unlock hl ok s hu)
  | bk e =>
    intro σ' Z' H' s
    unfold Ev.opened at h
    dsimp only at h
    cases hu : unlock e ls with
    | none => rw [hu] at h; exact h.elim
    | some e' => rw [hu] at h; exact h σ' Z' H' (Sm.unlock hl ok s hu)
  | ct e => exact h.elim
  | rt e r =>
    intro σ' Z' H' v s q
    unfold Ev.opened at h
    dsimp only at h
    cases hu : unlock e ls with
    | none => rw [hu] at h; exact h.elim
    | some e' => rw [hu] at h; exact h σ' Z' H' v (Sm.unlock hl ok s hu) q
  | ex c a =>
    intro σ' Mu' Z' H' s
    refine h σ' Mu' Z' H' ⟨fun b o q n => s.keep b o q fun z => n (hl.own b z), s.dom, fun b q n => s.zold b q fun z => n (hl.own b z), s.znew, fun b q => ?_, ok.muz, ok.zl⟩
    rcases s.mnew b q with q | q
    · exact .inl (hl.own b q)
    · exact .inr q
  | bad => exact h
def forT (G : Tab) (t : Tgt) (bs : List MS) : PyData → Env → Ou := fun x e => match asgT t x e with
  | none => .bad
  | some e1 => exs G bs e1
theorem p_for {tg iter : Expr} {t : Tgt} {w : Nat} {its : List ME} (hS : ∀ i ∈ stoT t, S i) (hp : PassesOwn (model X.prog X.w) X.A X.env X.xe) (hc : X.calm = true) (hi : PI X tg iter (tI X.K fa XX G w its)) (hg : PG X tg (gT X.K fa t)) (hb : PSs X ss (tn S X.K fa XX G bs)) (hs : ∀ x, foldedSetIterable iter X.env x = pure x) :
    PS X (.For tg iter ss [] pos) (t1 S X.K fa XX G (.for_ t w its bs)) := by
  refine PS.weak (ps_for hp hc hi hg hb hs) fun D σ H ⟨Z, env, ok, h⟩ => ?_
  refine ⟨Z, env, ok, ?_⟩
  have e0 : exs1 G (.for_ t w its bs) env = Ou.of (evs G its env) fun p => match items w p.1 p.2 with
    | none => .bad
    | some (env1, xs, ls) => opened ls (forGo (forT G t bs) xs env1) := by
    rw [exs1]; rfl
  rw [e0] at h
  revert h
  cases evs G its env with
  | bad => exact fun z => z
  | ex c a => exact fun z Mu' Z' H' s => z σ Mu' Z' H' s
  | ok p =>
    simp only [Ou.of]
    cases hit : items w p.1 p.2 with
    | none => exact fun z => z
    | some q =>
      obtain ⟨env1, xs, ls⟩ := q
      intro h Z1 H1 J P m hl ok1 wl p1
      have h2 := FinO.opened hl m.ok ok1 (FinO.on m.sm h)
      refine ⟨fun i n σ' H' => n = xs.length - i ∧ i ≤ xs.length ∧ ∃ Z' en, Sm S X.K fa σ H1 Z1 env1 σ' H' Z' en ∧ FinO S X.K fa XX σ' H' Z' en (forGo (forT G t bs) (xs.drop i) en) { D with nx := D.nx, bk := D.nx, ct := fun _ _ => False },
        ⟨xs.length, by omega, Nat.zero_le _, Z1, env1, .refl ok1, h2⟩, ?_⟩
      rintro i n σ2 H2 ⟨rfl, hi, Z2, en, s2, h3⟩
      have pc : P (Own σ2 en) Z2 H2 := wl.step _ _ _ _ _ _ p1 s2.st
      by_cases hlt : i < xs.length
      · have hx : xs[i]? = some xs[i] := List.getElem?_eq_getElem hlt
        rw [List.drop_eq_getElem_cons hlt] at h3
        unfold forGo at h3
        refine .inr ⟨wl.go i _ _ _ _ pc hx, fun σ' H' => ∃ Z' en', Sm S X.K fa σ H1 Z1 env1 σ' H' Z' en' ∧ FinO S X.K fa XX σ' H' Z' en' (forGo (forT G t bs) (xs.drop (i + 1)) en') { D with nx := D.nx, bk := D.nx, ct := fun _ _ => False }, fun σ' H' q => ⟨xs.length - (i + 1), by omega, rfl, hlt, q⟩, fun x H3 hy => ?_⟩
        have item : Sm S X.K fa σ2 H2 Z2 en σ2 H3 Z2 en ∧ Fz X.K H3 Z2 x xs[i] := by
          rcases wl.yld i _ _ _ _ x H3 pc hx hy with ⟨rfl, f⟩ | ⟨T, us, ds, rfl, hT, rfl, ed, f⟩
          · exact ⟨.refl s2.ok, f⟩
          · refine ⟨((Mid.refl s2.ok).newT hT).sm, ?_⟩
            rw [ed]
            exact .tup (.inl (.inl upd_same)) (f.newT s2.ok.zl hT)
        obtain ⟨s3, fx⟩ := item
        cases ha : asgT t xs[i] en with
        | none =>
          unfold forT at h3
          rw [ha] at h3
          exact h3.elim
        | some en1 =>
          refine ⟨Z2, en, xs[i], en1, s3.ok, fx, ha, fun σ4 b4 ag ln => ⟨Z2, en1, b4.ok, ?_⟩⟩
          have s4 := s3.trans (b4.sm (fun j nj => ag j fun q => nj (hS j q)) ln)
          have h4 := FinO.on s4 h3
          have e1 : forT G t bs xs[i] en = exs G bs en1 := by
            unfold forT
            rw [ha]
          rw [e1] at h4
          have s5 := s2.trans s4
          revert h4
          cases exs G bs en1 with
          | nx e => exact fun z σ' Z' H' s => ⟨Z', e, s5.trans s, FinO.on s z⟩
          | ct e => exact fun z σ' Z' H' s => ⟨Z', e, s5.trans s, FinO.on s z⟩
          | bk e => exact fun z => z
          | rt e r => exact fun z => z
          | ex c a => exact fun z => z
          | bad => exact fun z => z
      · have e : i = xs.length := by omega
        subst e
        rw [List.drop_length] at h3
        exact .inl ⟨wl.stop _ _ _ _ pc rfl, h3 σ2 Z2 H2 (.refl s2.ok)⟩
end
end Ev

/-! Ev, part Q1: augmented stores to places of lists. -/
namespace Ev
open PySem L2 PyProof.Rows
section
variable {S : Nat → Prop} {X : Cx} {fa : Nat → V → Prop} {XX : XW} {G : Tab} {a b c : Expr} {ma mb mc : ME} {ms : List ME} {pos : Pos}
def rGetN (K : PySem.W.Frag) : V → V → Hp → VK → Prop := fun o i H Q => ∃ p xs k v, o = V.ref p ∧ i = .int k ∧ SqL K H p xs ∧ 0 ≤ k ∧ xs[k.toNat]? = some v ∧ Q v H
theorem get_list : PGet X (rGetN X.K) := by
  intro pins s σ H o i ov iv Q I ro ri h
  obtain ⟨p, xs, k, z, rfl, rfl, hq, h0, he, q⟩ := h
  cases ro
  obtain ⟨t, rfl⟩ := ri
  obtain ⟨its, r, pl, hz⟩ := I.list hq
  obtain ⟨w, ew, rw'⟩ := r.get he
  have hl := r.length
  have hk : k.toNat < xs.length := (List.getElem?_eq_some_iff.mp he).1
  have hn : sizeLine < 2 ^ 63 := by decide
  exact PySem.wpAny_getItem_list pl.isList h0 (by omega) (by simpa using ew) ⟨z, H, I, rw', q⟩
theorem p_augs {i : Nat} {x : Str} {p tpos : Pos} (o : BOp) (hN : X.N[i]? = some x) (hv : Vis X.env.scope x) (hd : (x == ("__debug__" : Str)) = false) (hcd : (x == ("__classdict__" : Str)) = false) (hb : PE X b (tE X.K fa XX G mb)) (he : PE X a (tE X.K fa XX G ma))
    (ha : ∀ ov iv new, augStore b ov iv new = (do holding [new, ov, iv] (setItem ov iv new); release [new, ov, iv] []; pure .next)) :
    PS X (.AugAssign (.Subscript (.Name x p) b tpos) (opOf o) a pos) (t1 S X.K fa XX G (.augs i mb o ma)) := by
  refine PS.weak (ps_augS (recv_v hN hv hd hcd) hb get_list he (aug_of o) set_list ha) fun D σ H ⟨Z, env, ok, h⟩ => ?_
  unfold exs1 at h
  split at h
  · rename_i hl
    obtain ⟨ad, ea, _⟩ := ok.recv hl
    refine ⟨V.ref ad, ea, tM.mono (FinO.of ok h) fun v H1 ⟨Z1, env1, r, m1, hr, hf⟩ => ?_⟩
    dsimp only at hf
    split at hf <;> try (exact hf.elim)
    rename_i k
    have hr : Fz X.K H1 Z1 v (.int k) := hr
    cases hr
    split at hf <;> try (exact hf.elim)
    rename_i xs hx
    split at hf <;> try (exact hf.elim)
    rename_i hk
    split at hf <;> try (exact hf.elim)
    rename_i d hd'
    obtain ⟨a', vs, ea', q1, q2⟩ := m1.ok.own hx
    rw [ea] at ea'; cases ea'
    obtain ⟨u, hu, fu⟩ := q2.get hd'
    refine ⟨ad, vs, k, u, rfl, rfl, .inl (.inl q1), hk, hu, tM.mono (FinO.of m1.ok (FinO.on m1.sm hf)) fun y H2 ⟨Z2, env2, r2, m2, hr2, hf2⟩ => ?_⟩
    dsimp only at hf2
    cases hy : dat env2 r2 with
    | none => rw [hy] at hf2; exact hf2.elim
    | some dy =>
      rw [hy] at hf2
      dsimp only at hf2
      cases hz : augT o d dy with
      | none => rw [hz] at hf2; exact hf2.elim
      | some z =>
        rw [hz] at hf2
        dsimp only at hf2
        split at hf2 <;> try (exact hf2.elim)
        rename_i ys hys
        split at hf2 <;> try (exact hf2.elim)
        rename_i j hj
        refine ⟨Z2, d, dy, z, .of (Fz.step m2.st fu), hr2.ds m2.ok hy, hz, fun w fw => ?_⟩
        obtain ⟨a', us, ea', w1, w2⟩ := m2.ok.own hys
        rw [ea] at ea'; cases ea'
        refine ⟨ad, us, k, j, rfl, rfl, w1, by rw [w2.length]; exact hj, ?_⟩
        exact hf2 σ Z2 _ (m2.write hys ea (w2.set fw j)).sm
  · exact h.elim
end
end Ev

/-! Ev, part R: defs whose callers are not within a repr; the law's end. -/
namespace Ev
open PySem PySem.Spec L2 PyProof.Rows

/-- a def's promise, for callers that are in no repr -/
structure FnG (P : Program) (w : World) (K : PySem.W.Frag) (mg : Str → Option Value) (base : Heap) (CX : CXT) (k : Nat) (f : Addr) (fd : FuncData) (ps : List Str) (sp : Sp) : Prop where
  len : ∀ vs H Q E, sp vs H Q E → vs.length = ps.length
  run : ∀ (A : Around) (outer : List PySem.Env) (s : Shared) (H : Hp) (args : Args) (us : List Value) (vs : List V) (Q : VK) (E : XK), Room k A → A.guards = some [] → Env0 P w K mg base A outer s H → BindsTo s fd args (ps.zip us) → Vals vs us → sp vs H Q E →
    codeAny (model P w) A (.call (.ref f) args) (CR CX outer P w H s Q E) s
section
variable {CX : CXT} {P : Program} {w : World} {K : PySem.W.Frag} {mg : Str → Option Value} {base : Heap} {j k : Nat} {f : Addr} {fd : FuncData} {ps : List Str} {sp : Sp}
theorem FnG.mono (F : FnG P w K mg base CX j f fd ps sp) (h : j ≤ k) : FnG P w K mg base CX k f fd ps sp where
  len := F.len
  run := fun A outer s H args us vs Q E r => F.run A outer s H args us vs Q E (r.mono h)
/-- a def by its body -/
theorem fnG_of {x qual : Str} {st : Stmt} {N : List Str} (F : Fun K x qual st f fd) (S : FnScope N ps (defScope st)) (len : ∀ vs H Q E, sp vs H Q E → vs.length = ps.length)
    (body : ∀ (cdv : Value) (A : Around) (outer : List PySem.Env) (s : Shared) (H : Hp) (vs : List V) (Q : VK) (E : XK), Room k (A.deeper (envOfC qual (defScope st) s.heap.objs.size f cdv)) → A.guards = some [] → sp vs H Q E →
      ∃ t, PSs (cxOf CX P w K mg base N qual (defScope st) f cdv A outer s H E) (defBody st) t ∧ t { nx := fun _ H' => Q .non H', rt := Q } (start N vs) H) : FnG P w K mg base CX (k + 1) f fd ps sp := by
  obtain ⟨oc, od, kV, doc, pm, an, cdv, ct, osl, rfl, lk, hcd⟩ := F.ex
  refine ⟨len, ?_⟩
  intro A outer s H args us vs Q E hr hg e0 hb rv h
  have kin : K.In s.heap := e0.mod.kin.keeps fun b o e => (e0.bs b o e).1
  have nolim : s.heap.NoLimit := e0.mod.nolimit.keeps fun b o e => (e0.bs b o e).1
  have kinds : ∀ y ∈ ps.zip us, (defScope st).names.lookup y.1 = some .local ∨ ((defScope st).names.lookup y.1 = some .cell ∧ ((cellsFrom (s.heap.objs.size + 1) (defScope st).names []).lookup y.1).isSome = true) := by
    rintro ⟨n, v⟩ hy
    have hp := S.par n (List.of_mem_zip hy).1
    exact hp.imp id fun q => ⟨q, PySem.W.cellsFrom_some _ _ _ (.inl q)⟩
  refine codeAny_call_function hr.depth (kin _ _ lk) rfl S.co S.gen rfl (PySem.W.codeRec_of kin hcd) (hb _ _ _ _ ?_)
  refine wpAny_newFunctionEnv_cells S.kind kinds fun env he s1 X1 => ?_
  cases he
  refine ⟨nolim.keeps X1.toInCall.keep, codeAny_func ?_⟩
  obtain ⟨t, ht, hq⟩ := body cdv A outer s H vs Q E (hr.deeper _) hg h
  have run := ht.run [] s1 (start N vs) H _ (inv_start S hr.hd e0 (len _ _ _ _ h) rv X1) hq
  refine wpAny_mono run ?_ fun e s' he => he
  intro fl s' hs
  cases fl with
  | next => obtain ⟨σ', H', I, q⟩ := hs; exact ⟨.non, H', I.os, I.bare, I.base, I.hok, rfl, q⟩
  | ret u => obtain ⟨v, σ', H', I, r, q⟩ := hs; exact ⟨v, H', I.os, I.bare, I.base, I.hok, r, q⟩
  | brk => obtain ⟨_, _, _, q⟩ := hs; exact q.elim
  | cont => obtain ⟨_, _, _, q⟩ := hs; exact q.elim
end
section
variable {X : Cx} {CX : CXT} {k : Nat} {f : Addr} {fd : FuncData} {ps : List Str} {sp : Sp} {E : XK} {x : Str} {p pos : Pos} {e : Expr} {es : List Expr} {t : TA}
theorem runG {pins : List (Addr × Obj)} {σ : L2.St} {H : Hp} {s : Shared} {Q : VK} {us : List Value} {vs : List V} (F : FnG X.prog X.w X.K X.mg X.base CX k f fd ps sp) (hr : Room k X.A) (hg : X.A.guards = some []) (hb : Binds X.K fd ps []) (hx : Passes CX X E)
    (I : L2.Inv X pins σ H s) (r : Vals vs us) (h : sp vs H Q E) : wpAny (model X.prog X.w) X.A (call (.ref f) us) (EP X pins σ Q) X.xe s := by
  have hl : (us ++ []).length = ps.length := by rw [List.append_nil, ← r.length]; exact F.len _ _ _ _ h
  have hb := hb s us I.kIn hl
  rw [List.append_nil] at hb
  refine wpAny_call (codeAny_mono (F.run X.A X.stack s H ⟨us, []⟩ us vs Q E hr hg I.env0 hb r h) ?_)
  intro res s' hq
  match res, hq with
  | .error e, hq => exact hx pins σ H s e s' I hq
  | .ok (.ret u), hq => exact I.after hq
  | .ok .next, hq => exact hq.elim
  | .ok .brk, hq => exact hq.elim
  | .ok .cont, hq => exact hq.elim
def tFn (sp : Sp) (E : XK) (t : TA) : TE := fun σ H Q => t σ H fun vs H1 => sp vs H1 Q E
theorem pe_fn (F : FnG X.prog X.w X.K X.mg X.base CX k f fd ps sp) (hr : Room k X.A) (hgu : X.A.guards = some []) (hg : Gl X x) (hm : X.mg x = some (.ref f)) (hk : PySem.W.keepIn X.K (.ref f) = true) (hb : Binds X.K fd ps []) (hx : Passes CX X E) (ha : PA X (e :: es) t)
    (hdb : (x == ("__debug__" : Str)) = false) (he : starEach (e :: es) X.env = (false, eval e X.env) :: starEach es X.env) (hpl : (backTo pos (starEach es X.env)).any (·.1) = false) : PE X (.Call (.Name x p) (e :: es) [] pos) (tFn sp E t) :=
  ⟨fun pins s σ H Q I h => wpAny_Call_Name_kw (ld_glob I hg hm (PySem.W.callWith_K (h₀ := X.base) I.ok.mod.kin hk (thn (ha.run pos pins s σ H _ I h) fun us s1 ⟨vs, H1, I1, r, q⟩ => ⟨I1.kIn, runG F hr hgu hb hx I1 r q⟩) he hpl) hdb)⟩
theorem pe_fn0 (F : FnG X.prog X.w X.K X.mg X.base CX k f fd ps sp) (hr : Room k X.A) (hgu : X.A.guards = some []) (hg : Gl X x) (hm : X.mg x = some (.ref f)) (hk : PySem.W.keepIn X.K (.ref f) = true) (hb : Binds X.K fd ps []) (hx : Passes CX X E)
    (hdb : (x == ("__debug__" : Str)) = false) : PE X (.Call (.Name x p) [] [] pos) (tFn sp E tNil) :=
  ⟨fun pins s σ H Q I h => wpAny_Call_Name_kw (ld_glob I hg hm (PySem.W.callWith_K0 I.kIn hk (runG (us := []) F hr hgu hb hx I .nil h)) hdb)⟩
/-- a call of what a name holds -/
def tFnV (X : Cx) (E : XK) (i : Nat) (t : TA) : TE := fun σ H Q => ∃ (f : Addr) (fd : FuncData) (ps : List Str) (sp : Sp) (k : Nat) (CX : CXT), σ[i]? = some (some (V.ref f)) ∧ FnG X.prog X.w X.K X.mg X.base CX k f fd ps sp ∧ Room k X.A ∧ PySem.W.keepIn X.K (.ref f) = true ∧ Binds X.K fd ps [] ∧ Passes CX X E ∧ tFn sp E t σ H Q
theorem pe_fnv {i : Nat} (hgu : X.A.guards = some []) (hN : X.N[i]? = some x) (hv : Vis X.env.scope x) (ha : PA X (e :: es) t) (hdb : (x == ("__debug__" : Str)) = false) (hcd : (x == ("__classdict__" : Str)) = false)
    (he : starEach (e :: es) X.env = (false, eval e X.env) :: starEach es X.env) (hpl : (backTo pos (starEach es X.env)).any (·.1) = false) : PE X (.Call (.Name x p) (e :: es) [] pos) (tFnV X E i t) :=
  ⟨fun pins s σ H Q I ⟨f, fd, ps, sp, k, CX, h0, F, hr, hk, hb, hx, h⟩ => by
    refine wpAny_Call_Name_kw (thn ((pe_var (pos := p) hN hv hdb hcd).run pins s σ H (fun v H1 => v = .ref f ∧ H1 = H) I ⟨_, h0, rfl, rfl⟩) fun u s0 ⟨v, H1, I1, r1, ev, eH⟩ => ?_)
    subst ev
    obtain rfl : u = Value.ref f := r1
    rw [eH] at I1
    exact PySem.W.callWith_K (h₀ := X.base) I1.ok.mod.kin hk (thn (ha.run pos pins s0 σ H _ I1 h) fun us s1 ⟨vs, H1, I2, r, q⟩ => ⟨I2.kIn, runG F hr hgu hb hx I2 r q⟩) he hpl⟩
/-- repr of data -/
theorem b1_repr (hu : X.A.units + 66 < cLine) (hg : X.A.guards = some []) : CallR X (.builtin "repr") (fun xs H Q => ∃ v d, xs = [v] ∧ Dp X.K H v d ∧ d.showable = true ∧ d.hasDict = false ∧ d.depth ≤ 64 ∧ d.shown.length ≤ sizeLine ∧ Q (.str d.shown) H) := by
  intro pins s σ H xs us Q I r h
  obtain ⟨v, d, rfl, hd, h1, h2, h3, h4, q⟩ := h
  obtain ⟨u, rfl, ru⟩ := vals1 r
  obtain ⟨as, rd⟩ := Dp.reads I d _ _ hd ru
  cases hd with
  | non =>
    cases ru
    refine PySem.P.repr_of_none ⟨.str (PyData.none).shown, H, I.tok _, ⟨s.toks, ?_⟩, q⟩
    first | (simp only [PyData.shown]; done) | (simp only [PyData.shown]; rfl)
  | bl b =>
    cases ru
    refine PySem.P.repr_of_bool ⟨.str (PyData.bool b).shown, H, I.tok _, ⟨s.toks, ?_⟩, q⟩
    cases b <;> simp only [PyData.shown] <;> rfl
  | int i =>
    obtain ⟨t, rfl⟩ := ru
    refine PySem.P.repr_of_int (by simpa [PyData.showable] using h1) ⟨.str (PyData.int i).shown, H, I.tok _, ⟨s.toks, ?_⟩, q⟩
    first | (simp only [PyData.shown]; done) | (simp only [PyData.shown]; rfl)
  | str x =>
    obtain ⟨t, rfl⟩ := ru
    refine PySem.P.repr_of_str ⟨.str (PyData.str x).shown, H, I.tok _, ⟨s.toks, ?_⟩, q⟩ (by simpa [PyData.shown] using h4)
    simp only [PyData.shown]
  | lst _ _ =>
    cases ru
    exact repr_of_reads' rd h1 (fun z => by rw [h2] at z; cases z) hg (by omega) (fun _ _ e => e) (fun h' u tk hk => ⟨.str _, H, I.kept hk, ⟨_, rfl⟩, q⟩) h4
  | tup _ _ =>
    cases ru
    exact repr_of_reads' rd h1 (fun z => by rw [h2] at z; cases z) hg (by omega) (fun _ _ e => e) (fun h' u tk hk => ⟨.str _, H, I.kept hk, ⟨_, rfl⟩, q⟩) h4
theorem b1x_repr (hu : X.A.units + 66 < cLine) (hg : X.A.guards = some []) : CallR X (.builtin "repr") (rB1x X.K .repr) := by
  refine CallR.weak (b1_repr hu hg) fun xs H Q q => ?_
  rcases q with ⟨x, rfl, Z, dx, r, zl, hx, e, w⟩ | ⟨_, _, _, _, q⟩
  · have e : shw dx = some r := by cases dx <;> exact e
    unfold shw at e
    split at e
    · rename_i hc
      cases e
      simp only [Bool.and_eq_true, decide_eq_true_eq, Bool.not_eq_true'] at hc
      exact ⟨x, dx, rfl, hx.dp hc.2, hc.1.1.1, hc.2, hc.1.2, hc.1.1.2, w.1 _ (.str _)⟩
    · cases e
  · exact q.elim
end
/-- the law's call, at the heap behind the top -/
theorem topG {P : Program} {w : World} {K : PySem.W.Frag} {mg mb : Str → Option Value} {k : Nat} {fa a : Addr} {fd : FuncData} {x : Str} {sp : Sp} {s₁ : Shared} {vs : List Value} {ns : List Int} {CX : CXT}
    (kin : K.In s₁.heap) (gl : s₁.heap.Ns mainGlobals mg) (bl : s₁.heap.Ns builtinsNs mb) (bb : ∀ x : Str, x ≠ "__name__" → mb x = bootBuiltins x) (lim : s₁.heap.NoLimit) (ng : s₁.gens = #[])
    (ha : s₁.heap.get? a = some { cls := .type "list", data := .seq vs.toArray }) (hi : IntsAre vs ns) (hl : ns.length ≤ sizeLine) (hr : Room k callerA)
    (F : ∀ base : Heap, K.In base → base.Ns mainGlobals mg → FnG P w K mg base CX k fa fd [x] sp) (hbind : ∀ (s : Shared) (u : Value), BindsTo s fd ⟨[u], []⟩ [(x, u)])
    (hsp : ∀ H : Hp, (∀ b u, H b = some u → b = a ∧ ∃ o, u = .frz o (.lst (ns.map V.int))) → RdL K H a (ns.map V.int) → sp [.ref a] H (fun v _ => v = .bl true) fun _ _ _ => False)
    (hCX : ∀ H e s', CX [] H s₁ (fun _ _ _ => False) e s' → False) :
    codeAny (model P w) callerA (.call (.ref fa) ⟨[.ref a], []⟩) (fun r s' => r = .ok (.ret (.bool true)) ∧ OldK s₁.heap s'.heap ∧ s'.os = s₁.os ∧ AllBare s'.gens) s₁ := by
  have rv := vals_ints hi
  have lenv : vs.length = ns.length := hi.length
  obtain ⟨H, hH, hS, hK⟩ : ∃ H : Hp, (∀ b u, H b = some u → b = a ∧ u = .frz { cls := .type "list", data := .seq vs.toArray } (.lst (ns.map V.int))) ∧ RdL K H a (ns.map V.int) ∧ ∀ b o, K.lookup b = some o → H b = none := by
    cases q : K.lookup a with
    | some o =>
      have e := kin a o q
      rw [ha] at e
      cases e
      exact ⟨fun _ => none, fun b u e => (nomatch e), .inr ⟨_, vs.toArray, _, q, rfl, rfl, rfl, by rw [List.size_toArray, lenv]; exact hl, by simpa using rv⟩, fun _ _ _ => rfl⟩
    | none =>
      refine ⟨fun b => if b = a then some (.frz { cls := .type "list", data := .seq vs.toArray } (.lst (ns.map V.int))) else none, fun b u e => ?_, .inl ⟨_, if_pos rfl⟩, fun b o e => if_neg fun z => ?_⟩
      · by_cases z : b = a
        · have e := (if_pos z).symm.trans e
          cases e; exact ⟨z, rfl⟩
        · have e := (if_neg z).symm.trans e
          cases e
      · rw [z, q] at e; cases e
  have hok : HOk P w H s₁.heap := fun b u e => by
    obtain ⟨rfl, rfl⟩ := hH b u e
    exact ⟨ha, by rw [List.length_map]; exact hl, vs, _, rv, ha⟩
  have nodict : ∀ {b : Addr} {o : Obj} {es : Array DictEntry} {ep : Nat}, s₁.heap.get? b = some o → o.data = .dict es ep → H b = none := fun {b o es ep} e d => by
    cases q : H b with
    | none => rfl
    | some u =>
      obtain ⟨rfl, _⟩ := hH b u q
      rw [ha] at e
      cases e
      exact absurd (show Data.seq vs.toArray _ = Data.dict es ep from d) (fun z => nomatch z)
  have ns' : ∀ {b : Addr} {m : Str → Option Value}, s₁.heap.Ns b m → (hidT s₁.heap H).Ns b m := fun ⟨o, es, ep, e, d, r⟩ => ⟨o, es, ep, hidT_get e (nodict e d), d, r⟩
  have kb : K.In (hidT s₁.heap H) := fun b o e => hidT_get (kin b o e) (hK b o e)
  obtain ⟨mc, l1, l2⟩ := lim
  have e0 : Env0 P w K mg (hidT s₁.heap H) callerA [] s₁ H := {
    frames := rfl
    mod := ⟨kb, ns' gl, ⟨mb, ns' bl, bb⟩, mc, ns' l1, l2⟩
    bs := fun b o e => of_hidT e
    bsz := Nat.le_of_eq (hidT_size _ _)
    funs := trivial
    frf := fun b hb => absurd (show b ∈ ([] : List Addr) from hb) (by simp)
    hok := hok
    bare := .of_eq ng }
  have hsp := hsp H (fun b u e => let ⟨h1, h2⟩ := hH b u e; ⟨h1, _, h2⟩) hS
  refine codeAny_mono ((F _ kb (ns' gl)).run callerA [] s₁ H ⟨[.ref a], []⟩ [.ref a] [.ref a] _ _ hr rfl e0 (hbind s₁ (.ref a)) (.cons rfl .nil) hsp) ?_
  intro res s' h
  match res, h with
  | .error e, h => exact (hCX H e s' h).elim
  | .ok .next, h => exact h.elim
  | .ok .brk, h => exact h.elim
  | .ok .cont, h => exact h.elim
  | .ok (.ret u), ⟨v, H', os, bare, un, hok', r', q⟩ =>
    cases (show v = .bl true from q)
    cases (show u = Value.bool true from r')
    refine ⟨rfl, OldK.of_keep fun b o e => ?_, os, bare⟩
    cases q : H b with
    | none => exact un.keep b o e q (fun z => absurd (show b ∈ ([] : List Addr) from z) (by simp)) (by simp)
    | some u =>
      obtain ⟨rfl, rfl⟩ := hH b u q
      obtain ⟨e2, _⟩ := hok' b _ (un.frzs b _ _ q)
      rw [ha] at e
      cases e
      exact e2
theorem walkG {l : PySem.W.OpenLaw} {n k : Nat} {q : Program} {loose : List Str} {XP : (Str → Option Value) → Heap → Prop} {YP : World → Heap → Prop} {d : DefRec} {K : Params → PySem.W.Frag} {CX : World → CXT} {sp : World → Sp} {x : Str}
    (hn : l.most = some n) (hn2 : n ≤ sizeLine) (hdf : d.params.defaults = []) (hr : Room k callerA) (hY : ∀ (w : World) (h : Heap), YP w h → (K w.params).In h)
    (F : ∀ (w : World) (mg : Str → Option Value) (fa : Addr) (h : Heap), (K w.params).In h → h.Ns mainGlobals mg → mg d.name = some (.ref fa) →
      ∃ fd : FuncData, (∀ (s : Shared) (u : Value), BindsTo s fd ⟨[u], []⟩ [(x, u)]) ∧ ∀ base : Heap, (K w.params).In base → base.Ns mainGlobals mg → FnG l.prog w (K w.params) mg base (CX w) k fa fd [x] (sp w))
    (hsp : ∀ (w : World) (H : Hp) (a : Addr) (ns : List Int), ns.length ≤ n → (∀ b u, H b = some u → b = a ∧ ∃ o, u = .frz o (.lst (ns.map V.int))) → RdL (K w.params) H a (ns.map V.int) → sp w [.ref a] H (fun v _ => v = .bl true) fun _ _ _ => False)
    (hCX : ∀ (w : World) (H : Hp) (s : Shared) (e : Value) (s' : Shared), CX w [] H s (fun _ _ _ => False) e s' → False) : PySem.W.WalkO q loose XP YP l.row.toRowW d [] (fun f vs => PySem.call f vs) := by
  refine Att.attach_call hn hdf ?_
  intro w s₀ s₁ mg mb fa o pm cd doc a vs ns G Y ho hd hcd hmg hobj hints hlen hg
  obtain ⟨fd, hb, hF⟩ := F w mg fa _ (hY w _ Y) G.T.g hmg
  exact topG (hY w _ Y) G.T.g G.T.b G.T.builtins G.T.nolimit hg hobj hints (Nat.le_trans hlen hn2) hr hF hb (fun H h1 h2 => hsp w H a ns hlen h1 h2) fun H e s' => hCX w H s₁ e s'
end Ev

/-! Ev, part S: calls and defs. -/
namespace Ev
open PySem PySem.Spec L2 PyProof.Rows

/-- what the arguments' places hold behind a call -/
def outE : List W → List (Option W) → Env
  | .l _ :: ws, o :: os => o :: outE ws os
  | w :: ws, _ :: os => some w :: outE ws os
  | _, _ => []
theorem outE_get : ∀ {ws : List W} {os : List (Option W)} {i : Nat} {w : W}, (outE ws os)[i]? = some (some w) → ∃ u, ws[i]? = some u ∧ (((∃ xs, u = .l xs) ∧ os[i]? = some (some w)) ∨ ((∀ xs, u ≠ .l xs) ∧ w = u))
  | [], _, _, _, h => by simp [outE] at h
  | u :: ws, [], _, _, h => by cases u <;> simp [outE] at h
  | u :: ws, o :: os, 0, w, h => by
    cases u <;> simp [outE] at h
    · exact ⟨_, rfl, .inr ⟨fun xs e => (by cases e), h.symm⟩⟩
    · exact ⟨_, rfl, .inl ⟨⟨_, rfl⟩, by rw [h]; rfl⟩⟩
    · exact ⟨_, rfl, .inr ⟨fun xs e => (by cases e), h.symm⟩⟩
    · exact ⟨_, rfl, .inr ⟨fun xs e => (by cases e), h.symm⟩⟩
    · exact ⟨_, rfl, .inr ⟨fun xs e => (by cases e), h.symm⟩⟩
  | u :: ws, o :: os, i + 1, w, h => by
    have h' : (outE ws os)[i]? = some (some w) := by cases u <;> simpa [outE] using h
    obtain ⟨u', h1, h2⟩ := outE_get h'
    exact ⟨u', by simpa using h1, by simpa using h2⟩
theorem outE_len : ∀ {ws : List W} {os : List (Option W)}, os.length = ws.length → (outE ws os).length = ws.length
  | [], [], _ => rfl
  | [], _ :: _, h => by simp at h
  | _ :: _, [], h => by simp at h
  | u :: ws, o :: os, h => by
    have := outE_len (ws := ws) (os := os) (by simpa using h)
    cases u <;> simp [outE, this]
/-- what a def promises by its meaning s -/
def spS (K : PySem.W.Frag) (fa : Nat → V → Prop) (EX : Nat → PyData → Hp → XK → Prop) (ar : Nat) (s : Sem) : Sp := fun vs H Q E => vs.length = ar ∧ ∃ Z ws, Eok K fa H Z (vs.map some) (ws.map some) ∧ (∀ xs, W.k xs ∉ ws) ∧ match s ws with
  | .ok (r, os) => os.length = ar → ∀ Z' H' v, Sm (fun _ => False) K fa (vs.map some) H Z (ws.map some) (vs.map some) H' Z' (outE ws os) → RvOk K fa H H' Z' [] r v → Q v H'
  | .ex c a => ∀ Mu' Z' H', Stp (Own (vs.map some) (ws.map some)) Z H Mu' Z' H' → EX c a H' E
  | .bad => False
section
variable {K : PySem.W.Frag} {fa : Nat → V → Prop} {H H0 H1 H' : Hp} {Z Z0 Z1 Z' : Addr → Prop} {σ σ' : L2.St} {env env0 env1 : Env} {n : Nat}
theorem map_some {α : Type} {l : List α} {i : Nat} {x : α} : (l.map some)[i]? = some (some x) ↔ l[i]? = some x := by
  rw [List.getElem?_map, Option.map_eq_some_iff]
  constructor
  · rintro ⟨y, h, e⟩; cases e; exact h
  · intro h; exact ⟨x, h, rfl⟩
theorem ext_get {α : Type} {l : List (Option α)} {n i : Nat} {x : α} : (l ++ List.replicate n none)[i]? = some (some x) ↔ l[i]? = some (some x) := by
  by_cases h : i < l.length
  · rw [List.getElem?_append_left h]
  · rw [List.getElem?_append_right (by omega), List.getElem?_replicate, List.getElem?_eq_none (by omega)]
    constructor
    · intro q; split at q <;> cases q
    · intro q; cases q
theorem Own_ext {a : Addr} : Own (σ ++ List.replicate n none) (env ++ List.replicate n none) a ↔ Own σ env a := by
  constructor
  · rintro ⟨i, xs, h1, h2⟩; exact ⟨i, xs, ext_get.mp h1, ext_get.mp h2⟩
  · rintro ⟨i, xs, h1, h2⟩; exact ⟨i, xs, ext_get.mpr h1, ext_get.mpr h2⟩
theorem ownd_ext {i : Nat} : ownd (env ++ List.replicate n none) i ↔ ownd env i := by
  constructor
  · rintro ⟨xs, h | h⟩
    · exact ⟨xs, .inl (ext_get.mp h)⟩
    · exact ⟨xs, .inr (ext_get.mp h)⟩
  · rintro ⟨xs, h | h⟩
    · exact ⟨xs, .inl (ext_get.mpr h)⟩
    · exact ⟨xs, .inr (ext_get.mpr h)⟩
theorem Eok.ext (ok : Eok K fa H Z σ env) (n : Nat) : Eok K fa H Z (σ ++ List.replicate n none) (env ++ List.replicate n none) := by
  refine ⟨fun i w h => ?_, fun i j a o1 o2 e1 e2 => ok.apart i j a (ownd_ext.mp o1) (ownd_ext.mp o2) (ext_get.mp e1) (ext_get.mp e2), ok.zl, by rw [List.length_append, List.length_append, ok.len, List.length_replicate, List.length_replicate]⟩
  obtain ⟨v, h1, h2⟩ := ok.nm i w (ext_get.mp h)
  exact ⟨v, ext_get.mpr h1, h2⟩
/-- a body's end, as its caller sees it -/
theorem Sm.out {S : Nat → Prop} {vs : List V} {ws : List W} {e : Env} (ok : Eok K fa H Z (vs.map some) (ws.map some)) (nk : ∀ xs, W.k xs ∉ ws) (hS : ∀ i xs, ws[i]? = some (W.l xs) → ¬ S i)
    (m : Sm S K fa (vs.map some ++ List.replicate n none) H Z (ws.map some ++ List.replicate n none) σ' H' Z' e) : Sm (fun _ => False) K fa (vs.map some) H Z (ws.map some) (vs.map some) H' Z' (outE ws (e.take ws.length)) := by
  have hl : vs.length = ws.length := by have := ok.len; rw [List.length_map, List.length_map] at this; exact this.symm
  have el : e.length = ws.length + n := by
    rw [m.ok.len, m.len, List.length_append, List.length_map, List.length_replicate, hl]
  have tk : ∀ {i w}, (e.take ws.length)[i]? = some (some w) → e[i]? = some (some w) := fun {i w} h => by
    have : i < ws.length := by
      have := (List.getElem?_eq_some_iff.mp h).1
      rw [List.length_take] at this; omega
    rwa [List.getElem?_take_of_lt this] at h
  have sg : ∀ {i xs}, ws[i]? = some (W.l xs) → σ'[i]? = (vs.map some)[i]? := fun {i xs} h => by
    have hi : i < (vs.map some).length := by
      rw [List.length_map, hl]
      exact (List.getElem?_eq_some_iff.mp h).1
    rw [m.ag i (hS i xs h), List.getElem?_append_left hi]
  have od : ∀ i, ownd (outE ws (e.take ws.length)) i → (∃ xs, ws[i]? = some (W.l xs)) ∧ ownd e i := fun i ⟨zs, h⟩ => by
    have nw : ∀ u, ws[i]? = some u → (∀ xs, u ≠ .l xs) → ¬ (u = .l zs ∨ u = .k zs) := fun u h1 h2 h3 => by
      rcases h3 with rfl | rfl
      · exact h2 zs rfl
      · exact nk zs (List.mem_of_getElem? h1)
    rcases h with h | h
    · obtain ⟨u, h1, ⟨⟨xs, rfl⟩, h2⟩ | ⟨h2, h3⟩⟩ := outE_get h
      · exact ⟨⟨xs, h1⟩, zs, .inl (tk h2)⟩
      · exact (nw u h1 h2 (.inl h3.symm)).elim
    · obtain ⟨u, h1, ⟨⟨xs, rfl⟩, h2⟩ | ⟨h2, h3⟩⟩ := outE_get h
      · exact ⟨⟨xs, h1⟩, zs, .inr (tk h2)⟩
      · exact (nw u h1 h2 (.inr h3.symm)).elim
  have own : ∀ b, Own (vs.map some) (outE ws (e.take ws.length)) b → Own σ' e b := fun b ⟨i, zs, h1, h2⟩ => by
    obtain ⟨u, q1, ⟨⟨xs, rfl⟩, q2⟩ | ⟨q2, q3⟩⟩ := outE_get h1
    · exact ⟨i, zs, tk q2, by rw [sg q1]; exact h2⟩
    · exact (q2 zs q3.symm).elim
  refine ⟨⟨fun a o h q => m.st.keep a o h fun z => q (Own_ext.mp z), m.st.dom, fun a h q => m.st.zold a h fun z => q (Own_ext.mp z), m.st.znew, fun a q => ?_, ok.muz, ok.zl⟩, fun i xs h => ?_, fun i a o e1 => ?_, fun _ _ => rfl, rfl, ⟨fun i w h => ?_, fun i j a o1 o2 e1 e2 => ?_, m.ok.zl, ?_⟩⟩
  · rcases m.st.mnew a (own a q) with z | z
    · exact .inl (Own_ext.mp z)
    · exact .inr z
  · obtain ⟨u, q1, ⟨⟨ys, rfl⟩, q2⟩ | ⟨q2, q3⟩⟩ := outE_get h
    · exact ⟨ext_get.mp (m.kk i xs (tk q2)).1, rfl⟩
    · exact ⟨by rw [q3]; exact map_some.mpr q1, rfl⟩
  · obtain ⟨⟨xs, q1⟩, _⟩ := od i o
    exact .inl ⟨⟨xs, .inl (map_some.mpr q1)⟩, rfl⟩
  · obtain ⟨u, q1, ⟨⟨ys, rfl⟩, q2⟩ | ⟨q2, q3⟩⟩ := outE_get h
    · obtain ⟨v, e1, e2⟩ := m.ok.nm i w (tk q2)
      exact ⟨v, by rw [← sg q1]; exact e1, e2⟩
    · subst q3
      obtain ⟨v, e1, e2⟩ := ok.nm i w (map_some.mpr q1)
      refine ⟨v, e1, ?_⟩
      cases w with
      | d x => exact Fz.step m.st e2
      | l xs => exact (q2 xs rfl).elim
      | k xs => exact (nk xs (List.mem_of_getElem? q1)).elim
      | r xs =>
        obtain ⟨a, us, rfl, h1, h3⟩ := e2
        exact ⟨a, us, rfl, RdL.step m.st h1, FzAll.step m.st h3⟩
      | f n => exact e2
  · obtain ⟨⟨xs, q1⟩, _⟩ := od i o1
    obtain ⟨⟨ys, q2⟩, _⟩ := od j o2
    exact ok.apart i j a ⟨xs, .inl (map_some.mpr q1)⟩ ⟨ys, .inl (map_some.mpr q2)⟩ e1 e2
  · rw [List.length_map, hl]
    exact outE_len (by rw [List.length_take]; omega)
theorem lentOk_get {st : List Nat} : ∀ {ws : List W} {k i : Nat} {xs : List PyData}, lentOk st k ws = true → ws[i]? = some (W.l xs) → k + i ∉ st
  | [], _, _, _, _, h => by simp at h
  | u :: ws, k, 0, xs, h, e => by
    simp at e
    subst e
    unfold lentOk at h
    simp only [Bool.and_eq_true, Bool.not_eq_true'] at h
    intro q
    have := h.1
    simp at this
    exact this q
  | u :: ws, k, i + 1, xs, h, e => by
    have h' : lentOk st (k + 1) ws = true := by
      cases u <;> simp [lentOk] at h
      · exact h
      · exact h.2
      · exact h
      · exact h
      · exact h
    have := lentOk_get (i := i) h' (by simpa using e)
    rw [show k + (i + 1) = k + 1 + i by omega]
    exact this
end
/-- a def's body does what its meaning says -/
theorem def_go {X : Cx} {fa : Nat → V → Prop} {EX : Nat → PyData → Hp → XK → Prop} {G : Tab} {ar : Nat} {body : List MS} {vs : List V} {H : Hp} {Q : VK} {E : XK} {N : List Str} (hN : ar ≤ N.length) (h : spS X.K fa EX ar (runDef G ar N.length body) vs H Q E) :
    tn (fun i => i ∈ stos body) X.K fa (fun c a _ H' => EX c a H' E) G body { nx := fun _ H' => Q .non H', rt := Q } (L2.start N vs) H := by
  obtain ⟨hl, Z, ws, ok, nk, h⟩ := h
  have hlw : ws.length = vs.length := by have := ok.len; rw [List.length_map, List.length_map] at this; exact this
  have es : L2.start N vs = vs.map some ++ List.replicate (N.length - ar) none := by unfold L2.start; rw [hl]
  rw [es]
  refine ⟨Z, ws.map some ++ List.replicate (N.length - ar) none, ok.ext _, ?_⟩
  unfold runDef at h
  by_cases hc : ws.length = ar ∧ lentOk (stos body) 0 ws = true
  · rw [if_pos hc] at h
    obtain ⟨hw, hlo⟩ := hc
    have hS : ∀ i xs, ws[i]? = some (W.l xs) → ¬ i ∈ stos body := fun i xs e => by
      have := lentOk_get hlo e
      rwa [Nat.zero_add] at this
    have ow : ∀ {σ' : L2.St} {H' : Hp} {Z' : Addr → Prop} {e : Env}, Sm (fun i => i ∈ stos body) X.K fa (vs.map some ++ List.replicate (N.length - ar) none) H Z (ws.map some ++ List.replicate (N.length - ar) none) σ' H' Z' e → Sm (fun _ => False) X.K fa (vs.map some) H Z (ws.map some) (vs.map some) H' Z' (outE ws (e.take ar)) := fun m => by
      have := Sm.out ok nk hS m
      rwa [hw] at this
    have tl : ∀ {σ' : L2.St} {H' : Hp} {Z' : Addr → Prop} {e : Env}, Sm (fun i => i ∈ stos body) X.K fa (vs.map some ++ List.replicate (N.length - ar) none) H Z (ws.map some ++ List.replicate (N.length - ar) none) σ' H' Z' e → (e.take ar).length = ar := fun m => by
      have h1 := m.ok.len
      have h2 := m.len
      rw [List.length_append, List.length_map, List.length_replicate] at h2
      rw [List.length_take]
      omega
    revert h
    cases exs G body (ws.map some ++ List.replicate (N.length - ar) none) with
    | nx e => exact fun h σ' Z' H' m => h (tl m) Z' H' .non (ow m) .non
    | ct e => exact fun h => h.elim
    | bk e => exact fun h => h.elim
    | bad => exact fun h => h
    | ex c a =>
      refine fun h σ' Mu' Z' H' s => h Mu' Z' H' ⟨fun b o q n => s.keep b o q fun z => n (Own_ext.mp z), s.dom, fun b q n => s.zold b q fun z => n (Own_ext.mp z), s.znew, fun b q => ?_, ok.muz, ok.zl⟩
      rcases s.mnew b q with z | z
      · exact .inl (Own_ext.mp z)
      · exact .inr z
    | rt e r =>
      dsimp only
      cases hg : giveR e ar r with
      | none => exact fun h => h.elim
      | some p =>
        obtain ⟨e', r'⟩ := p
        intro h σ' Z' H' v m hr
        dsimp only at h
        cases r with
        | v x => cases hg; exact h (tl m) Z' H' v (ow m) hr
        | n xs => cases hg; exact h (tl m) Z' H' v (ow m) hr
        | f t => cases hg; exact h (tl m) Z' H' v (ow m) hr
        | r xs => cases hg
        | p i =>
          have hr : σ'[i]? = some (some v) := hr
          unfold giveR at hg
          dsimp only at hg
          split at hg
          · rename_i xs hx
            obtain ⟨a, us, ea, h1, h3⟩ := m.ok.own hx
            rw [hr] at ea
            cases ea
            split at hg
            · cases hg
              obtain ⟨a', us', ea', q1, q2, _, m2⟩ := (Mid.refl m.ok).freezeN hx
              rw [hr] at ea'
              cases ea'
              have m3 := m.trans m2.sm
              exact h (tl m3) _ H' _ (ow m3) (.lst q1 (fun z => z.2 rfl) q2)
            · rename_i hi
              cases hg
              have ht : (e.set i none).take ar = e.take ar := by
                apply List.ext_getElem?
                intro j
                by_cases hj : j < ar
                · rw [List.getElem?_take_of_lt hj, List.getElem?_take_of_lt hj, List.getElem?_set_ne (by omega)]
                · rw [List.getElem?_eq_none (by rw [List.length_take]; omega), List.getElem?_eq_none (by rw [List.length_take]; omega)]
              rw [ht] at h
              refine h (tl m) Z' H' _ (ow m) ⟨a, us, rfl, h1, (m.ok.slot ⟨xs, .inl hx⟩ hr).1, ?_, h3⟩
              rcases m.ow i a ⟨xs, .inl hx⟩ hr with ⟨o, _⟩ | q
              · exfalso
                obtain ⟨zs, o⟩ := ownd_ext.mp o
                have : i < (ws.map some).length := by
                  rcases o with o | o <;> exact (List.getElem?_eq_some_iff.mp o).1
                rw [List.length_map] at this
                omega
              · exact q
          · rename_i x hx
            cases hg
            obtain ⟨u, e1, e2⟩ := m.ok.nm i _ hx
            rw [hr] at e1
            cases e1
            exact h (tl m) Z' H' _ (ow m) e2
          · cases hg
  · rw [if_neg hc] at h
    exact h.elim
end Ev

/-! Ev, part T: calls, from the caller's side. -/
namespace Ev
open PySem PySem.Spec L2 PyProof.Rows

/-- an argument as it is lent -/
inductive LendR (env : Env) : Rv → W → Prop
  | v (x : PyData) : LendR env (.v x) (.d x)
  | n (xs : List PyData) : LendR env (.n xs) (.d (.list xs))
  | r (xs : List PyData) : LendR env (.r xs) (.r xs)
  | f (n : Nat) : LendR env (.f n) (.f n)
  | pl {i : Nat} {xs : List PyData} : env[i]? = some (some (W.l xs)) → LendR env (.p i) (.l xs)
  | pd {i : Nat} {x : PyData} : env[i]? = some (some (.d x)) → LendR env (.p i) (.d x)
theorem lend_get : ∀ {rs : List Rv} {ls : List Nat} {ws : List W} {env : Env}, lend env rs ls = some ws → ws.length = rs.length ∧ (∀ (j : Nat) (r : Rv), rs[j]? = some r → ∃ w, ws[j]? = some w ∧ LendR env r w) ∧
    (∀ (j i : Nat) (xs : List PyData), rs[j]? = some (Rv.p i) → env[i]? = some (some (W.l xs)) → i ∉ ls) ∧ (∀ (j j' i : Nat) (xs : List PyData), rs[j]? = some (Rv.p i) → rs[j']? = some (Rv.p i) → env[i]? = some (some (W.l xs)) → j = j')
  | [], _, _, _, h => by
    cases h
    exact ⟨rfl, fun j r e => by simp at e, fun j i xs e => by simp at e, fun j j' i xs e => by simp at e⟩
  | r :: rs, ls, ws, env, h => by
    have easy : ∀ w : W, (∀ (i : Nat) (xs : List PyData), r = Rv.p i → env[i]? ≠ some (some (W.l xs))) → LendR env r w → lend env (r :: rs) ls = (lend env rs ls).map (w :: ·) → ws.length = (r :: rs).length ∧ (∀ (j : Nat) (q : Rv), (r :: rs)[j]? = some q → ∃ w, ws[j]? = some w ∧ LendR env q w) ∧
        (∀ (j i : Nat) (xs : List PyData), (r :: rs)[j]? = some (Rv.p i) → env[i]? = some (some (W.l xs)) → i ∉ ls) ∧ (∀ (j j' i : Nat) (xs : List PyData), (r :: rs)[j]? = some (Rv.p i) → (r :: rs)[j']? = some (Rv.p i) → env[i]? = some (some (W.l xs)) → j = j') := fun w np hw e => by
      rw [e] at h
      obtain ⟨us, h1, rfl⟩ := Option.map_eq_some_iff.mp h
      obtain ⟨a1, a2, a3, a4⟩ := lend_get h1
      refine ⟨by rw [List.length_cons, List.length_cons, a1], fun j q e => ?_, fun j i xs e1 e2 => ?_, fun j j' i xs e1 e2 e3 => ?_⟩
      · cases j with
        | zero => simp at e; subst e; exact ⟨w, rfl, hw⟩
        | succ j => simpa using a2 j q (by simpa using e)
      · cases j with
        | zero => simp at e1; exact absurd e2 (np i xs e1)
        | succ j => exact a3 j i xs (by simpa using e1) e2
      · cases j with
        | zero => simp at e1; exact absurd e3 (np i xs e1)
        | succ j =>
          cases j' with
          | zero => simp at e2; exact absurd e3 (np i xs e2)
          | succ j' => rw [a4 j j' i xs (by simpa using e1) (by simpa using e2) e3]
    cases r with
    | v x => exact easy _ (fun i xs e => (by cases e)) (.v x) rfl
    | n ys => exact easy _ (fun i xs e => (by cases e)) (.n ys) rfl
    | r ys => exact easy _ (fun i xs e => (by cases e)) (.r ys) rfl
    | f n => exact easy _ (fun i xs e => (by cases e)) (.f n) rfl
    | p i =>
      unfold lend at h
      split at h
      · cases h
      · rename_i hi
        split at h
        · rename_i xs hx
          obtain ⟨us, h1, rfl⟩ := Option.map_eq_some_iff.mp h
          obtain ⟨a1, a2, a3, a4⟩ := lend_get h1
          refine ⟨by rw [List.length_cons, List.length_cons, a1], fun j q e => ?_, fun j k ys e1 e2 => ?_, fun j j' k ys e1 e2 e3 => ?_⟩
          · cases j with
            | zero => simp at e; subst e; exact ⟨_, rfl, .pl hx⟩
            | succ j => simpa using a2 j q (by simpa using e)
          · cases j with
            | zero => simp at e1; subst e1; exact hi
            | succ j => exact fun q => a3 j k ys (by simpa using e1) e2 (List.mem_cons_of_mem _ q)
          · cases j with
            | zero =>
              simp at e1
              subst e1
              cases j' with
              | zero => rfl
              | succ j' => exact absurd List.mem_cons_self (a3 j' i ys (by simpa using e2) e3)
            | succ j =>
              cases j' with
              | zero => simp at e2; subst e2; exact absurd List.mem_cons_self (a3 j i ys (by simpa using e1) e3)
              | succ j' => rw [a4 j j' k ys (by simpa using e1) (by simpa using e2) e3]
        · rename_i x hx
          refine easy (.d x) (fun k xs e e2 => ?_) (.pd hx) ?_
          · cases e; rw [hx] at e2; cases e2
          · show (if i ∈ ls then none else _) = _
            rw [if_neg hi, hx]
        · cases h
theorem back_len : ∀ {rs : List Rv} {os : List (Option W)} {env : Env}, (back env rs os).length = env.length
  | [], os, env => by cases os <;> rfl
  | r :: rs, [], env => by cases r <;> rfl
  | r :: rs, o :: os, env => by
    cases r <;> simp only [back] <;> rw [back_len]
    split
    · rw [List.length_set]
    · rfl
/-- a name that was not lent is as it was -/
theorem back_out : ∀ {rs : List Rv} {os : List (Option W)} {env : Env} {i : Nat}, (∀ (j : Nat) (xs : List PyData), rs[j]? = some (Rv.p i) → env[i]? ≠ some (some (W.l xs))) → (back env rs os)[i]? = env[i]?
  | [], os, env, i, _ => by cases os <;> rfl
  | r :: rs, [], env, i, _ => by cases r <;> rfl
  | r :: rs, o :: os, env, i, h => by
    have ht : ∀ (j : Nat) (xs : List PyData), rs[j]? = some (Rv.p i) → env[i]? ≠ some (some (W.l xs)) := fun j xs e => h (j + 1) xs (by simpa using e)
    cases r with
    | v x =>
      show (back env rs os)[i]? = _
      exact back_out ht
    | n x =>
      show (back env rs os)[i]? = _
      exact back_out ht
    | r x =>
      show (back env rs os)[i]? = _
      exact back_out ht
    | f x =>
      show (back env rs os)[i]? = _
      exact back_out ht
    | p k =>
      show (back (match env[k]? with
        | some (some (W.l _)) => env.set k o
        | _ => env) rs os)[i]? = _
      split
      · rename_i xs hk
        have ne : k ≠ i := fun e => by subst e; exact h 0 xs rfl hk
        rw [back_out fun j xs e => by rw [List.getElem?_set_ne ne]; exact ht j xs e, List.getElem?_set_ne ne]
      · exact back_out ht
/-- a name that was lent holds what came back -/
theorem back_in : ∀ {rs : List Rv} {os : List (Option W)} {env : Env} {i j : Nat} {xs : List PyData} {o : Option W}, rs[j]? = some (Rv.p i) → env[i]? = some (some (W.l xs)) → os[j]? = some o → (∀ j' : Nat, rs[j']? = some (Rv.p i) → j' = j) → (back env rs os)[i]? = some o
  | [], _, _, _, _, _, _, h, _, _, _ => by simp at h
  | _ :: _, [], _, _, _, _, _, _, _, h, _ => by simp at h
  | r :: rs, o' :: os, env, i, 0, xs, o, h1, h2, h3, h4 => by
    simp at h1 h3
    subst h1 h3
    show (back (match env[i]? with
        | some (some (W.l _)) => env.set i o'
        | _ => env) rs os)[i]? = _
    rw [h2]
    have hi : i < env.length := (List.getElem?_eq_some_iff.mp h2).1
    rw [back_out fun j xs e => ?_]
    · exact List.getElem?_set_self hi
    · have := h4 (j + 1) (by simpa using e)
      omega
  | r :: rs, o' :: os, env, i, j + 1, xs, o, h1, h2, h3, h4 => by
    have ht : ∀ j' : Nat, rs[j']? = some (Rv.p i) → j' = j := fun j' e => by
      have := h4 (j' + 1) (by simpa using e)
      omega
    have h1' : rs[j]? = some (Rv.p i) := by simpa using h1
    have h3' : os[j]? = some o := by simpa using h3
    cases r with
    | v x =>
      show (back env rs os)[i]? = _
      exact back_in h1' h2 h3' ht
    | n x =>
      show (back env rs os)[i]? = _
      exact back_in h1' h2 h3' ht
    | r x =>
      show (back env rs os)[i]? = _
      exact back_in h1' h2 h3' ht
    | f x =>
      show (back env rs os)[i]? = _
      exact back_in h1' h2 h3' ht
    | p k =>
      have ne : k ≠ i := fun e => by
        subst e
        have := h4 0 rfl
        omega
      show (back (match env[k]? with
        | some (some (W.l _)) => env.set k o'
        | _ => env) rs os)[i]? = _
      split
      · exact back_in h1' (by rw [List.getElem?_set_ne ne]; exact h2) h3' ht
      · exact back_in h1' h2 h3' ht
section
variable {K : PySem.W.Frag} {fa : Nat → V → Prop} {H H0 H1 H' : Hp} {Z Z0 Z1 Z' : Addr → Prop} {σ σ' : L2.St} {env env0 env1 : Env} {rs : List Rv} {vs : List V} {ws : List W}
/-- new lists are frozen -/
theorem Mid.lessN (m : Mid K fa σ H0 Z0 env0 H Z env) {N : Addr → Prop} (h : ∀ a, N a → H0 a = none) : Mid K fa σ H0 Z0 env0 H (fun a => Z a ∧ ¬ N a) env := by
  have no : ∀ i a, ownd env i → σ[i]? = some (some (V.ref a)) → ¬ N a := fun i a o e q => by
    obtain ⟨us, z⟩ := m.sl i a o e
    rw [h a q] at z; cases z
  have s : ∀ a, (Z a ∧ ¬ N a) → Z a := fun a q => q.1
  refine ⟨⟨m.st.keep, m.st.dom, fun a z q => ⟨m.st.zold a z q, fun n => ?_⟩, fun a z => m.st.znew a z.1, m.st.mnew, m.st.muz, m.st.zl⟩, m.mo, m.mw, m.sl, m.kk, ⟨fun i w e => ?_, m.ok.apart, fun a z => m.ok.zl a z.1, m.ok.len⟩⟩
  · obtain ⟨us, e⟩ := m.st.zl a z
    rw [h a n] at e; cases e
  · obtain ⟨v, e1, e2⟩ := m.ok.nm i w e
    refine ⟨v, e1, ?_⟩
    cases w with
    | d x => exact Fz.sub s e2
    | l xs =>
      obtain ⟨a, us, rfl, q1, q2, q3⟩ := e2
      exact ⟨a, us, rfl, q1, ⟨q2, no i a ⟨xs, .inl e⟩ e1⟩, q3.sub s⟩
    | k xs =>
      obtain ⟨a, us, rfl, q1, q2, q3⟩ := e2
      exact ⟨a, us, rfl, q1, ⟨q2, no i a ⟨xs, .inr e⟩ e1⟩, q3.sub s⟩
    | r xs =>
      obtain ⟨a, us, rfl, q1, q3⟩ := e2
      exact ⟨a, us, rfl, q1, q3.sub s⟩
    | f n => exact e2
/-- the arguments, as the callee takes them -/
theorem lend_ok (m : Mid K fa σ H0 Z0 env0 H Z env) (h : RvsOk K fa H0 H Z σ rs vs) (e : lend env rs [] = some ws) : ∃ Z1, Mid K fa σ H0 Z0 env0 H Z1 env ∧ Eok K fa H Z1 (vs.map some) (ws.map some) ∧ (∀ xs, W.k xs ∉ ws) ∧ (∀ a, Own (vs.map some) (ws.map some) a → Own σ env a) ∧
    ∀ (j i : Nat) (xs : List PyData), rs[j]? = some (Rv.p i) → env[i]? = some (some (W.l xs)) → ws[j]? = some (W.l xs) ∧ σ[i]? = (vs.map some)[j]? := by
  obtain ⟨h1, h2, _, h4⟩ := lend_get e
  have m1 := m.lessN (N := Nw rs vs) fun a q => (h.nw q).2.1
  have hlen := h.length
  have back : ∀ j w, ws[j]? = some w → ∃ r v, rs[j]? = some r ∧ vs[j]? = some v ∧ LendR env r w ∧ RvOk K fa H0 H Z σ r v := fun j w ej => by
    have hj : j < rs.length := by rw [← h1]; exact (List.getElem?_eq_some_iff.mp ej).1
    obtain ⟨w', e1, e2⟩ := h2 j rs[j] (List.getElem?_eq_getElem hj)
    rw [ej] at e1; cases e1
    obtain ⟨v, e3, e4⟩ := h.get (List.getElem?_eq_getElem hj)
    exact ⟨_, v, List.getElem?_eq_getElem hj, e3, e2, e4⟩
  have pl : ∀ (j : Nat) (xs : List PyData), ws[j]? = some (W.l xs) → ∃ i, rs[j]? = some (Rv.p i) ∧ env[i]? = some (some (W.l xs)) ∧ σ[i]? = (vs.map some)[j]? := fun j xs ej => by
    obtain ⟨r, v, e1, e2, e3, e4⟩ := back j _ ej
    cases e3 with
    | pl q =>
      refine ⟨_, e1, q, ?_⟩
      have e4 : σ[_]? = some (some v) := e4
      rw [e4, map_some.mpr e2]
  refine ⟨_, m1, ⟨fun j w ej => ?_, fun j j' a o1 o2 e1 e2 => ?_, m1.ok.zl, by rw [List.length_map, List.length_map, h1, hlen]⟩, fun xs q => ?_, fun a ⟨j, xs, e1, e2⟩ => ?_, fun j i xs e1 e2 => ?_⟩
  · obtain ⟨r, v, e1, e2, e3, e4⟩ := back j w (map_some.mp ej)
    refine ⟨v, map_some.mpr e2, ?_⟩
    have s : ∀ a, (Z a ∧ ¬ Nw rs vs a) → Z a := fun a q => q.1
    cases e3 with
    | v x => exact Fz.sub s e4
    | n xs =>
      obtain ⟨a, us, rfl, q1, q2, q3, q4⟩ := e4
      exact .lst q1 (fun z => z.2 ⟨j, xs, e1, e2⟩) (q4.sub s)
    | r xs =>
      obtain ⟨a, us, rfl, q1, q3⟩ := e4
      exact ⟨a, us, rfl, q1, q3.sub s⟩
    | f n => exact e4
    | pl q =>
      obtain ⟨u, q1, q2⟩ := m1.ok.nm _ _ q
      have e4 : σ[_]? = some (some v) := e4
      rw [e4] at q1
      cases q1
      exact q2
    | pd q =>
      obtain ⟨u, q1, q2⟩ := m1.ok.nm _ _ q
      have e4 : σ[_]? = some (some v) := e4
      rw [e4] at q1
      cases q1
      exact q2
  · have lk : ∀ j, ownd (ws.map some) j → ∃ xs, ws[j]? = some (W.l xs) := fun j ⟨xs, q⟩ => by
      rcases q with q | q
      · exact ⟨xs, map_some.mp q⟩
      · obtain ⟨r, v, _, _, e3, _⟩ := back j _ (map_some.mp q)
        cases e3
    obtain ⟨xs, q1⟩ := lk j o1
    obtain ⟨ys, q2⟩ := lk j' o2
    obtain ⟨i, p1, p2, p3⟩ := pl j xs q1
    obtain ⟨i', p1', p2', p3'⟩ := pl j' ys q2
    have : i = i' := m.ok.apart i i' a ⟨xs, .inl p2⟩ ⟨ys, .inl p2'⟩ (by rw [p3]; exact e1) (by rw [p3']; exact e2)
    subst this
    exact h4 j j' i xs p1 p1' p2
  · obtain ⟨j, hj, e⟩ := List.mem_iff_getElem.mp q
    obtain ⟨r, v, _, _, e3, _⟩ := back j (W.k xs) (by rw [List.getElem?_eq_getElem hj, e])
    cases e3
  · obtain ⟨i, p1, p2, p3⟩ := pl j xs (map_some.mp e1)
    exact ⟨i, xs, p2, by rw [p3]; exact e2⟩
  · obtain ⟨w, q1, q2⟩ := h2 j _ e1
    cases q2 with
    | pl q =>
      rw [e2] at q
      cases q
      obtain ⟨i', p1, p2, p3⟩ := pl j xs q1
      rw [e1] at p1
      cases p1
      exact ⟨q1, p3⟩
    | pd q => rw [e2] at q; cases q
/-- behind the call -/
theorem back_ok {os : List (Option W)} (m : Mid K fa σ H0 Z0 env0 H Z env) (ol : os.length = rs.length) (e : lend env rs [] = some ws) (own : ∀ a, Own (vs.map some) (ws.map some) a → Own σ env a)
    (pos : ∀ (j i : Nat) (xs : List PyData), rs[j]? = some (Rv.p i) → env[i]? = some (some (W.l xs)) → ws[j]? = some (W.l xs) ∧ σ[i]? = (vs.map some)[j]?)
    (s : Sm (fun _ => False) K fa (vs.map some) H Z (ws.map some) (vs.map some) H' Z' (outE ws os)) (nk : ∀ xs, W.k xs ∉ ws) : Mid K fa σ H0 Z0 env0 H' Z' (back env rs os) := by
  obtain ⟨h1, h2, _, h4⟩ := lend_get e
  -- each name: lent or not
  have cs : ∀ i : Nat, (∃ (j : Nat) (xs : List PyData) (o : Option W), rs[j]? = some (Rv.p i) ∧ env[i]? = some (some (W.l xs)) ∧ ws[j]? = some (W.l xs) ∧ os[j]? = some o ∧ (outE ws os)[j]? = some o ∧ (back env rs os)[i]? = some o ∧ σ[i]? = (vs.map some)[j]?) ∨ ((∀ (j : Nat) (xs : List PyData), rs[j]? = some (Rv.p i) → env[i]? ≠ some (some (W.l xs))) ∧ (back env rs os)[i]? = env[i]?) := fun i => by
    by_cases q : ∃ (j : Nat) (xs : List PyData), rs[j]? = some (Rv.p i) ∧ env[i]? = some (some (W.l xs))
    · obtain ⟨j, xs, q1, q2⟩ := q
      obtain ⟨p1, p2⟩ := pos j i xs q1 q2
      have hj : j < os.length := by rw [ol]; exact (List.getElem?_eq_some_iff.mp q1).1
      refine .inl ⟨j, xs, os[j], q1, q2, p1, List.getElem?_eq_getElem hj, ?_, back_in q1 q2 (List.getElem?_eq_getElem hj) fun j' e' => h4 j' j i xs e' q1 q2, p2⟩
      have aux : ∀ {ws : List W} {os : List (Option W)} {j : Nat} {xs : List PyData} {o : Option W}, ws[j]? = some (W.l xs) → os[j]? = some o → (outE ws os)[j]? = some o := by
        intro ws
        induction ws with
        | nil => intro os j xs o h; simp at h
        | cons w ws ih =>
          intro os j xs o h h'
          cases os with
          | nil => simp at h'
          | cons o' os =>
            cases j with
            | zero => simp at h h'; subst h h'; rfl
            | succ j =>
              have := ih (os := os) (j := j) (xs := xs) (o := o) (by simpa using h) (by simpa using h')
              cases w <;> simpa [outE] using this
      exact aux p1 (List.getElem?_eq_getElem hj)
    · have q : ∀ (j : Nat) (xs : List PyData), rs[j]? = some (Rv.p i) → env[i]? ≠ some (some (W.l xs)) := fun j xs a b => q ⟨j, xs, a, b⟩
      exact .inr ⟨q, back_out q⟩
  have own2 : ∀ b, Own σ (back env rs os) b → Own σ env b := fun b ⟨i, zs, q1, q2⟩ => by
    rcases cs i with ⟨j, xs, o, p1, p2, _⟩ | ⟨_, p⟩
    · exact ⟨i, xs, p2, q2⟩
    · exact ⟨i, zs, by rw [← p]; exact q1, q2⟩
  have mw2 : ∀ i, ownd (back env rs os) i → ownd env i := fun i ⟨zs, q⟩ => by
    rcases cs i with ⟨j, xs, o, p1, p2, _⟩ | ⟨_, p⟩
    · exact ⟨xs, .inl p2⟩
    · rw [p] at q; exact ⟨zs, q⟩
  have notMu : ∀ i a, ownd env i → (∀ (j : Nat) (xs : List PyData), rs[j]? = some (Rv.p i) → env[i]? ≠ some (some (W.l xs))) → σ[i]? = some (some (V.ref a)) → ¬ Own (vs.map some) (ws.map some) a := fun i a o nl ei ⟨j, xs, q1, q2⟩ => by
    have hj : j < rs.length := by rw [← h1]; exact (List.getElem?_eq_some_iff.mp (map_some.mp q1)).1
    obtain ⟨w, p1, p2⟩ := h2 j rs[j] (List.getElem?_eq_getElem hj)
    rw [map_some.mp q1] at p1
    cases p1
    generalize hr : rs[j] = r at p2
    cases p2 with
    | @pl k ys q =>
      have er : rs[j]? = some (Rv.p k) := by rw [List.getElem?_eq_getElem hj, hr]
      obtain ⟨_, p4⟩ := pos j k _ er q
      have : i = k := m.ok.apart i k a o ⟨_, .inl q⟩ ei (by rw [p4]; exact q2)
      subst this
      exact nl j _ er q
  refine ⟨?_, fun a q => m.mo a (own2 a q), fun i q => m.mw i (mw2 i q), fun i a q ei => m.sl i a (mw2 i q) ei, fun i xs q => ?_, ⟨fun i w q => ?_, fun i j a o1 o2 => m.ok.apart i j a (mw2 i o1) (mw2 j o2), s.ok.zl, by rw [back_len]; exact m.ok.len⟩⟩
  · refine m.st.trans ⟨fun a o h n => s.st.keep a o h fun z => n (own a z), s.st.dom, fun a h n => s.st.zold a h fun z => n (own a z), s.st.znew, fun a q => .inl (own2 a q), m.ok.muz, m.ok.zl⟩
  · rcases cs i with ⟨j, ys, o, p1, p2, p3, p4, p5, p6, p7⟩ | ⟨_, p⟩
    · rw [p6] at q
      cases q
      have := (s.kk j xs p5).1
      rw [map_some] at this
      exact (nk xs (List.mem_of_getElem? this)).elim
    · rw [p] at q; exact m.kk i xs q
  · rcases cs i with ⟨j, ys, o, p1, p2, p3, p4, p5, p6, p7⟩ | ⟨nl, p⟩
    · rw [p6] at q
      cases q
      obtain ⟨v, e1, e2⟩ := s.ok.nm j w p5
      exact ⟨v, by rw [p7]; exact e1, e2⟩
    · rw [p] at q
      obtain ⟨v, e1, e2⟩ := m.ok.nm i w q
      refine ⟨v, e1, ?_⟩
      cases w with
      | d x => exact Fz.step s.st e2
      | l xs =>
        obtain ⟨a, us, rfl, q1, q2, q3⟩ := e2
        have n := notMu i a ⟨xs, .inl q⟩ nl e1
        exact ⟨a, us, rfl, s.st.keep a _ q1 n, s.st.zold a q2 n, q3.step s.st⟩
      | k xs =>
        obtain ⟨a, us, rfl, q1, q2, q3⟩ := e2
        have n := notMu i a ⟨xs, .inr q⟩ nl e1
        exact ⟨a, us, rfl, s.st.keep a _ q1 n, s.st.zold a q2 n, q3.step s.st⟩
      | r xs =>
        obtain ⟨a, us, rfl, q1, q3⟩ := e2
        exact ⟨a, us, rfl, RdL.step s.st q1, q3.step s.st⟩
      | f n => exact e2
end
/-- a call of a def -/
theorem s_call_rd {X : Cx} {fa : Nat → V → Prop} {EX : Nat → PyData → Hp → XK → Prop} {G : Tab} {E : XK} {n ar : Nat} {sm : Sem} {ms : List ME} (hG : G n = some sm) (har : ∀ env p, evs G ms env = .ok p → p.2.length = ar) {σ : L2.St} {H : Hp} {Q : VK}
    (hh : tE X.K fa (fun c a _ H' => EX c a H' E) G (.call n ms) σ H Q) : tFn (spS X.K fa EX ar sm) E (tA X.K fa (fun c a _ H' => EX c a H' E) G ms) σ H Q := by
  obtain ⟨Z, env, ok, h⟩ := hh
  unfold ev at h
  rw [hG] at h
  dsimp only at h
  have hl0 : ∀ p, evs G ms env = .ok p → p.2.length = ar := har env
  refine ⟨Z, env, ok, ?_⟩
  revert h hl0
  cases evs G ms env with
  | bad => exact fun z _ => z
  | ex c a => exact fun z _ => z
  | ok p =>
    intro hf hl0
    have hl0 := hl0 p rfl
    intro Z1 H1 vs m hr
    simp only [Rs.bind] at hf
    unfold callW at hf
    cases hl : lend p.1 p.2 [] with
    | none => rw [hl] at hf; exact hf.elim
    | some ws =>
      rw [hl] at hf
      dsimp only at hf
      obtain ⟨Z2, m2, okA, nk, own, pos⟩ := lend_ok m hr hl
      have hlen := hr.length
      refine ⟨by omega, Z2, ws, okA, nk, ?_⟩
      revert hf
      cases sm ws with
      | bad => exact fun z => z
      | ex c a =>
        dsimp only
        split
        · intro hf Mu' Z' H' s
          refine hf Mu' Z' H' (m2.st.trans ⟨fun b o q n => s.keep b o q fun z => n (own b z), s.dom, fun b q n => s.zold b q fun z => n (own b z), s.znew, fun b q => ?_, m2.ok.muz, m2.ok.zl⟩)
          rcases s.mnew b q with q | q
          · exact .inl (own b q)
          · exact .inr q
        · exact fun z => z.elim
      | ok q =>
        obtain ⟨r, os⟩ := q
        dsimp only
        split
        · rename_i ho
          intro hf _ Z' H' v s hv
          refine hf Z' H' v (back_ok m2 ho hl own pos s nk) ?_
          cases r with
          | v x => exact hv
          | n xs =>
            obtain ⟨a, us, rfl, q1, q2, q3, q4⟩ := hv
            exact ⟨a, us, rfl, q1, q2, m2.fresh q3, q4⟩
          | p i => exact absurd (show ([] : L2.St)[i]? = some (some v) from hv) (by simp)
          | r xs => exact hv
          | f k => exact hv
        · exact fun z => z.elim
theorem s_call {X : Cx} {fa : Nat → V → Prop} {EX : Nat → PyData → Hp → XK → Prop} {G : Tab} {E : XK} {n ar : Nat} {sm : Sem} {e : Expr} {ms : List ME} (hG : G n = some sm) (hP : PE X e (tFn (spS X.K fa EX ar sm) E (tA X.K fa (fun c a _ H' => EX c a H' E) G ms))) (har : ∀ env p, evs G ms env = .ok p → p.2.length = ar) :
    PE X e (tE X.K fa (fun c a _ H' => EX c a H' E) G (.call n ms)) := PE.weak hP fun σ H Q h => s_call_rd hG har h
theorem evs_len {G : Tab} : ∀ {ms : List ME} {env : Env} {p : Env × List Rv}, evs G ms env = .ok p → p.2.length = ms.length
  | [], env, p, h => by unfold evs at h; cases h; rfl
  | m :: ms, env, p, h => by
    unfold evs at h
    cases h1 : ev G m env with
    | bad => rw [h1] at h; cases h
    | ex c a => rw [h1] at h; cases h
    | ok q =>
      rw [h1] at h
      simp only [Rs.bind] at h
      cases h2 : evs G ms q.1 with
      | bad => rw [h2] at h; cases h
      | ex c a => rw [h2] at h; cases h
      | ok t =>
        rw [h2] at h
        cases h
        show t.2.length + 1 = ms.length + 1
        rw [evs_len h2]
theorem lend_len : ∀ {rs : List Rv} {env : Env} {ls : List Nat} {ws : List W}, lend env rs ls = some ws → ws.length = rs.length
  | [], _, _, ws, h => by cases h; rfl
  | .v x :: r, env, ls, ws, h => by
    obtain ⟨us, h1, rfl⟩ := Option.map_eq_some_iff.mp (show (lend env r ls).map (.d x :: ·) = some ws from h)
    rw [List.length_cons, List.length_cons, lend_len h1]
  | .n xs :: r, env, ls, ws, h => by
    obtain ⟨us, h1, rfl⟩ := Option.map_eq_some_iff.mp (show (lend env r ls).map (.d (.list xs) :: ·) = some ws from h)
    rw [List.length_cons, List.length_cons, lend_len h1]
  | .r xs :: r, env, ls, ws, h => by
    obtain ⟨us, h1, rfl⟩ := Option.map_eq_some_iff.mp (show (lend env r ls).map (.r xs :: ·) = some ws from h)
    rw [List.length_cons, List.length_cons, lend_len h1]
  | .f n :: r, env, ls, ws, h => by
    obtain ⟨us, h1, rfl⟩ := Option.map_eq_some_iff.mp (show (lend env r ls).map (.f n :: ·) = some ws from h)
    rw [List.length_cons, List.length_cons, lend_len h1]
  | .p i :: r, env, ls, ws, h => by
    unfold lend at h
    split at h
    · cases h
    · split at h
      · obtain ⟨us, h1, rfl⟩ := Option.map_eq_some_iff.mp h
        rw [List.length_cons, List.length_cons, lend_len h1]
      · obtain ⟨us, h1, rfl⟩ := Option.map_eq_some_iff.mp h
        rw [List.length_cons, List.length_cons, lend_len h1]
      · cases h
/-- a call of what a name holds -/
theorem s_callv {X : Cx} {fa : Nat → V → Prop} {EX : Nat → PyData → Hp → XK → Prop} {G : Tab} {E : XK} {tb : List (Str × Nat)} {i : Nat} {e : Expr} {ms : List ME} (hP : PE X e (tFnV X E i (tA X.K fa (fun c a _ H' => EX c a H' E) G ms)))
    (hv : ∀ x n f sm, tb.lookup x = some n → PySem.W.nsIn X.K mainGlobals x = some (some (.ref f)) → G n = some sm → ∃ (fd : FuncData) (ps : List Str) (k ar : Nat) (CX : CXT), FnG X.prog X.w X.K X.mg X.base CX k f fd ps (spS X.K fa EX ar sm) ∧ Room k X.A ∧ PySem.W.keepIn X.K (.ref f) = true ∧ Binds X.K fd ps [] ∧ Passes CX X E ∧ ∀ ws, ws.length ≠ ar → sm ws = .bad) :
    PE X e (tE X.K fa (fun c a _ H' => EX c a H' E) G (.callv tb i ms)) := by
  refine PE.weak hP fun σ H Q ⟨Z, env, ok, h⟩ => ?_
  unfold ev at h
  split at h <;> try (exact h.elim)
  rename_i x hn
  cases hT : tb.lookup x with
  | none => rw [hT] at h; exact h.elim
  | some n =>
  rw [hT] at h
  dsimp only at h
  cases hG : G n with
  | none => rw [hG] at h; exact h.elim
  | some sm =>
    rw [hG] at h
    dsimp only at h
    obtain ⟨v, e1, fv⟩ := ok.nm i _ hn
    obtain ⟨f, rfl, hns⟩ : ∃ f, v = V.ref f ∧ PySem.W.nsIn X.K mainGlobals x = some (some (.ref f)) := by
      have fv : Fz X.K H Z v (.dict [(.str x, .none)]) := fv
      cases fv with
      | fn h => exact ⟨_, rfl, h⟩
    obtain ⟨fd, ps, k, ar, CX, F, hr, hk, hb, hx, hbad⟩ := hv x n f sm hT hns hG
    refine ⟨f, fd, ps, _, k, CX, e1, F, hr, hk, hb, hx, ?_⟩
    by_cases hl : ms.length = ar
    · refine s_call_rd hG (fun env p hp => by rw [evs_len hp]; exact hl) ⟨Z, env, ok, ?_⟩
      unfold ev
      rw [hG]
      exact h
    · refine ⟨Z, env, ok, ?_⟩
      revert h
      cases he : evs G ms env with
      | bad => exact fun z => z
      | ex c a => exact fun z => z
      | ok p =>
        intro h
        exfalso
        simp only [Rs.bind] at h
        unfold callW at h
        cases hq : lend p.1 p.2 [] with
        | none => rw [hq] at h; exact h.elim
        | some ws =>
          rw [hq] at h
          dsimp only at h
          rw [hbad ws (by rw [lend_len hq, evs_len he]; exact hl)] at h
          exact h.elim
end Ev

/-! Ev, part U: the translation of a text's expressions. -/
namespace Ev
open PySem PySem.Spec L2 PyProof.Rows

def ixOf : List Str → Str → Option Nat
  | [], _ => none
  | y :: r, x => if y = x then some 0 else (ixOf r x).map (· + 1)
def visB (sc : Scope) (x : Str) : Bool := match sc.names.lookup x with
  | some .local => true
  | some .cell => true
  | some .free => true
  | _ => false
def locB (sc : Scope) (fv : Str → Bool) (x : Str) : Bool := match sc.names.lookup x with
  | some .local => true
  | some .cell => fv x
  | _ => false
def lclB (sc : Scope) (x : Str) : Bool := match sc.names.lookup x with
  | some .local => true
  | _ => false
def glB (sc : Scope) (x : Str) : Bool := match sc.names.lookup x with
  | some .globalImplicit => true
  | _ => false
def nmOk (x : Str) : Bool := !(x == ("__debug__" : Str)) && !(x == ("__classdict__" : Str))
def bopR : Operator → Option BOp
  | .Add => some .add | .Sub => some .sub | .Mult => some .mul | .FloorDiv => some .fdiv | .Mod => some .mod | .Pow => some .pow
  | _ => none
def copR : CmpOp → Option COp
  | .Eq => some .eq | .NotEq => some .ne | .Lt => some .lt | .LtE => some .le | .Gt => some .gt | .GtE => some .ge | .Is => some .isN | .IsNot => some .notN | .In => some .inn | .NotIn => some .nin
theorem bopR_of {o : Operator} {p : BOp} (h : bopR o = some p) : opOf p = o := by cases o <;> cases h <;> rfl
theorem copR_of {o : CmpOp} {p : COp} (h : copR o = some p) : cmpOf p = o := by cases o <;> cases h <;> rfl
def many (f : Expr → Option ME) : List Expr → Option (List ME)
  | [] => some []
  | e :: es => match f e, many f es with
    | some m, some ms => some (m :: ms)
    | _, _ => none
def opt (f : Expr → Option ME) : Option Expr → Option (Option ME)
  | none => some none
  | some e => (f e).map some
def conR : Const → Option PyData
  | .none => some .none
  | .bool b => some (.bool b)
  | .int i => some (.int i)
  | .str x => some (.str x)
  | _ => none
/-- built-in functions of one; built-in types of one -/
def fn1 : List (Str × B1) := [("len", .len), ("all", .all), ("any", .any), ("sum", .sum), ("min", .min), ("max", .max), ("sorted", .sorted), ("abs", .abs), ("repr", .repr)]
def ty1 : List (Str × B1) := [("tuple", .tuple), ("list", .list), ("int", .int)]
def fn2 : List (Str × B2) := [("max", .max), ("min", .min)]
def tyR : List (Str × Ty) := [("int", .int), ("bool", .bool), ("str", .str), ("tuple", .tuple)]
def known : List Str := ["len", "all", "any", "sum", "min", "max", "sorted", "abs", "repr", "tuple", "list", "int", "bool", "str", "isinstance", "range", "enumerate", "zip"]
/-- the targets -/
def trG (N : List Str) (sc : Scope) (fv : Str → Bool) : Nat → Expr → Option Tgt
  | 0, _ => none
  | n + 1, e => match e with
    | .Name x _ => if locB sc fv x then (ixOf N x).map .n else none
    | .Tuple es _ _ => (go N sc fv n es).map .t
    | _ => none
where
  go (N : List Str) (sc : Scope) (fv : Str → Bool) (n : Nat) : List Expr → Option (List Tgt)
    | [] => some []
    | e :: es => match trG N sc fv n e, go N sc fv n es with
      | some t, some ts => some (t :: ts)
      | _, _ => none
/-- what is walked -/
def trI (f : Expr → Option ME) (sc : Scope) (tup : Bool) (it : Expr) : Option (Nat × List ME) := match it with
  | .Call (.Name x _) as [] _ => if glB sc x then
      if x = "range" then match as, many f as with
        | [_], some ms => some (1, ms)
        | [_, _], some ms => some (2, ms)
        | [_, _, _], some ms => some (3, ms)
        | _, _ => none
      else if x = "enumerate" then match as, tup, many f as with
        | [_], true, some ms => some (4, ms)
        | _, _, _ => none
      else if x = "zip" then match as, tup, many f as with
        | [_, _], true, some ms => some (5, ms)
        | [_, _, _], true, some ms => some (6, ms)
        | _, _, _ => none
      else (f it).map fun m => (0, [m])
    else (f it).map fun m => (0, [m])
  | it => (f it).map fun m => (0, [m])
def isTup : Expr → Bool
  | .Tuple _ _ _ => true
  | _ => false
def isSlc : Expr → Bool
  | .Slice _ _ _ _ => true
  | _ => false
/-- a block's own names with their places -/
def ownOf (N : List Str) (scope : Scope) : List (Str × Nat) := scope.names.filterMap fun y => match y.2 with
  | .local => (ixOf N y.1).map fun i => (y.1, i)
  | .cell => (ixOf N y.1).map fun i => (y.1, i)
  | _ => none
def blkFn (scope : Scope) : Str → Bool := fun x => scope.names.lookup x == some .cell
section
variable (N : List Str) (fs : List (Str × Nat × Nat)) (cs : List (Str × PyData))
/-- the defs' numbers by their names -/
def tbl (fs : List (Str × Nat × Nat)) : List (Str × Nat) := fs.map fun e => (e.1, e.2.1)
theorem tbl_of {x : Str} {n : Nat} : ∀ {fs : List (Str × Nat × Nat)}, (tbl fs).lookup x = some n → ∃ ar, fs.lookup x = some (n, ar)
  | [], h => by cases h
  | (y, m, ar) :: fs, h => by
    have h : List.lookup x ((y, m) :: tbl fs) = some n := h
    rw [List.lookup_cons] at h
    rw [List.lookup_cons]
    split at h
    · rename_i q; cases h; exact ⟨ar, rfl⟩
    · rename_i q; obtain ⟨ar', e⟩ := tbl_of h; exact ⟨ar', e⟩
def trCall (N : List Str) (f : Expr → Option ME) (sc : Scope) (x : Str) (as : List Expr) : Option ME :=
  if glB sc x && nmOk x && !(x == ("__name__" : Str)) then match fs.lookup x with
    | some (n, ar) => match many f as with
      | some ms => if ms.length = ar then some (.call n ms) else none
      | none => none
    | none => match as with
      | [a] => match fn1.lookup x with
        | some o => (f a).map (.b1 o)
        | none => match ty1.lookup x with
          | some .list => match a with
            | .Call (.Name y _) [b, c] [] _ => if y = "range" ∧ glB sc y = true then match f b, f c with
                | some mb, some mc => some (.lrg mb mc)
                | _, _ => none
              else (f a).map (.b1 .list)
            | .Call (.Name y _) [b] [] _ => if y = "range" ∧ glB sc y = true then match f b with
                | some mb => some (.lrg (.c (.int 0)) mb)
                | none => none
              else (f a).map (.b1 .list)
            | a => (f a).map (.b1 .list)
          | some o => (f a).map (.b1 o)
          | none => none
      | [a, b] => if x = "isinstance" then match b with
          | .Name y _ => if glB sc y && !(y == ("__name__" : Str)) && nmOk y then match f a, tyR.lookup y with
              | some ma, some t => some (.isi ma t)
              | _, _ => none
            else none
          | _ => none
        else match fn2.lookup x, f a, f b with
          | some o, some ma, some mb => some (.b2 o ma mb)
          | _, _, _ => none
      | _ => none
  else if visB sc x && nmOk x then match as with
    | [] => none
    | a :: as => match ixOf N x, many f (a :: as) with
      | some i, some ms => some (.callv (tbl fs) i ms)
      | _, _ => none
  else none
def trMeth (f : Expr → Option ME) (sc : Scope) (x m : Str) (ok : Bool) (as : List Expr) : Option ME :=
  if visB sc x && nmOk x && ok then match ixOf N x, as with
    | some i, [a] => match f a with
      | some ma => if m = "append" then some (.app i ma) else if m = "extend" then some (.ext i ma) else if m = "pop" then some (.popA i ma) else if m = "index" then some (.idx i ma) else none
      | none => none
    | _, _ => none
  else none
mutual
def trE : Nat → Scope → (Str → Bool) → Expr → Option ME
  | 0, _, _, _ => none
  | n + 1, sc, fv, e => match e with
    | .Constant c _ _ => (conR c).map .c
    | .Name x _ => if visB sc x && nmOk x then (ixOf N x).map .v else if glB sc x && nmOk x then match cs.lookup x with
        | some d => some (.c d)
        | none => (fs.lookup x).map fun p => .fn p.1
      else none
    | .Tuple es _ _ => (many (trE n sc fv) es).map .tup
    | .List es _ => (many (trE n sc fv) es).map .lst
    | .BinOp a o b _ => match bopR o, trE n sc fv a, trE n sc fv b with
      | some p, some ma, some mb => some (.bin p ma mb)
      | _, _, _ => none
    | .UnaryOp .USub a _ => (trE n sc fv a).map .neg
    | .UnaryOp .Not a _ => (trE n sc fv a).map .not
    | .Compare a [o] [b] _ => match copR o, trE n sc fv a, trE n sc fv b with
      | some p, some ma, some mb => if behindInMarks o b then none else some (.cmp p ma mb)
      | _, _, _ => none
    | .Compare a [o, o'] [b, c] _ => match copR o, copR o', trE n sc fv a, trE n sc fv b, trE n sc fv c with
      | some p, some p', some ma, some mb, some mc => if lastMarks [o, o'] [b, c] then none else some (.chn p p' ma mb mc)
      | _, _, _, _, _ => none
    | .BoolOp _ [a] _ => trE n sc fv a
    | .BoolOp .And (a :: b :: r) pos => match trE n sc fv a, trE n sc fv (.BoolOp .And (b :: r) pos) with
      | some ma, some mb => some (.and ma mb)
      | _, _ => none
    | .BoolOp .Or (a :: b :: r) pos => match trE n sc fv a, trE n sc fv (.BoolOp .Or (b :: r) pos) with
      | some ma, some mb => some (.or ma mb)
      | _, _ => none
    | .IfExp t a b _ => match trT n sc fv t, trE n sc fv a, trE n sc fv b with
      | some mt, some ma, some mb => some (.ife mt ma mb)
      | _, _, _ => none
    | .Subscript a (.Slice none none (some (.UnaryOp .USub (.Constant (.int 1) _ _) _)) _) _ => (trE n sc fv a).map .rev
    | .Subscript a (.Slice lo hi none _) _ => match trE n sc fv a, opt (trE n sc fv) lo, opt (trE n sc fv) hi with
      | some ma, some ml, some mh => some (.slc ma ml mh)
      | _, _, _ => none
    | .Subscript a b _ => if isSlc b then none else match trE n sc fv a, trE n sc fv b with
      | some ma, some mb => some (.sub ma mb)
      | _, _ => none
    | .Call (.Name x _) as [] _ => trCall fs N (trE n sc fv) sc x as
    | .Call (.Attribute (.Name x _) m p2) as [] pos => trMeth N (trE n sc fv) sc x m (p2.endLine == pos.line) as
    | .ListComp elt [⟨tg, it, ifs, 0⟩] scope _ => match trG N (relS scope sc) (blkFn scope) n tg, trI (trE n sc fv) sc (isTup tg) it, trE n (relS scope sc) (blkFn scope) elt with
      | some t, some (w, its), some me => match ifs with
        | [] => if blkC N sc scope (ownOf N scope) && (stoT t).all ((ownOf N scope).map (·.2)).contains then some (.lc ((ownOf N scope).map (·.2)) t w its [] me) else none
        | [c] => match trT n (relS scope sc) (blkFn scope) c with
          | some mc => if blkC N sc scope (ownOf N scope) && (stoT t).all ((ownOf N scope).map (·.2)).contains then some (.lc ((ownOf N scope).map (·.2)) t w its [mc] me) else none
          | none => none
        | _ => none
      | _, _, _ => none
    | _ => none
def trT : Nat → Scope → (Str → Bool) → Expr → Option ME
  | 0, _, _, _ => none
  | n + 1, sc, fv, e => match e with
    | .UnaryOp .Not a _ => (trT n sc fv a).map .not
    | .BoolOp .And [a] _ => trT n sc fv a
    | .BoolOp .Or [a] _ => trT n sc fv a
    | .BoolOp .And (a :: b :: r) pos => match trT n sc fv a, trT n sc fv (.BoolOp .And (b :: r) pos) with
      | some ma, some mb => some (.and ma mb)
      | _, _ => none
    | .BoolOp .Or (a :: b :: r) pos => match trT n sc fv a, trT n sc fv (.BoolOp .Or (b :: r) pos) with
      | some ma, some mb => some (.or ma mb)
      | _, _ => none
    | .BoolOp _ _ _ => none
    | .IfExp _ _ _ _ => none
    | .Compare a [o] [b] _ => match copR o, trE n sc fv a, trE n sc fv b with
      | some p, some ma, some mb => if behindInMarks o b then none else some (.cmp p ma mb)
      | _, _, _ => none
    | .Compare a [o, o'] [b, c] _ => match copR o, copR o', trE n sc fv a, trE n sc fv b, trE n sc fv c with
      | some p, some p', some ma, some mb, some mc => if lastMarks [o, o'] [b, c] then none else some (.chn p p' ma mb mc)
      | _, _, _, _, _ => none
    | .Compare a [o, o', o''] [b, c, d] _ => match copR o, copR o', copR o'', trE n sc fv a, trE n sc fv b, trE n sc fv c, trE n sc fv d with
      | some p, some p', some p'', some ma, some mb, some mc, some md => if lastMarks [o, o', o''] [b, c, d] then none else some (.ch3 p p' p'' ma mb mc md)
      | _, _, _, _, _, _, _ => none
    | .Compare _ _ _ _ => none
    | e => trE n sc fv e
end
end
/-- the context in which a text is evaluated -/
def FnK (X : Cx) (fa : Nat → V → Prop) (EX : Nat → PyData → Hp → XK → Prop) (G : Tab) (x : Str) (n ar : Nat) : Prop := ∃ (f : Addr) (fd : FuncData) (ps : List Str) (sm : Sem) (k : Nat), G n = some sm ∧ FnG X.prog X.w X.K X.mg X.base (L2.CX X.prog X.w) k f fd ps (spS X.K fa EX ar sm) ∧ Room k X.A ∧
  X.mg x = some (.ref f) ∧ PySem.W.keepIn X.K (.ref f) = true ∧ Binds X.K fd ps [] ∧ ∀ ws, ws.length ≠ ar → sm ws = .bad
structure Good (X : Cx) (fa : Nat → V → Prop) (EX : Nat → PyData → Hp → XK → Prop) (E : XK) (G : Tab) (N : List Str) (fs : List (Str × Nat × Nat)) (cs : List (Str × PyData)) (sc : Scope) (fv : Str → Bool) : Prop where
  hN : X.N = N
  nd : N.Nodup
  hsc : X.env.scope = sc
  fk : sc.kind = .function
  hfn : X.fn = fv
  calm : X.calm = true
  un : X.A.units + 66 < cLine
  gu : X.A.guards = some []
  bl : ∀ x ∈ known, X.mg x = none
  fns : ∀ x n ar, fs.lookup x = some (n, ar) → FnK X fa EX G x n ar
  tk : Takes X (fun cls d _ H => E cls d H)
  gn : ∀ x v, PySem.W.nsIn X.K mainGlobals x = some (some v) → X.mg x = some v
  vfn : ∀ x n ar f, fs.lookup x = some (n, ar) → X.mg x = some (.ref f) → fa n (V.ref f)
  cns : ∀ x d, cs.lookup x = some d → ∃ u v, X.mg x = some u ∧ RelV v u ∧ ∀ H Z, Fz X.K H Z v d
abbrev xx (EX : Nat → PyData → Hp → XK → Prop) (E : XK) : XW := fun c a _ H' => EX c a H' E
section
variable {X : Cx} {fa : Nat → V → Prop} {EX : Nat → PyData → Hp → XK → Prop} {E : XK} {G : Tab} {N : List Str} {fs : List (Str × Nat × Nat)} {cs : List (Str × PyData)} {sc : Scope} {fv : Str → Bool}
theorem Good.blk (g : Good X fa EX E G N fs cs sc fv) {scope : Scope} (hk : scope.kind = .function) (s : Shared) (H : Hp) (C : Addr) (cl : List (Str × Addr)) (fp : List Addr) : Good (X.blk s H scope (compEnvC scope cl C X.env) fp) fa EX (fun _ _ _ => False) G N fs cs (relS scope sc) (blkFn scope) := by
  refine ⟨g.hN, g.nd, ?_, hk, rfl, g.calm, g.un, g.gu, g.bl, fun x n ar h => ?_, fun u s' ⟨_, _, _, _, _, _, _, _, _, _, _, _, _, _, _, _, q⟩ => q.elim, g.gn, g.vfn, g.cns⟩
  · rw [← g.hsc]; rfl
  · obtain ⟨f, fd, ps, sm, k, h1, h2, h3, h4, h5, h6, h7⟩ := g.fns x n ar h
    exact ⟨f, fd, ps, sm, k, h1, h2, h3, h4, h5, h6, h7⟩
/-- what a callee lets out is taken -/
theorem Good.pass (g : Good X fa EX E G N fs cs sc fv) : Passes (L2.CX X.prog X.w) X E := L2.passes_call g.tk fun _ _ _ _ h => h
theorem ixOf_get : ∀ {N : List Str} {x : Str} {i : Nat}, ixOf N x = some i → N[i]? = some x
  | [], _, _, h => by cases h
  | y :: r, x, i, h => by
    unfold ixOf at h
    split at h
    · rename_i e
      cases h
      rw [e]; rfl
    · obtain ⟨j, h1, rfl⟩ := Option.map_eq_some_iff.mp h
      simpa using ixOf_get h1
theorem Good.vis (g : Good X fa EX E G N fs cs sc fv) {x : Str} (h : visB sc x = true) : Vis X.env.scope x := by
  unfold visB at h
  rw [g.hsc]
  split at h
  · rename_i e; exact .inl e
  · rename_i e; exact .inr (.inl e)
  · rename_i e; exact .inr (.inr e)
  · cases h
theorem Good.loc (g : Good X fa EX E G N fs cs sc fv) {x : Str} (h : locB sc fv x = true) : Loc X.env.scope x ∧ (X.fn x = true ∨ X.env.scope.names.lookup x = some .local) := by
  unfold locB at h
  rw [g.hsc, g.hfn]
  split at h
  · rename_i e; exact ⟨.inl e, .inr e⟩
  · rename_i e; exact ⟨.inr e, .inl h⟩
  · cases h
theorem Good.gl (g : Good X fa EX E G N fs cs sc fv) {x : Str} (h : glB sc x = true) : Gl X x := by
  unfold glB at h
  show X.env.scope.names.lookup x = _
  rw [g.hsc]
  split at h
  · rename_i e; exact e
  · cases h
theorem nmOk_of {x : Str} (h : nmOk x = true) : (x == ("__debug__" : Str)) = false ∧ (x == ("__classdict__" : Str)) = false := by
  unfold nmOk at h
  simpa using h
theorem Good.name (g : Good X fa EX E G N fs cs sc fv) {x : Str} {i : Nat} {p : Pos} (h : visB sc x = true) (hn : nmOk x = true) (hi : ixOf N x = some i) (XX : XW) : PE X (.Name x p) (tE X.K fa XX G (.v i)) :=
  s_v (by rw [g.hN]; exact ixOf_get hi) (g.vis h) (nmOk_of hn).1 (nmOk_of hn).2
end
end Ev

set_option maxHeartbeats 4000000
/-! Ev, part V: the translation of expressions is sound. -/
namespace Ev
open PySem PySem.Spec L2 PyProof.Rows
section
variable {X : Cx} {fa : Nat → V → Prop} {EX : Nat → PyData → Hp → XK → Prop} {E : XK} {G : Tab} {N : List Str} {fs : List (Str × Nat × Nat)} {cs : List (Str × PyData)} {sc : Scope} {fv : Str → Bool}
/-- no star -/
def nst : Expr → Bool
  | .Starred _ _ => false
  | _ => true
theorem star_of {a : Expr} {es : List Expr} {env : PySem.Env} (h : nst a = true) : starEach (a :: es) env = (false, eval a env) :: starEach es env := by
  cases a <;> first | rfl | cases h
theorem asgn_of {a : Expr} {es : List Expr} {env : PySem.Env} (h : nst a = true) : assignEach (a :: es) env = (false, assign a env) :: assignEach es env := by
  cases a <;> first | rfl | cases h
theorem plain_of {env : PySem.Env} {pos : Pos} : ∀ {es : List Expr}, (∀ a ∈ es, nst a = true) → (backTo pos (starEach es env)).any (·.1) = false
  | [], _ => rfl
  | a :: es, h => by
    rw [star_of (h a List.mem_cons_self)]
    show (false || (backTo pos (starEach es env)).any (·.1)) = false
    rw [plain_of fun b hb => h b (List.mem_cons_of_mem _ hb)]
    rfl
theorem many_ok {f : Expr → Option ME} (hf : ∀ e m, f e = some m → PE X e (tE X.K fa (xx EX E) G m)) (hs : ∀ e m, f e = some m → nst e = true) : ∀ {es : List Expr} {ms : List ME}, many f es = some ms → PA X es (tA X.K fa (xx EX E) G ms) ∧ (∀ a ∈ es, nst a = true) ∧ es.length = ms.length
  | [], ms, h => by cases h; exact ⟨a_nil, fun a h => by simp at h, rfl⟩
  | e :: es, ms, h => by
    unfold many at h
    cases h1 : f e with
    | none => rw [h1] at h; cases h
    | some m =>
      cases h2 : many f es with
      | none => rw [h1, h2] at h; cases h
      | some ns =>
        rw [h1, h2] at h
        cases h
        obtain ⟨p, q, l⟩ := many_ok hf hs h2
        refine ⟨a_cons (hf e m h1) p (star_of (hs e m h1)), fun a ha => ?_, by rw [List.length_cons, List.length_cons, l]⟩
        rcases List.mem_cons.mp ha with rfl | ha
        · exact hs _ m h1
        · exact q a ha
theorem tE.noX {e : Expr} {m : ME} (h : PE X e (tE X.K fa (xx EX E) G m)) : PE X e (tE X.K fa noX G m) := PE.weak h fun σ H Q ⟨Z, env, ok, h⟩ => by
  refine ⟨Z, env, ok, ?_⟩
  revert h
  cases ev G m env with
  | bad => exact fun z => z
  | ex c a => exact fun z Mu' Z' H' s => (z Mu' Z' H' s).elim
  | ok p => exact fun z => z
theorem tB.noX {e : Expr} {m : ME} (h : PT X e (tB X.K fa (xx EX E) G m)) : PT X e (tB X.K fa noX G m) := PT.weak h fun σ H Q ⟨Z, env, ok, h⟩ => by
  refine ⟨Z, env, ok, ?_⟩
  revert h
  cases ev G m env with
  | bad => exact fun z => z
  | ex c a => exact fun z Mu' Z' H' s => (z Mu' Z' H' s).elim
  | ok p => exact fun z => z
theorem Good.cn (g : Good X fa EX E G N fs cs sc fv) {x : Str} {d : PyData} {p : Pos} (hg : glB sc x = true) (hn : nmOk x = true) (h : cs.lookup x = some d) (XX : XW) : PE X (.Name x p) (tE X.K fa XX G (.c d)) := by
  obtain ⟨u, v, h1, h2, h3⟩ := g.cns x d h
  exact s_c (v := v) ⟨fun pins s σ H Q I q => ld_glob I (g.gl hg) h1 ⟨v, H, I, h2, q⟩ (nmOk_of hn).1⟩ h3
theorem Good.con (g : Good X fa EX E G N fs cs sc fv) {c : Const} {k : Nat} {p : Pos} {d : PyData} (h : conR c = some d) (XX : XW) : PE X (.Constant c k p) (tE X.K fa XX G (.c d)) := by
  cases c <;> cases h
  · exact s_c pe_non fun _ _ => .non
  · exact s_c pe_bl fun _ _ => .bl _
  · exact s_c pe_int fun _ _ => .int _
  · exact s_c pe_str fun _ _ => .str _
theorem plainIx {b : Expr} (h : isSlc b = false) : PlainIx b := by
  cases b <;> first | exact fun _ _ => rfl | cases h
theorem fold_of {it : Expr} {env : PySem.Env} (h : ∀ a k p, it ≠ .Set a k p) : ∀ x, foldedSetIterable it env x = pure x := by
  cases it <;> first | exact fun _ => rfl | exact absurd rfl (h _ _ _)

/-! ### targets -/
theorem trG_ok (g : Good X fa EX E G N fs cs sc fv) : ∀ (n : Nat), (∀ e t, trG N sc fv n e = some t → PG X e (gT X.K fa t) ∧ nst e = true) ∧ ∀ es ts, trG.go N sc fv n es = some ts → PGs X es (gTs X.K fa ts) ∧ (∀ e ∈ es, nst e = true) ∧ es.length = ts.length
  | 0 => by
    have h0 : ∀ e t, trG N sc fv 0 e = some t → PG X e (gT X.K fa t) ∧ nst e = true := fun e t h => by unfold trG at h; cases h
    refine ⟨h0, fun es => ?_⟩
    induction es with
    | nil => intro ts h; unfold trG.go at h; cases h; exact ⟨gs_nil, fun e h => by simp at h, rfl⟩
    | cons e es ih =>
      intro ts h
      unfold trG.go at h
      split at h
      · rename_i t us h1 h2
        exact absurd h1 (by unfold trG; simp)
      · cases h
  | n + 1 => by
    obtain ⟨ih1, ih2⟩ := trG_ok g n
    have h1 : ∀ e t, trG N sc fv (n + 1) e = some t → PG X e (gT X.K fa t) ∧ nst e = true := fun e t h => by
      unfold trG at h
      split at h
      · rename_i x p
        split at h
        · rename_i hl
          obtain ⟨i, hi, rfl⟩ := Option.map_eq_some_iff.mp h
          exact ⟨g_name (by rw [g.hN]; exact g.nd) (by rw [g.hN]; exact ixOf_get hi) (g.loc hl).1 (g.loc hl).2, rfl⟩
        · cases h
      · rename_i es k p
        obtain ⟨ts, ht, rfl⟩ := Option.map_eq_some_iff.mp h
        obtain ⟨p1, p2, p3⟩ := ih2 es ts ht
        have key : ∀ {es : List Expr}, (∀ e ∈ es, nst e = true) → (assignEach es X.env).length = es.length ∧ (assignEach es X.env).findIdx? (·.1) = none := fun {es} => by
          induction es with
          | nil => exact fun _ => ⟨rfl, rfl⟩
          | cons a es ih =>
            intro q
            obtain ⟨q1, q2⟩ := ih fun e he => q e (List.mem_cons_of_mem _ he)
            rw [asgn_of (q a List.mem_cons_self)]
            refine ⟨by rw [List.length_cons, List.length_cons, q1], ?_⟩
            rw [List.findIdx?_cons, q2]
            rfl
        obtain ⟨k1, k2⟩ := key p2
        exact ⟨g_tup g.calm p1 p3.symm k1 k2, rfl⟩
      · cases h
    refine ⟨h1, fun es => ?_⟩
    induction es with
    | nil => intro ts h; unfold trG.go at h; cases h; exact ⟨gs_nil, fun e h => by simp at h, rfl⟩
    | cons e es ih =>
      intro ts h
      unfold trG.go at h
      split at h
      · rename_i t us a1 a2
        cases h
        obtain ⟨b1, b2⟩ := h1 e t a1
        obtain ⟨c1, c2, c3⟩ := ih us a2
        refine ⟨gs_cons b1 c1 (by rw [asgn_of b2]; rfl), fun a ha => ?_, by rw [List.length_cons, List.length_cons, c3]⟩
        rcases List.mem_cons.mp ha with rfl | ha
        · exact b2
        · exact c2 a ha
      · cases h
end
end Ev

set_option maxHeartbeats 4000000
/-! Ev, part W: the translation of expressions is sound (calls, walks). -/
namespace Ev
open PySem PySem.Spec L2 PyProof.Rows
section
variable {X : Cx} {fa : Nat → V → Prop} {EX : Nat → PyData → Hp → XK → Prop} {E : XK} {G : Tab} {N : List Str} {fs : List (Str × Nat × Nat)} {cs : List (Str × PyData)} {sc : Scope} {fv : Str → Bool} {f : Expr → Option ME}
theorem known_ne {x : Str} (h : x ∈ known) : x ≠ "__name__" ∧ (x == ("__debug__" : Str)) = false := by
  revert x
  decide +kernel
theorem Good.blt (g : Good X fa EX E G N fs cs sc fv) {x : Str} (h : x ∈ known) (hg : glB sc x = true) : Gl X x ∧ X.mg x = none ∧ x ≠ "__name__" ∧ (x == ("__debug__" : Str)) = false := ⟨g.gl hg, g.bl x h, known_ne h⟩
/-- the built-in functions of one -/
theorem fn1_ok (g : Good X fa EX E G N fs cs sc fv) {x : Str} {o : B1} (h : fn1.lookup x = some o) : x ∈ known ∧ ∃ id, bootBuiltins x = some (.builtin id) ∧ CallR X (.builtin id) (rB1x X.K o) := by
  have hm : (x, o) ∈ fn1 := PySem.mem_of_lookup h
  have hu : X.A.units + 65 < cLine := by have := g.un; omega
  simp only [fn1, List.mem_cons, Prod.mk.injEq, List.not_mem_nil, or_false] at hm
  rcases hm with ⟨rfl, rfl⟩ | ⟨rfl, rfl⟩ | ⟨rfl, rfl⟩ | ⟨rfl, rfl⟩ | ⟨rfl, rfl⟩ | ⟨rfl, rfl⟩ | ⟨rfl, rfl⟩ | ⟨rfl, rfl⟩ | ⟨rfl, rfl⟩
  · exact ⟨by decide, "len", by decide +kernel, b1x_len⟩
  · exact ⟨by decide, "all", by decide +kernel, b1x_of (b1_all g.calm) (by decide) (by decide)⟩
  · exact ⟨by decide, "any", by decide +kernel, b1x_of (b1_any g.calm) (by decide) (by decide)⟩
  · exact ⟨by decide, "sum", by decide +kernel, b1x_of (b1_sum g.calm) (by decide) (by decide)⟩
  · exact ⟨by decide, "min", by decide +kernel, b1x_of (b1_min g.calm hu) (by decide) (by decide)⟩
  · exact ⟨by decide, "max", by decide +kernel, b1x_of (b1_max g.calm hu) (by decide) (by decide)⟩
  · exact ⟨by decide, "sorted", by decide +kernel, b1x_of b1_sorted (by decide) (by decide)⟩
  · exact ⟨by decide, "abs", by decide +kernel, b1x_of b1_abs (by decide) (by decide)⟩
  · exact ⟨by decide, "repr", by decide +kernel, b1x_repr g.un g.gu⟩
theorem ty1_ok {x : Str} {o : B1} (h : ty1.lookup x = some o) : x ∈ known ∧ ∃ id, bootBuiltins x = some (.type id) ∧ CallR X (.type id) (rB1x X.K o) := by
  have hm : (x, o) ∈ ty1 := PySem.mem_of_lookup h
  simp only [ty1, List.mem_cons, Prod.mk.injEq, List.not_mem_nil, or_false] at hm
  rcases hm with ⟨rfl, rfl⟩ | ⟨rfl, rfl⟩ | ⟨rfl, rfl⟩
  · exact ⟨by decide, "tuple", by decide +kernel, b1x_of b1_tuple (by decide) (by decide)⟩
  · exact ⟨by decide, "list", by decide +kernel, b1x_list⟩
  · exact ⟨by decide, "int", by decide +kernel, b1x_of b1_int (by decide) (by decide)⟩
theorem fn2_ok {x : Str} {o : B2} (h : fn2.lookup x = some o) : x ∈ known ∧ bootBuiltins x = some (.builtin (b2Name o)) := by
  have hm : (x, o) ∈ fn2 := PySem.mem_of_lookup h
  simp only [fn2, List.mem_cons, Prod.mk.injEq, List.not_mem_nil, or_false] at hm
  rcases hm with ⟨rfl, rfl⟩ | ⟨rfl, rfl⟩
  · exact ⟨by decide, by decide +kernel⟩
  · exact ⟨by decide, by decide +kernel⟩
theorem tyR_ok {x : Str} {t : Ty} (h : tyR.lookup x = some t) : x ∈ known ∧ bootBuiltins x = some (.type (tyName t)) := by
  have hm : (x, t) ∈ tyR := PySem.mem_of_lookup h
  simp only [tyR, List.mem_cons, Prod.mk.injEq, List.not_mem_nil, or_false] at hm
  rcases hm with ⟨rfl, rfl⟩ | ⟨rfl, rfl⟩ | ⟨rfl, rfl⟩ | ⟨rfl, rfl⟩
  · exact ⟨by decide, by decide +kernel⟩
  · exact ⟨by decide, by decide +kernel⟩
  · exact ⟨by decide, by decide +kernel⟩
  · exact ⟨by decide, by decide +kernel⟩
theorem trCall_ok (g : Good X fa EX E G N fs cs sc fv) (hf : ∀ e m, f e = some m → PE X e (tE X.K fa (xx EX E) G m)) (hs : ∀ e m, f e = some m → nst e = true) {x : Str} {as : List Expr} {m : ME} {p pos : Pos} (h : trCall fs N f sc x as = some m) :
    PE X (.Call (.Name x p) as [] pos) (tE X.K fa (xx EX E) G m) := by
  unfold trCall at h
  split at h
  · rename_i hx
    simp only [Bool.and_eq_true, Bool.not_eq_true'] at hx
    obtain ⟨⟨hg, hn⟩, hnn⟩ := hx
    have hnn : x ≠ "__name__" := fun e => by simp [e] at hnn
    split at h
    · rename_i n ar hl
      split at h
      · rename_i ms hm
        split at h
        · rename_i hlen
          cases h
          obtain ⟨f0, fd, ps, sm, k, h1, h2, h3, h4, h5, h6, _⟩ := g.fns x n ar hl
          have h7 := g.pass
          obtain ⟨pa, st, _⟩ := many_ok hf hs hm
          refine s_call (ar := ar) h1 ?_ fun env q hq => by rw [evs_len hq]; exact hlen
          cases as with
          | nil =>
            unfold many at hm
            cases hm
            refine PE.weak (pe_fn0 h2 h3 g.gu (g.gl hg) h4 h5 h6 h7 (nmOk_of hn).1) fun σ H Q h => ?_
            obtain ⟨Z, env, ok, h⟩ := h
            unfold evs at h
            exact h Z H [] (.refl ok) .nil
          | cons a as => exact pe_fn h2 h3 g.gu (g.gl hg) h4 h5 h6 h7 pa (nmOk_of hn).1 (star_of (st a List.mem_cons_self)) (plain_of fun b hb => st b (List.mem_cons_of_mem _ hb))
        · cases h
      · cases h
    · split at h
      · rename_i a
        have one : ∀ o ma, fn1.lookup x = some o → f a = some ma → PE X (.Call (.Name x p) [a] [] pos) (tE X.K fa (xx EX E) G (.b1 o ma)) := fun o ma h1 h2 => by
          obtain ⟨hk, id, hv, hC⟩ := fn1_ok g h1
          obtain ⟨g1, g2, g3, g4⟩ := g.blt hk hg
          exact s_b1B hC g1 g2 hv g3 g4 (hf a ma h2) (star_of (hs a ma h2))
        have two : ∀ o ma, ty1.lookup x = some o → f a = some ma → PE X (.Call (.Name x p) [a] [] pos) (tE X.K fa (xx EX E) G (.b1 o ma)) := fun o ma h1 h2 => by
          obtain ⟨hk, id, hv, hC⟩ := ty1_ok (X := X) h1
          obtain ⟨g1, g2, g3, g4⟩ := g.blt hk hg
          exact s_b1T hC g1 g2 hv g3 g4 (hf a ma h2) (star_of (hs a ma h2))
        split at h
        · rename_i o ho
          obtain ⟨ma, h1, rfl⟩ := Option.map_eq_some_iff.mp h
          exact one o ma ho h1
        · split at h
          · rename_i ho
            split at h
            · rename_i y p2 b c pos2
              split at h
              · rename_i hy
                obtain ⟨rfl, hyg⟩ := hy
                split at h
                · rename_i mb mc h1 h2
                  cases h
                  have hxl : x = "list" := by
                    have hm := PySem.mem_of_lookup ho
                    simp only [ty1, List.mem_cons, Prod.mk.injEq, List.not_mem_nil, or_false] at hm
                    rcases hm with ⟨_, q⟩ | ⟨e, _⟩ | ⟨_, q⟩
                    · cases q
                    · exact e
                    · cases q
                  subst hxl
                  have g1 := g.blt (x := "list") (by decide) hg
                  have g2 := g.blt (x := "range") (by decide) hyg
                  exact s_lrg g.calm g1.1 g1.2.1 g2.1 g2.2.1 (hf _ _ h1) (hf _ _ h2) (star_of (hs _ _ h1)) (star_of (hs _ _ h2)) (plain_of fun e he => by rw [List.mem_singleton.mp he]; exact hs _ _ h2) (star_of rfl)
                · cases h
              · obtain ⟨ma, h1, rfl⟩ := Option.map_eq_some_iff.mp h
                exact two _ ma ho h1
            · rename_i y p2 b pos2
              split at h
              · rename_i hy
                obtain ⟨rfl, hyg⟩ := hy
                split at h
                · rename_i mb h1
                  cases h
                  have hxl : x = "list" := by
                    have hm := PySem.mem_of_lookup ho
                    simp only [ty1, List.mem_cons, Prod.mk.injEq, List.not_mem_nil, or_false] at hm
                    rcases hm with ⟨_, q⟩ | ⟨e, _⟩ | ⟨_, q⟩
                    · cases q
                    · exact e
                    · cases q
                  subst hxl
                  have g1 := g.blt (x := "list") (by decide) hg
                  have g2 := g.blt (x := "range") (by decide) hyg
                  exact s_lrg1 g.calm g1.1 g1.2.1 g2.1 g2.2.1 (hf _ _ h1) (star_of (hs _ _ h1)) (star_of rfl)
                · cases h
              · obtain ⟨ma, h1, rfl⟩ := Option.map_eq_some_iff.mp h
                exact two _ ma ho h1
            · obtain ⟨ma, h1, rfl⟩ := Option.map_eq_some_iff.mp h
              exact two _ ma ho h1
          · rename_i o ho _
            obtain ⟨ma, h1, rfl⟩ := Option.map_eq_some_iff.mp h
            rename_i ho' _
            exact two _ ma (by assumption) h1
          · cases h
      · rename_i a b
        split at h
        · rename_i hxi
          subst hxi
          split at h
          · rename_i y p2
            split at h
            · rename_i hy
              simp only [Bool.and_eq_true, Bool.not_eq_true'] at hy
              split at h
              · rename_i ma t h1 h2
                cases h
                obtain ⟨k1, k2⟩ := tyR_ok h2
                have g1 := g.blt (x := "isinstance") (by decide) hg
                have g2 := g.blt k1 hy.1.1
                exact s_isi g1.1 g1.2.1 (by decide +kernel) g1.2.2.1 g1.2.2.2 g2.1 g2.2.1 k2 g2.2.2.1 g2.2.2.2 (hf _ _ h1) (star_of (hs _ _ h1)) (star_of rfl) (plain_of fun e he => by rw [List.mem_singleton.mp he]; rfl)
              · cases h
            · cases h
          · cases h
        · split at h
          · rename_i o ma mb h1 h2 h3
            cases h
            obtain ⟨k1, k2⟩ := fn2_ok h1
            have g1 := g.blt k1 hg
            exact s_b2 g.calm g1.1 g1.2.1 k2 g1.2.2.1 g1.2.2.2 (hf _ _ h2) (hf _ _ h3) (star_of (hs _ _ h2)) (star_of (hs _ _ h3)) (plain_of fun e he => by rw [List.mem_singleton.mp he]; exact hs _ _ h3)
          · cases h
      · cases h
  · split at h
    · rename_i hx
      rw [Bool.and_eq_true] at hx
      obtain ⟨hv, hn⟩ := hx
      split at h
      · cases h
      · rename_i a as
        split at h
        · rename_i i ms hi hm
          cases h
          obtain ⟨pa, st, _⟩ := many_ok hf hs hm
          refine s_callv (pe_fnv g.gu (by rw [g.hN]; exact ixOf_get hi) (g.vis hv) pa (nmOk_of hn).1 (nmOk_of hn).2 (star_of (st a List.mem_cons_self)) (plain_of fun b hb => st b (List.mem_cons_of_mem _ hb))) fun y n f1 sm hT hns hG => ?_
          obtain ⟨ar, q1⟩ := tbl_of hT
          have q3 := g.gn _ _ hns
          obtain ⟨f0, fd, ps, sm', k, h1, h2, h3, h4, h5, h6, h7⟩ := g.fns y n ar q1
          rw [hG] at h1
          cases h1
          rw [q3] at h4
          cases h4
          exact ⟨fd, ps, k, ar, _, h2, h3, h5, h6, g.pass, h7⟩
        · cases h
    · cases h
theorem trMeth_ok (hu : X.A.units + 65 < cLine) (g : Good X fa EX E G N fs cs sc fv) (hf : ∀ e m, f e = some m → PE X e (tE X.K fa (xx EX E) G m)) (hs : ∀ e m, f e = some m → nst e = true) {x mm : Str} {as : List Expr} {m : ME} {p p2 pos : Pos} (h : trMeth N f sc x mm (p2.endLine == pos.line) as = some m) :
    PE X (.Call (.Attribute (.Name x p) mm p2) as [] pos) (tE X.K fa (xx EX E) G m) := by
  unfold trMeth at h
  split at h
  · rename_i hx
    simp only [Bool.and_eq_true] at hx
    obtain ⟨⟨hv, hn⟩, hline⟩ := hx
    split at h
    · rename_i i a hi
      split at h
      · rename_i ma ha
        have st := hs a ma ha
        have k : MOk X a x mm i p p2 pos := ⟨by rw [g.hN]; exact ixOf_get hi, g.vis hv, (nmOk_of hn).1, (nmOk_of hn).2, star_of st, rfl, hline, by rw [star_of st]; rfl⟩
        split at h
        · rename_i e; subst e; cases h
          exact s_app k (hf a ma ha)
        · split at h
          · rename_i e; subst e; cases h
            exact s_ext k (hf a ma ha)
          · split at h
            · rename_i e; subst e; cases h
              exact s_popA k (hf a ma ha)
            · split at h
              · rename_i e; subst e; cases h
                exact s_idx hu k (hf a ma ha)
              · cases h
      · cases h
    · cases h
  · cases h
theorem trI_ok (g : Good X fa EX E G N fs cs sc fv) (hf : ∀ e m, f e = some m → PE X e (tE X.K fa (xx EX E) G m)) (hs : ∀ e m, f e = some m → nst e = true) (hset : ∀ a k p, f (.Set a k p) = none) {tg it : Expr} {w : Nat} {its : List ME} (h : trI f sc (isTup tg) it = some (w, its)) :
    PI X tg it (tI X.K fa (xx EX E) G w its) ∧ ∀ x, foldedSetIterable it X.env x = pure x := by
  have seq : ∀ {m}, f it = some m → (w, its) = (0, [m]) → PI X tg it (tI X.K fa (xx EX E) G w its) ∧ ∀ x, foldedSetIterable it X.env x = pure x := fun {m} h1 e => by
    cases e
    refine ⟨i_seq (hf it m h1), fold_of fun a k p e => ?_⟩
    rw [e, hset] at h1
    cases h1
  unfold trI at h
  split at h
  · rename_i x p as pos
    have fo : ∀ y, foldedSetIterable (.Call (.Name x p) as [] pos) X.env y = pure y := fun _ => rfl
    split at h
    · rename_i hg
      split at h
      · rename_i e
        subst e
        have g1 := g.blt (x := "range") (by decide) hg
        split at h
        · rename_i a ms hm
          cases h
          obtain ⟨pa, st, l⟩ := many_ok hf hs hm
          match its, l with
          | [ma], _ => exact ⟨i_rng1 g1.1 g1.2.1 pa (star_of (st a (by simp))), fo⟩
        · rename_i a b ms hm
          cases h
          obtain ⟨pa, st, l⟩ := many_ok hf hs hm
          match its, l with
          | [ma, mb], _ =>
            have h1 : starEach [b] X.env = [(false, eval b X.env)] := star_of (st b (by simp))
            exact ⟨i_rng2 g1.1 g1.2.1 pa (by rw [star_of (st a (by simp)), h1]) h1, fo⟩
        · rename_i a b c ms hm
          cases h
          obtain ⟨pa, st, l⟩ := many_ok hf hs hm
          match its, l with
          | [ma, mb, mc], _ => exact ⟨i_rng3 g1.1 g1.2.1 pa (star_of (st a (by simp))) (plain_of fun e he => st e (List.mem_cons_of_mem _ he)), fo⟩
        · cases h
      · split at h
        · rename_i e
          subst e
          have g1 := g.blt (x := "enumerate") (by decide) hg
          split at h
          · rename_i a ms ht hm
            cases h
            obtain ⟨pa, st, l⟩ := many_ok hf hs hm
            cases tg <;> try (cases ht; done)
            match its, l with
            | [ma], _ => exact ⟨i_enum g1.1 g1.2.1 pa (star_of (st a (by simp))), fo⟩
          · cases h
        · split at h
          · rename_i e
            subst e
            have g1 := g.blt (x := "zip") (by decide) hg
            split at h
            · rename_i a b ms ht hm
              cases h
              obtain ⟨pa, st, l⟩ := many_ok hf hs hm
              cases tg <;> try (cases ht; done)
              match its, l with
              | [ma, mb], _ => exact ⟨i_zip g1.1 g1.2.1 pa (star_of (st a (by simp))) (plain_of fun e he => st e (List.mem_cons_of_mem _ he)), fo⟩
            · rename_i a b c ms ht hm
              cases h
              obtain ⟨pa, st, l⟩ := many_ok hf hs hm
              cases tg <;> try (cases ht; done)
              match its, l with
              | [ma, mb, mc], _ => exact ⟨i_zip3 g1.1 g1.2.1 pa (star_of (st a (by simp))) (plain_of fun e he => st e (List.mem_cons_of_mem _ he)), fo⟩
            · cases h
          · obtain ⟨m, h1, h2⟩ := Option.map_eq_some_iff.mp h
            exact seq h1 h2.symm
    · obtain ⟨m, h1, h2⟩ := Option.map_eq_some_iff.mp h
      exact seq h1 h2.symm
  · obtain ⟨m, h1, h2⟩ := Option.map_eq_some_iff.mp h
    exact seq h1 h2.symm
end
end Ev

set_option maxHeartbeats 8000000
/-! Ev, part X: the translation of expressions is sound. -/
namespace Ev
open PySem PySem.Spec L2 PyProof.Rows
section
variable {fa : Nat → V → Prop} {EX : Nat → PyData → Hp → XK → Prop} {G : Tab} {N : List Str} {fs : List (Str × Nat × Nat)} {cs : List (Str × PyData)}
theorem trE_nst : ∀ {n : Nat} {sc : Scope} {fv : Str → Bool} {e : Expr} {m : ME}, trE N fs cs n sc fv e = some m → nst e = true
  | 0, _, _, e, m, h => by unfold trE at h; cases h
  | n + 1, _, _, e, m, h => by
    cases e <;> first | rfl | (unfold trE at h; cases h)
theorem trE_set {n : Nat} {sc : Scope} {fv : Str → Bool} (a : List Expr) (k : Nat) (p : Pos) : trE N fs cs n sc fv (.Set a k p) = none := by
  cases n <;> (unfold trE; rfl)
theorem own_ix {scope : Scope} {p : Str × Nat} (h : p ∈ ownOf N scope) : N[p.2]? = some p.1 := by
  unfold ownOf at h
  obtain ⟨⟨y, k⟩, _, e⟩ := List.mem_filterMap.mp h
  cases k <;> simp only at e <;> try (cases e; done)
  · obtain ⟨i, h1, rfl⟩ := Option.map_eq_some_iff.mp e
    exact ixOf_get h1
  · obtain ⟨i, h1, rfl⟩ := Option.map_eq_some_iff.mp e
    exact ixOf_get h1
theorem opt_ok {X : Cx} {XX : XW} {f : Expr → Option ME} (hf : ∀ e m, f e = some m → PE X e (tE X.K fa XX G m)) : ∀ {o : Option Expr} {mo : Option ME}, opt f o = some mo → PO X o (tO X.K fa XX G mo)
  | none, _, h => by cases h; exact o_none
  | some e, _, h => by
    obtain ⟨m, h1, rfl⟩ := Option.map_eq_some_iff.mp h
    exact o_some (hf e m h1)
theorem tr_ok : ∀ (n : Nat), (∀ (X : Cx) (E : XK) (sc : Scope) (fv : Str → Bool), Good X fa EX E G N fs cs sc fv → ∀ e m, trE N fs cs n sc fv e = some m → PE X e (tE X.K fa (xx EX E) G m)) ∧
    (∀ (X : Cx) (E : XK) (sc : Scope) (fv : Str → Bool), Good X fa EX E G N fs cs sc fv → ∀ e m, trT N fs cs n sc fv e = some m → PT X e (tB X.K fa (xx EX E) G m) ∧ ((∃ o es p, e = .BoolOp o es p) → PW X e (tB X.K fa (xx EX E) G m)))
  | 0 => ⟨fun X E sc fv g e m h => (by unfold trE at h; cases h), fun X E sc fv g e m h => (by unfold trT at h; cases h)⟩
  | n + 1 => by
    obtain ⟨ihE, ihT⟩ := tr_ok n
    have hE : ∀ (X : Cx) (E : XK) (sc : Scope) (fv : Str → Bool), Good X fa EX E G N fs cs sc fv → ∀ e m, trE N fs cs (n + 1) sc fv e = some m → PE X e (tE X.K fa (xx EX E) G m) := by
      intro X E sc fv g e m h
      have ih := ihE X E sc fv g
      have hs : ∀ e m, trE N fs cs n sc fv e = some m → nst e = true := fun e m h => trE_nst h
      have hu : X.A.units + 65 < cLine := by have := g.un; omega
      unfold trE at h
      split at h
      · obtain ⟨d, h1, rfl⟩ := Option.map_eq_some_iff.mp h
        exact g.con h1 _
      · split at h
        · rename_i hc
          rw [Bool.and_eq_true] at hc
          obtain ⟨i, h1, rfl⟩ := Option.map_eq_some_iff.mp h
          exact g.name hc.1 hc.2 h1 _
        · split at h
          · rename_i hc
            rw [Bool.and_eq_true] at hc
            split at h
            · rename_i d h1
              cases h
              exact g.cn hc.1 hc.2 h1 _
            · obtain ⟨⟨n0, ar⟩, h1, rfl⟩ := Option.map_eq_some_iff.mp h
              obtain ⟨f0, fd, ps, sm, k, _, _, _, h4, _⟩ := g.fns _ n0 ar h1
              exact s_fn (pe_glob (v := V.ref f0) (g.gl hc.1) h4 rfl (nmOk_of hc.2).1) (g.vfn _ n0 ar f0 h1 h4)
          · cases h
      · obtain ⟨ms, h1, rfl⟩ := Option.map_eq_some_iff.mp h
        exact s_tup (many_ok ih hs h1).1
      · obtain ⟨ms, h1, rfl⟩ := Option.map_eq_some_iff.mp h
        exact s_lst (many_ok ih hs h1).1
      · split at h
        · rename_i p ma mb h1 h2 h3
          cases h
          rw [← bopR_of h1]
          exact s_bin p (ih _ _ h2) (ih _ _ h3)
        · cases h
      · obtain ⟨ma, h1, rfl⟩ := Option.map_eq_some_iff.mp h
        exact s_neg (ih _ _ h1)
      · obtain ⟨ma, h1, rfl⟩ := Option.map_eq_some_iff.mp h
        exact s_not (ih _ _ h1)
      · split at h
        · rename_i p ma mb h1 h2 h3
          split at h
          · cases h
          · rename_i hb
            cases h
            have hb := Bool.eq_false_iff.mpr hb
            rw [← copR_of h1] at hb ⊢
            exact s_cmp hu p (ih _ _ h2) (ih _ _ h3) hb
        · cases h
      · split at h
        · rename_i p p' ma mb mc h1 h1' h2 h3 h4
          split at h
          · cases h
          · rename_i hb
            cases h
            have hb := Bool.eq_false_iff.mpr hb
            rw [← copR_of h1, ← copR_of h1'] at hb ⊢
            exact s_chn hu p p' (ih _ _ h2) (ih _ _ h3) (ih _ _ h4) hb
        · cases h
      · exact s_last (ih _ _ h)
      · split at h
        · rename_i ma mb h1 h2
          cases h
          exact s_and (ih _ _ h1) (ih _ _ h2)
        · cases h
      · split at h
        · rename_i ma mb h1 h2
          cases h
          exact s_or (ih _ _ h1) (ih _ _ h2)
        · cases h
      · split at h
        · rename_i mt ma mb h1 h2 h3
          cases h
          exact s_ife (ihT X E sc fv g _ _ h1).1 (ih _ _ h2) (ih _ _ h3)
        · cases h
      · obtain ⟨ma, h1, rfl⟩ := Option.map_eq_some_iff.mp h
        exact s_rev2 (ih _ _ h1)
      · split at h
        · rename_i ma ml mh h1 h2 h3
          cases h
          exact s_slc (ih _ _ h1) (opt_ok ih h2) (opt_ok ih h3)
        · cases h
      · split at h
        · cases h
        · rename_i hb
          split at h
          · rename_i ma mb h1 h2
            cases h
            exact s_sub (ih _ _ h1) (ih _ _ h2) (plainIx (Bool.eq_false_iff.mpr hb))
          · cases h
      · exact trCall_ok g ih hs h
      · exact trMeth_ok hu g ih hs h
      · rename_i elt tg it ifs scope pos
        split at h
        · rename_i t w its me h1 h2 h3
          obtain ⟨pi, hfo⟩ := trI_ok g ih hs (fun a k p => trE_set a k p) h2
          have key : ∀ mifs, (∀ (s : Shared) (H : Hp) (C : Addr) (cl : List (Str × Addr)) (fp : List Addr), scope.kind = .function → PTs (X.blk s H scope (compEnvC scope cl C X.env) fp) ifs (tTs X.K fa G mifs)) →
              (blkC N sc scope (ownOf N scope) && (stoT t).all ((ownOf N scope).map (·.2)).contains) = true → PE X (.ListComp elt [⟨tg, it, ifs, 0⟩] scope pos) (tE X.K fa (xx EX E) G (.lc ((ownOf N scope).map (·.2)) t w its mifs me)) := by
            intro mifs hT hc
            rw [Bool.and_eq_true] at hc
            have bo : BlkOk X.N X.env.scope scope (ownOf N scope) := by
              rw [g.hN, g.hsc]
              exact blkOk_by hc.1
            refine s_lc g.calm (by rw [g.hN]; exact g.nd) pi bo (fun s H C cl fp => ?_) (fun s H C cl fp => hT s H C cl fp bo.kind) (fun s H C cl fp => ?_) hfo fun i hi => ?_
            · exact ((trG_ok (g.blk bo.kind s H C cl fp) n).1 _ _ h1).1
            · exact tE.noX (ihE _ _ _ _ (g.blk bo.kind s H C cl fp) _ _ h3)
            · have := List.all_eq_true.mp hc.2 i hi
              simpa using this
          split at h
          · split at h
            · rename_i hc
              cases h
              exact key [] (fun s H C cl fp _ => t_nil) hc
            · cases h
          · split at h
            · rename_i mc h4
              split at h
              · rename_i hc
                cases h
                exact key [mc] (fun s H C cl fp hk => t_one (tB.noX (ihT _ _ _ _ (g.blk hk s H C cl fp) _ _ h4).1)) hc
              · cases h
            · cases h
          · cases h
        · cases h
      · cases h
    refine ⟨hE, ?_⟩
    intro X E sc fv g e m h
    have ih := ihE X E sc fv g
    have ihT := ihT X E sc fv g
    have hu : X.A.units + 65 < cLine := by have := g.un; omega
    have wp : PW X e (tB X.K fa (xx EX E) G m) → PT X e (tB X.K fa (xx EX E) G m) ∧ ((∃ o es p, e = .BoolOp o es p) → PW X e (tB X.K fa (xx EX E) G m)) := fun w => ⟨w.pt, fun _ => w⟩
    have pt : PT X e (tB X.K fa (xx EX E) G m) → (∀ o es p, e ≠ .BoolOp o es p) → PT X e (tB X.K fa (xx EX E) G m) ∧ ((∃ o es p, e = .BoolOp o es p) → PW X e (tB X.K fa (xx EX E) G m)) := fun w n => ⟨w, fun ⟨o, es, p, q⟩ => (n o es p q).elim⟩
    unfold trT at h
    split at h
    · obtain ⟨ma, h1, rfl⟩ := Option.map_eq_some_iff.mp h
      exact pt (b_not (ihT _ _ h1).1) fun _ _ _ q => by cases q
    · exact wp (w_and1 (ihT _ _ h).1)
    · exact wp (w_or1 (ihT _ _ h).1)
    · split at h
      · rename_i ma mb h1 h2
        cases h
        exact wp (w_and (ihT _ _ h1).1 ((ihT _ _ h2).2 ⟨_, _, _, rfl⟩))
      · cases h
    · split at h
      · rename_i ma mb h1 h2
        cases h
        exact wp (w_or (ihT _ _ h1).1 ((ihT _ _ h2).2 ⟨_, _, _, rfl⟩))
      · cases h
    · cases h
    · cases h
    · split at h
      · rename_i p ma mb h1 h2 h3
        split at h
        · cases h
        · rename_i hb
          cases h
          have hb := Bool.eq_false_iff.mpr hb
          obtain rfl := copR_of h1
          exact pt (b_cmp hu p (ih _ _ h2) (ih _ _ h3) hb) fun _ _ _ q => by cases q
      · cases h
    · split at h
      · rename_i p p' ma mb mc h1 h1' h2 h3 h4
        split at h
        · cases h
        · rename_i hb
          cases h
          have hb := Bool.eq_false_iff.mpr hb
          obtain rfl := copR_of h1
          obtain rfl := copR_of h1'
          exact pt (b_chn hu p p' (ih _ _ h2) (ih _ _ h3) (ih _ _ h4) hb) fun _ _ _ q => by cases q
      · cases h
    · split at h
      · rename_i p p' p'' ma mb mc md h1 h1' h1'' h2 h3 h4 h5
        split at h
        · cases h
        · rename_i hb
          cases h
          have hb := Bool.eq_false_iff.mpr hb
          obtain rfl := copR_of h1
          obtain rfl := copR_of h1'
          obtain rfl := copR_of h1''
          exact pt (b_ch3 hu p p' p'' (ih _ _ h2) (ih _ _ h3) (ih _ _ h4) (ih _ _ h5) hb) fun _ _ _ q => by cases q
      · cases h
    · cases h
    · rename_i n1 n2 n3 n4 n5 n6 n7 n8 n9 n9' n10
      refine pt (b_any (ih _ _ h) ?_) fun o es p q => n6 _ _ _ q
      cases e <;> first | exact fun _ => rfl | skip
      · exact (n6 _ _ _ rfl).elim
      · rename_i o a p
        cases o <;> first | exact fun _ => rfl | exact (n1 _ _ rfl).elim
      · exact (n7 _ _ _ _ rfl).elim
      · exact (n10 _ _ _ _ rfl).elim
/-- the parts of a comprehension -/
theorem lc_parts {X : Cx} {E : XK} {sc : Scope} {fv : Str → Bool} (g : Good X fa EX E G N fs cs sc fv) {n : Nat} {elt : Expr} {gs : List Comprehension} {scope : Scope} {pos : Pos} {m : ME} (h : trE N fs cs n sc fv (.ListComp elt gs scope pos) = some m) :
    ∃ tg it ifs t w its mifs me own, gs = [⟨tg, it, ifs, 0⟩] ∧ m = .lc (own.map (·.2)) t w its mifs me ∧ PI X tg it (tI X.K fa (xx EX E) G w its) ∧ BlkOk X.N X.env.scope scope own ∧
      (∀ (s : Shared) (H : Hp) (C : Addr) (cl : List (Str × Addr)) (fp : List Addr), PG (X.blk s H scope (compEnvC scope cl C X.env) fp) tg (gT X.K fa t)) ∧
      (∀ (s : Shared) (H : Hp) (C : Addr) (cl : List (Str × Addr)) (fp : List Addr), PTs (X.blk s H scope (compEnvC scope cl C X.env) fp) ifs (tTs X.K fa G mifs)) ∧
      (∀ (s : Shared) (H : Hp) (C : Addr) (cl : List (Str × Addr)) (fp : List Addr), PE (X.blk s H scope (compEnvC scope cl C X.env) fp) elt (tE X.K fa noX G me)) ∧ (∀ x, foldedSetIterable it X.env x = pure x) ∧ ∀ i ∈ stoT t, i ∈ own.map (·.2) := by
  cases n with
  | zero => unfold trE at h; cases h
  | succ n =>
    obtain ⟨ihE, ihT⟩ := tr_ok (fa := fa) (EX := EX) (G := G) (N := N) (fs := fs) (cs := cs) n
    unfold trE at h
    split at h <;> try (first | (cases h; done) | (rename_i e; cases e; done))
    rename_i elt' tg it ifs scope' pos' e
    cases e
    split at h
    · rename_i t w its me h1 h2 h3
      obtain ⟨pi, hfo⟩ := trI_ok g (ihE X E sc fv g) (fun e m h => trE_nst h) (fun a k p => trE_set a k p) h2
      have key : ∀ mifs, (∀ (s : Shared) (H : Hp) (C : Addr) (cl : List (Str × Addr)) (fp : List Addr), scope.kind = .function → PTs (X.blk s H scope (compEnvC scope cl C X.env) fp) ifs (tTs X.K fa G mifs)) →
          (blkC N sc scope (ownOf N scope) && (stoT t).all ((ownOf N scope).map (·.2)).contains) = true → BlkOk X.N X.env.scope scope (ownOf N scope) ∧
          (∀ (s : Shared) (H : Hp) (C : Addr) (cl : List (Str × Addr)) (fp : List Addr), PG (X.blk s H scope (compEnvC scope cl C X.env) fp) tg (gT X.K fa t)) ∧
          (∀ (s : Shared) (H : Hp) (C : Addr) (cl : List (Str × Addr)) (fp : List Addr), PTs (X.blk s H scope (compEnvC scope cl C X.env) fp) ifs (tTs X.K fa G mifs)) ∧
          (∀ (s : Shared) (H : Hp) (C : Addr) (cl : List (Str × Addr)) (fp : List Addr), PE (X.blk s H scope (compEnvC scope cl C X.env) fp) elt (tE X.K fa noX G me)) ∧ (∀ x, foldedSetIterable it X.env x = pure x) ∧ ∀ i ∈ stoT t, i ∈ (ownOf N scope).map (·.2) := by
        intro mifs hT hc
        rw [Bool.and_eq_true] at hc
        have bo : BlkOk X.N X.env.scope scope (ownOf N scope) := by
          rw [g.hN, g.hsc]
          exact blkOk_by hc.1
        refine ⟨bo, fun s H C cl fp => ((trG_ok (g.blk bo.kind s H C cl fp) n).1 _ _ h1).1, fun s H C cl fp => hT s H C cl fp bo.kind, fun s H C cl fp => tE.noX (ihE _ _ _ _ (g.blk bo.kind s H C cl fp) _ _ h3), hfo, fun i hi => ?_⟩
        have := List.all_eq_true.mp hc.2 i hi
        simpa using this
      split at h
      · split at h
        · rename_i hc
          cases h
          exact ⟨tg, it, [], t, w, its, [], me, ownOf N scope, rfl, rfl, pi, key [] (fun s H C cl fp _ => t_nil) hc⟩
        · cases h
      · split at h
        · rename_i mc h4
          split at h
          · rename_i hc
            cases h
            exact ⟨tg, it, [_], t, w, its, [mc], me, ownOf N scope, rfl, rfl, pi, key [mc] (fun s H C cl fp hk => t_one (tB.noX (ihT _ _ _ _ (g.blk hk s H C cl fp) _ _ h4).1)) hc⟩
          · cases h
        · cases h
      · cases h
    · cases h
end
end Ev

set_option maxRecDepth 100000
/-! Ev, part AB: own exceptions are made: __init__ says super().__init__(text) and stores one field. -/
namespace Ev
open PySem PySem.Spec PySem.W L2 NdefX PyProof.Rows
/-- what an __init__ of an own exception promises -/
def spInit (C : Addr) (fld : Str) : Sp := fun vs H Q E => ∃ a v, vs = [.ref a, v] ∧ H a = some (exo a C none) ∧ ∀ dx, H dx = none → dx ≠ a → Q .non (upd (upd H dx (exd dx [(fld, v)])) a (exo a C (some dx)))
def initB (msg slf arg fld : Str) (k : Nat) (p0 p1 p2 p3 p4 p5 p6 p7 p8 p9 : Pos) : List Stmt :=
  [.Expr (.Call (.Attribute (.Call (.Name "super" p0) [] [] p1) "__init__" p2) [.Constant (.str msg) k p3] [] p4) p5, .Assign [.Attribute (.Name slf p6) fld p7] (.Name arg p8) p9]
abbrev initSc (slf arg : Str) : Scope := { kind := .function, names := [(slf, .local), (arg, .local), (PySem.Str.ofString "__class__", .free), (PySem.Str.ofString "super", .globalImplicit)], isGenerator := false, isCoroutine := false, more := [] }
/-- what the written part says of such a class -/
structure InC (P : Program) (K : Frag) (C fI cda cc : Addr) (fd : FuncData) : Prop where
  oex : OexC K C
  lk : ∃ oc od osl, K.lookup fI = some ⟨oc, od, .func fd, osl⟩
  code : ∃ ccl cdd ccs vs file tf, K.lookup cda = some ⟨ccl, cdd, .fields vs, ccs⟩ ∧ vs[2]? = some (.str file tf) ∧ ((P.main.file : Str) == file) = true
  cell : ∃ cl cld csl, K.lookup cc = some ⟨cl, cld, .cell (some (.ref C)), csl⟩
  cls : ∃ cd, clsIn K C = some cd
  self : mroIn K C (.ref C) = some true
  sup : ks_superIn K C C "__init__" = some (some (.builtin "ValueError.__init__"))
  ve : subIn K (.ref C) (.type "ValueError") = some true
  opq : nsIn K cStatics "thirdparty.any" = some none
set_option maxHeartbeats 2000000 in
theorem init_fn {P : Program} {w : World} {K : Frag} {mg : Str → Option Value} {base : Heap} {CX : CXT} {C fI cda cc : Addr} {nm qual msg slf arg fld : Str} {k : Nat} {p0 p1 p2 p3 p4 p5 p6 p7 p8 p9 : Pos} {params : Arguments} {doc pm ct : Value} {an : Option Addr} {ar : Arg}
    (T : InC P K C fI cda cc (fnX nm qual params (initB msg slf arg fld k p0 p1 p2 p3 p4 p5 p6 p7 p8 p9) (initSc slf arg) [("__class__", cc)] .none .none doc pm an (.ref cda) ct))
    (S : NScope [slf, arg, "__class__"] [slf, arg] ["__class__"] (initSc slf arg)) (hsu : (initSc slf arg).names.lookup ("super" : Str) = some .globalImplicit) (hcl : (initSc slf arg).names.lookup ("__class__" : Str) = some .free)
    (hp : (params.posonlyargs ++ params.args).head? = some ar) (har : ar.arg = slf) (hcd : codeIn K (.ref cda) qual = true) (hmg : mg "super" = none) (hno : findIn K (.ref C) fld = some none)
    (htop : (P.main.scope.names.lookup ("super" : Str)).isSome = false) (hd1 : (slf == ("__debug__" : Str)) = false) (hd2 : (slf == ("__classdict__" : Str)) = false) (hd3 : (arg == ("__debug__" : Str)) = false) (hd4 : (arg == ("__classdict__" : Str)) = false)
    (hsw : ∀ env : PySem.Env, swapsWith (.Name arg p8) (some (.Attribute (.Name slf p6) fld p7)) p9.line env = pure false)
    (hev : ∀ env : PySem.Env, ∃ pl, eval (.Call (.Attribute (.Call (.Name "super" p0) [] [] p1) "__init__" p2) [.Constant (.str msg) k p3] [] p4) env = (do
      let ov ← attributeBase (.Call (.Name "super" p0) [] [] p1) "__init__" env (eval (.Call (.Name "super" p0) [] [] p1) env)
      standAt p2.atName
      let (f, first) ← holding [ov] (getMethod ov "__init__" pl)
      callWith p4 f first (backTo p4 (starEach [.Constant (.str msg) k p3] env)) [])) :
    FnOk P w K mg base CX 1 fI (fnX nm qual params (initB msg slf arg fld k p0 p1 p2 p3 p4 p5 p6 p7 p8 p9) (initSc slf arg) [("__class__", cc)] .none .none doc pm an (.ref cda) ct) [slf, arg] (spInit C fld) := by
  refine ⟨fun vs H Q E ⟨a, v, e, _⟩ => by rw [e]; rfl, ?_⟩
  intro A outer s H args us vs Q E hr e0 hb r hsp
  obtain ⟨a, v, rfl, ha, q⟩ := hsp
  obtain ⟨oc, od, osl, lk⟩ := T.lk
  obtain ⟨ccl, cdd, ccs, cvs, file, tf, hcode, hvs, hfile⟩ := T.code
  obtain ⟨cl, cld, csl, hcell⟩ := T.cell
  obtain ⟨cdC, hcls⟩ := T.cls
  have kin : K.In s.heap := e0.mod.kin.keeps fun b o e => (e0.bs b o e).1
  have lim : s.heap.NoLimit := e0.mod.nolimit.keeps fun b o e => (e0.bs b o e).1
  have inB : ∀ {b o}, K.lookup b = some o → base.get? b = some o := fun e => e0.mod.kin _ _ e
  have Cat : CellsAt [(("__class__" : Str), cc)] ["__class__"] [some (.ref C)] s.heap H := by
    refine ⟨rfl, fun y c e => ?_, fun x y c e1 e2 => ?_, fun i y e => ?_⟩
    · rw [List.lookup_cons] at e
      split at e
      · cases e
        exact ⟨(e0.bs _ _ (inB hcell)).2, some (.ref C), _, kin _ _ hcell, rfl⟩
      · cases e
    · rw [List.lookup_cons] at e1 e2
      split at e1
      · rename_i h1
        split at e2
        · rename_i h2
          exact (eq_of_beq h1).trans (eq_of_beq h2).symm
        · cases e2
      · cases e1
    · cases i with
      | zero =>
        cases e
        exact ⟨cc, by rw [List.lookup_cons]; simp, fun v hv => by cases hv; exact ⟨.ref C, rfl, _, kin _ _ hcell, rfl⟩⟩
      | succ i => simp at e
  obtain ⟨u, rfl, ru⟩ : ∃ u, us = [.ref a, u] ∧ RelV v u := by
    cases r with
    | @cons _ u0 _ ur ra rw' =>
      cases rw' with
      | @cons _ u1 _ ur1 rb rc =>
        cases rc
        exact ⟨u1, by rw [show u0 = Value.ref a from ra], rb⟩
  refine codeAny_call_function hr.depth (kin _ _ lk) rfl S.co S.gen rfl (codeRec_of kin hcd) (hb _ _ _ _ ?_)
  refine wpAny_newFunctionEnv S.nocell (fun ⟨n, _⟩ hy => S.par n (List.of_mem_zip hy).1) (fun h₁ hns hsb => ⟨lim.fresh _ hsb, ?_⟩) S.kind
  have kp : ∀ b o, s.heap.get? b = some o → h₁.get? b = some o := fun b o e => hsb.extBut b o (Nat.ne_of_lt (Heap.lt_size e)) (Heap.get?_push_of_some _ e)
  let Fn : NF := ⟨nm, qual, params, initB msg slf arg fld k p0 p1 p2 p3 p4 p5 p6 p7 p8 p9, initSc slf arg, [(("__class__" : Str), cc)], cda⟩
  have I : L2.Inv (ncx CX P w K mg base [slf, arg, "__class__"] Fn fI A outer s H E) [] (startF [slf, arg, "__class__"] [.ref a, v] [some (.ref C)]) H { s with heap := h₁, toks := s.toks + 2 } := inv_startN (F := Fn) S hr.hd e0 rfl r Cat hns kp
  show codeAny _ _ (.func Fn.body (envF Fn fI s.heap.objs.size)) _ _
  refine ks_codeAny_funcAt ?_
  have kin1 : K.In h₁ := I.kIn
  obtain ⟨nmC, qC, NC, bs, bm, sn, sub, ab, col, dd, k0, k1, k2, k3, k5, hC, hbm⟩ := T.oex.cls
  obtain ⟨t1, hx⟩ := exo_at I.hok ha
  obtain ⟨m, hnsL, hloc⟩ := id I.loc
  obtain ⟨oD, hD1, hD2⟩ : ∃ oD, h₁.get? C = some oD ∧ oD.data = .cls cdC := by
    unfold clsIn at hcls
    split at hcls
    · rename_i c d cd' sl ho
      cases hcls
      exact ⟨_, kin1 _ _ ho, rfl⟩
    · cases hcls
  have hself : m slf = some (.ref a) := by
    obtain ⟨u', ru', q'⟩ := hloc 0 slf (.ref a) rfl rfl (.inl (S.par slf (by simp)))
    rcases q' with ⟨_, e⟩ | ⟨z, _⟩
    · rw [e, show u' = Value.ref a from ru']
    · rcases z with z | z
      · exact absurd ((S.par slf (by simp)).symm.trans z) (by simp)
      · exact absurd ((S.par slf (by simp)).symm.trans z) (by simp)
  have hxC : a ≠ C := fun z => by
    rw [z] at hx
    rw [hD1] at hx
    cases hx
    cases hD2
  have fin2 : ∀ s2, L2.Inv (ncx CX P w K mg base [slf, arg, "__class__"] Fn fI A outer s H E) [] (startF [slf, arg, "__class__"] [.ref a, v] [some (.ref C)]) H s2 →
      PySem.wpAt (model P w) (A.deeper (envF Fn fI s.heap.objs.size)) (.func Fn.body (envF Fn fI s.heap.objs.size)) (execs [.Assign [.Attribute (.Name slf p6) fld p7] (.Name arg p8) p9] (envF Fn fI s.heap.objs.size)) (fun f s' => CR CX outer P w H s Q E (.ok (.ret (match f with | .ret v => v | _ => .none))) s')
        (fun e s' => wpAny (model P w) (A.deeper (envF Fn fI s.heap.objs.size)) (leaving (envF Fn fI s.heap.objs.size) e) (fun _ s'' => CR CX outer P w H s Q E (.error e) s'') (fun e' s'' => CR CX outer P w H s Q E (.error e') s'') s') s2 := by
    intro s2 I2
    have hX : PSs (ncx CX P w K mg base [slf, arg, "__class__"] Fn fI A outer s H E) [.Assign [.Attribute (.Name slf p6) fld p7] (.Name arg p8) p9] _ :=
      pss_one (ps_ost (pe_var (i := 0) rfl (.inl (S.par slf (by simp))) hd1 hd2) (pe_var (i := 1) rfl (.inl (S.par arg (by simp))) hd3 hd4) (hsw _))
    refine PySem.wpAt_of_wpAny (wpAny_mono (hX.run [] s2 _ H { nx := fun _ H' => Q .non H', rt := Q } I2 ?_) (fun fl s' hs => ?_) fun e s' hs => hs)
    · exact ⟨v, rfl, .ref a, rfl, a, C, rfl, T.oex, hno, .inl ⟨ha, q⟩⟩
    · have fin : ∀ {σ' : L2.St} {H' : Hp} {v' : V} {u' : Value}, L2.Inv (ncx CX P w K mg base [slf, arg, "__class__"] Fn fI A outer s H E) [] σ' H' s' → L2.RelV v' u' → Q v' H' → CE outer P w H s Q u' s' :=
        fun {σ' H' v' u'} J rv q => ⟨v', H', J.os, J.bare, J.base, J.hok, rv, q⟩
      cases fl with
      | ret u' =>
        obtain ⟨v', σ', H', J, rv, q'⟩ := hs
        exact fin J rv q'
      | next =>
        obtain ⟨σ', H', J, q'⟩ := hs
        exact fin (v' := V.non) (u' := Value.none) J rfl q'
      | brk =>
        obtain ⟨_, _, _, q'⟩ := hs
        exact False.elim q'
      | cont =>
        obtain ⟨_, _, _, q'⟩ := hs
        exact False.elim q'
  show PySem.wpAt _ _ _ (execs (_ :: _) _) _ _ _
  obtain ⟨pl, hev⟩ := hev (envF Fn fI s.heap.objs.size)
  refine ks_wpAt_execs_cons (ks_wpAt_Expr_any (ks_wpAt_MethodCall (pl := pl) ?_ hev))
  have hks : (envF Fn fI s.heap.objs.size).kindOf "super" = some .globalImplicit := hsu
  have hkc : (envF Fn fI s.heap.objs.size).kindOf "__class__" = some .free := hcl
  refine ks_wpAt_super_base (env := envF Fn fI s.heap.objs.size) hks hkc (by decide) rfl (kin1 _ _ lk) rfl hp rfl (kin1 _ _ hcode) rfl hvs hfile htop ?_
  obtain ⟨mb, hb1, hb2⟩ := I.mod.blt
  refine ks_loadName_global S.kind hks (Calls.loadGlobal_builtin (mg := mg) (I.mod.glob.keeps I.bk) hmg (hb1.keeps I.bk) ((hb2 "super" (by decide)).trans (show bootBuiltins "super" = some (.type "super") by decide +kernel)) ⟨rfl, ?_⟩)
  refine wpAny_loadName_free S.kind hkc rfl ⟨_, kin1 _ _ hcell, rfl⟩ ?_
  refine wpAny_loadName_local S.kind (show _ = some NameKind.local by rw [har]; exact S.par slf (by simp)) hnsL (by rw [har]; exact hself) ?_
  refine ks_wpAny_isType_cls hD1 hD2 ⟨rfl, ?_⟩
  refine ks_wpAny_call_super hD1 hD2 hx rfl (fun c e => by cases e) (looks_mroIn kin1 T.self) (fun h2 eso k2 => ?_)
  have kin2 : K.In h2 := kin1.keeps k2
  have hal : alongIn K "__init__" ((cdC.mro.dropWhile (· != .ref C)).drop 1) = some (some (.builtin "ValueError.__init__")) := by
    have e := T.sup
    unfold ks_superIn at e
    rw [hcls] at e
    exact e
  have Ia : InstAt h2 a { cls := .ref C, dict := none, data := .fields #[.ref t1, .none, .none, .none, .bool false, .none] } C none := ⟨k2 _ _ hx, rfl, rfl, trivial⟩
  have hI : Looks (model P w) h2 (isInstance (.ref a) (.type "ValueError")) true := Ia.type.andThen (looks_subIn kin2 T.ve)
  refine kxs_getMethod kxs_ValueError eso (looks_opaque kin2 T.opq) (l₀ := cdC.mro) (fun A Q E s k q => wpAny_bind ((looks_clsIn kin2 hcls) A _ E s k (wpAny_pure q))) rfl kin2 hal hI hxC (by decide) ?_
  have I3 : L2.Inv (ncx CX P w K mg base [slf, arg, "__class__"] Fn fI A outer s H E) [] (startF [slf, arg, "__class__"] [.ref a, v] [some (.ref C)]) H ⟨h2.push (kxs_mw "ValueError.__init__" a), s.gens, s.drawn, s.toks + 2 + 1, s.os⟩ :=
    I.kept (h' := h2.push (kxs_mw "ValueError.__init__" a)) (t' := s.toks + 2 + 1) fun b o e => Heap.get?_push_of_some _ (k2 b o e)
  have I4 := I3.pins_of (pins' := [(h2.objs.size, kxs_mw "ValueError.__init__" a)]) (by
    intro p hp
    obtain rfl : p = _ := by simpa using hp
    have le : h₁.objs.size ≤ h2.objs.size := Nat.le_of_lt (Heap.lt_size eso)
    have hn : H h2.objs.size = none := I.hok.fresh le
    exact ⟨Heap.get?_push_size _ rfl, hn, fun z => by have := I.lt; rw [← z] at this; exact absurd (Nat.lt_of_lt_of_le this le) (Nat.lt_irrefl _), I.nofs le, fun v z => by cases z⟩)
  show wpAny _ _ (callWith p4 (.ref h2.objs.size) [] (backTo p4 (starEach [.Constant (.str msg) k p3] (envF Fn fI s.heap.objs.size))) []) _ _ _
  have hPA : PA (ncx CX P w K mg base [slf, arg, "__class__"] Fn fI A outer s H E) [.Constant (.str msg) k p3] _ := pa_cons pe_str pa_nil (by rfl)
  refine kxs_callWith (i := "ValueError.__init__") (x := a) rfl (Calls.evalArgs_plain (thn (wpAny_mono (hPA.run p4 [(h2.objs.size, kxs_mw "ValueError.__init__" a)] _ _ H (fun vs H' => H' = H ∧ vs = [.str msg]) I4 ?_) (fun _ _ x => x) ?_) ?_))
  · exact ⟨rfl, rfl⟩
  · exact fun e s' x => x
  · rintro us s4 ⟨vs, H4, I5, r5, eH, rfl⟩
    rw [eH] at I5
    have hu := (I5.pin (h2.objs.size, kxs_mw "ValueError.__init__" a) (by simp)).1
    obtain ⟨t5, he⟩ := exo_at I5.hok ha
    refine ⟨hu, ?_⟩
    have hz : us.length ≤ sizeLine := by
      rw [← Paired.length r5]
      show 1 ≤ sizeLine
      decide
    show wpAny _ _ (call (.ref h2.objs.size) us []) _ _ _
    obtain ⟨h5, g5, d5, tk5, os5⟩ := s4
    refine wpAny_call (codeAny_of_tree ?_)
    show wpAny _ _ (callAny (.ref h2.objs.size) ⟨us, []⟩) _ _ _
    simp only [callAny]
    refine wpAny_bind (wpAny_load hu ?_)
    simp only [kxs_mw, show (Value.type "method-wrapper" == Value.type "method" || Value.type "method-wrapper" == Value.type "builtin_function_or_method" || Value.type "method-wrapper" == Value.type "method-wrapper") = true by decide, if_true]
    refine KFB.if_so (by decide) ?_
    refine wpAny_bind (check_bound_init PySem.F.excBase_ValueError.toExcCallFacts (I5.kIn _ _ hC) he rfl ?_)
    refine wpAny_bind (wpAny_pure (wpAny_pure ?_))
    refine ⟨plainId_quiet PySem.F.excBase_ValueError.init.plain _, codeAny_builtin PySem.F.excBase_ValueError.initEntry ?_⟩
    refine exc_init_tree (cls := .ref C) (t0 := t5) (dv := none) (c2 := .none) (c3 := .none) (b4 := .bool false) he hz fun h6 k6 e6 _ => ?_
    have J := I5.write (t' := tk5) (x := a) (e := a) (o := exo a C none) (by rw [ha]; exact True.intro) (.inl rfl) k6 ⟨_, e6⟩ (exo_ok e6)
    have eu : upd H a (exo a C none) = H := by
      funext b
      by_cases hb : b = a
      · rw [hb, upd_same, ha]
      · rw [upd_ne hb]
    rw [eu] at J
    exact fin2 _ (J.pins_of fun p hp => absurd hp (by simp))
end Ev

set_option maxRecDepth 100000
/-! Ev, part AC: what is asked of an own exception that is handled: its class, its field; how many items are the same. -/
namespace Ev
open PySem PySem.Spec L2 PyProof.Rows
/-- xs.count(y), flat items -/
def rCnt (K : PySem.W.Frag) : V → List V → Hp → VK → Prop := fun x xs H Q => ∃ (a : Addr) (ys : List V) (y : V), x = V.ref a ∧ xs = [y] ∧ SqL K H a ys ∧ flatV y = true ∧ ys.all flatV = true ∧ Q (.int ((ys.countP fun z => eqV z y) : Nat)) H
theorem cnt_same {ys : List V} {its : List Value} {y : V} (rv : Vals ys its) (f : ys.all flatV = true) : its.countP (eqU y) = ys.countP fun z => eqV z y := by
  induction rv with
  | nil => rfl
  | @cons v u vs us r rs ih =>
    have f' : flatV v = true ∧ vs.all flatV = true := by simpa using f
    rw [List.countP_cons, List.countP_cons, ih f'.2, eqU_of r f'.1]
theorem mt_cnt {X : Cx} : MtR X "list.count" (rCnt X.K) := by
  intro pins s σ H x xs v us Q I rx rxs h
  obtain ⟨a, ys, y, rfl, rfl, hs, fy, fys, q⟩ := h
  cases rx
  obtain ⟨uy, rfl, ry⟩ := rxs.one
  obtain ⟨its, rv, ⟨⟨cls, dd, data, sl⟩, n, ho, hc, hdn, hd⟩, hlen⟩ := I.list hs
  dsimp only at hc hd
  subst hc hd
  refine call_meets PySem.F.slot_list_count ⟨_, ho, rfl⟩ PySem.F.entry_list_count (PySem.F.args_list_count_2 _ _) (SeqAt.list_countAt a its.toArray n dd sl uy (eqU y)) ⟨ho, fun u' hu' => mem_eqAt ry fy rv fys u' (by simpa using hu'), ?_⟩
  refine ⟨.int ((ys.countP fun z => eqV z y) : Nat), H, I.tok _, ⟨s.toks, ?_⟩, q⟩
  show Value.int ((its.toArray.toList.countP (eqU y) : Nat) : Int) s.toks = _
  rw [show its.toArray.toList = its from rfl, cnt_same rv fys]
/-- the object of a pinned exception: its class D, its dict dd -/
theorem inst_pin {X : Cx} {pins : List (Addr × Obj)} {σ : L2.St} {H : Hp} {s : Shared} {p : Addr × Obj} {D dd : Addr} {fs : List (Str × V)} (I : L2.Inv X pins σ H s) (hp : p ∈ X.pn) (hz : Zc (.ref D) (some dd) p.2) (hf : ∃ vs, p.2.data = .fields vs) (ed : H dd = some (.xd fs)) :
    ∃ od, PySem.W.InstAt s.heap p.1 p.2 D (some od) ∧ ∀ n v, fs.lookup n = some v → ∃ u, PySem.W.lookIn n od = some (some u) ∧ RelV v u := by
  obtain ⟨hg, _⟩ := I.pin p (List.mem_append_left _ hp)
  obtain ⟨vs, hd⟩ := hf
  have hx : ObjOk X.prog X.w H s.heap dd (.xd fs) := I.hok dd _ ed
  obtain ⟨mA, hns, hr⟩ := hx
  obtain ⟨od, ho, hl⟩ := lookIn_ns hns
  refine ⟨od, ⟨hg, hz.1, by unfold PySem.W.notCls; rw [hd] <;> rfl, by rw [hz.2]; exact ho⟩, fun n v hv => ?_⟩
  obtain ⟨u, hu, ru⟩ := RelO.some_of (v := v) (o := mA n) (by rw [← hv]; exact hr n)
  exact ⟨u, by rw [hl, hu], ru⟩
/-- isinstance(e, c), e the pinned exception -/
theorem call_isP {X : Cx} {p : Addr × Obj} {D dd : Addr} (hp : p ∈ X.pn) (C : ExcC X.K D) (hz : Zc (.ref D) (some dd) p.2) (hf : ∃ vs, p.2.data = .fields vs) :
    CallR X (.builtin "isinstance") (fun xs H Q => ∃ (c : V) (cv : Value) (b : Bool) (fs : List (Str × V)), xs = [.ref p.1, c] ∧ (∀ u, RelV c u → u = cv) ∧ PySem.W.kitOne X.K (.ref D) cv = some b ∧ H dd = some (.xd fs) ∧ Q (.bl b) H) := by
  intro pins s σ H xs us Q I r h
  obtain ⟨c, cv, b, fs, rfl, hcv, e, ed, q⟩ := h
  cases r with
  | @cons _ u0 _ ur ra rr =>
    cases ra
    obtain ⟨uc, rfl, rc⟩ : ∃ uc, ur = [uc] ∧ RelV c uc := by
      cases rr with
      | cons rt r2 =>
        cases r2
        exact ⟨_, rfl, rt⟩
    obtain rfl := hcv _ rc
    obtain ⟨od, J, _⟩ := inst_pin I hp hz hf ed
    have hcl : (PySem.W.clsIn X.K D).isSome = true := by
      obtain ⟨cd, hc, _⟩ := PySem.W.any_some C.hd
      rw [hc]; rfl
    exact PySem.W.kia_one (PySem.W.kitx_exc hcl C.hg C.hk C.hs C.ha C.hn C.ht C.hm) I.kIn J e (fun z => nomatch z) fun tk => ⟨.bl b, H, I.kept (t' := tk) fun _ _ z => z, rfl, q⟩
/-- e.f, e the pinned exception -/
theorem pe_fldP {X : Cx} {p : Addr × Obj} {D dd : Addr} {e : Expr} {te : TE} {pos : Pos} {n : Str} (hp : p ∈ X.pn) (C : ExcC X.K D) (hno : PySem.W.findIn X.K (.ref D) n = some none) (hz : Zc (.ref D) (some dd) p.2) (hf : ∃ vs, p.2.data = .fields vs)
    (he : PE X e te) (hb : attributeBase e n X.env (eval e X.env) = eval e X.env := by rfl) :
    PE X (.Attribute e n pos) (fun σ H Q => te σ H fun x H1 => x = .ref p.1 ∧ ∃ (fs : List (Str × V)) (v : V), H1 dd = some (.xd fs) ∧ fs.lookup n = some v ∧ Q v H1) := by
  refine ⟨fun pins s σ H Q I h => ?_⟩
  refine attr_of hb (thn (he.run pins s σ H _ I h) fun u s1 hh => ?_)
  obtain ⟨x, H1, I1, rx, ex, fs, v, ed, l, q⟩ := hh
  subst ex
  obtain rfl : u = Value.ref p.1 := rx
  obtain ⟨od, J, hl⟩ := inst_pin I1 hp hz hf ed
  obtain ⟨u, hu, ru⟩ := hl n v l
  exact HandSPX.exc_get I1.kIn J C.hg C.hk C.hs (PySem.W.findObj_own C.hd hno rfl hu) (handed_of ru) ⟨v, H1, I1.tok _, ru, q⟩
end Ev

set_option maxRecDepth 100000
/-! Ev, part AD: the word for an own exception that is handled. -/
namespace Ev
open PySem PySem.Spec L2 PyProof.Rows
def cNm : Nat → Str
  | 0 => "TextError" | 1 => "DeckError" | 2 => "ArgumentError" | 3 => "PaperError" | _ => "TooMany"
def cFd : Nat → Str
  | 0 => "at" | _ => "reason"
/-- the word by the class and the field -/
def wordV : Nat → V → Option Str
  | 0, .int i => if i.natAbs.log2 < 1900 then some ("text " ++ Str.ofString (toString i)) else none
  | 1, .str s => if s.length ≤ 1000 then some ("deck " ++ s) else none
  | 2, .str s => if s.length ≤ 1000 then some ("argument " ++ s) else none
  | 3, .str s => if s.length ≤ 1000 then some ("paper " ++ s) else none
  | 4, .str s => if s.length ≤ 1000 then some ("many " ++ s) else none
  | _, _ => none
/-- the classes as the written part has them -/
structure ErrK (K : PySem.W.Frag) (mg : Str → Option Value) (cA : Nat → Addr) : Prop where
  gl : ∀ c < 5, mg (cNm c) = some (.ref (cA c))
  ex : ∀ c < 5, ExcC K (cA c)
  fa : ∀ c < 5, PySem.W.findIn K (.ref (cA c)) "at" = some none
  fr : ∀ c < 5, PySem.W.findIn K (.ref (cA c)) "reason" = some none
  is : ∀ c < 5, ∀ d < 5, PySem.W.kitOne K (.ref (cA c)) (.ref (cA d)) = some (decide (c = d))
  ve : ∀ c < 5, PySem.W.kitOne K (.ref (cA c)) (.type "ValueError") = some true
abbrev xI (p : Nat → Pos) (k : Nat) (x : Str) : Expr := .Call (.Name "isinstance" (p k)) [.Name "error" (p (k + 1)), .Name x (p (k + 2))] [] (p (k + 3))
abbrev xS (p : Nat → Pos) (k : Nat) (x : Str) : Expr := .Constant (.str x) 0 (p k)
/-- the text of the def -/
def wordB (p : Nat → Pos) : List Stmt :=
  [.Assign [.Name "heads" (p 0)] (.List [xS p 1 "deck ", xS p 2 "argument ", xS p 3 "paper ", xS p 4 "many "] (p 5)) (p 6),
   .Assign [.Name "kinds_of" (p 7)] (.List [xI p 8 "DeckError", xI p 12 "ArgumentError", xI p 16 "PaperError", xI p 20 "TooMany", xI p 24 "TextError"] (p 28)) (p 29),
   .If (.BoolOp .Or [.Compare (.Call (.Attribute (.Name "kinds_of" (p 30)) "count" (p 31)) [.Constant (.bool true) 0 (p 32)] [] (p 33)) [.NotEq] [.Constant (.int 1) 0 (p 34)] (p 35), .UnaryOp .Not (xI p 36 "ValueError") (p 40)] (p 41)) [.Return (some (xS p 42 "other")) (p 43)] [] (p 44),
   .Return (some (.IfExp (.Subscript (.Name "kinds_of" (p 45)) (.Constant (.int 4) 0 (p 46)) (p 47)) (.BinOp (xS p 48 "text ") .Add (.Call (.Name "str" (p 49)) [.Attribute (.Name "error" (p 50)) "at" (p 51)] [] (p 52)) (p 53))
     (.BinOp (.Subscript (.Name "heads" (p 54)) (.Call (.Attribute (.Name "kinds_of" (p 55)) "index" (p 56)) [.Constant (.bool true) 0 (p 57)] [] (p 58)) (p 59)) .Add (.Attribute (.Name "error" (p 60)) "reason" (p 61)) (p 62)) (p 63))) (p 64)]
structure WordS (sc : Scope) : Prop where
  kind : sc.kind = .function
  loc : ∀ x ∈ (["error", "heads", "kinds_of"] : List Str), sc.names.lookup x = some .local
  glo : ∀ x ∈ (["isinstance", "DeckError", "ArgumentError", "PaperError", "TooMany", "TextError", "ValueError", "str"] : List Str), sc.names.lookup x = some .globalImplicit
section
variable {X : Cx} {p : Nat → Pos} {cA : Nat → Addr} {q : Addr × Obj} {c : Nat} {dd : Addr} {v : V}
theorem word_body (hN : X.N = (["error", "heads", "kinds_of"] : List Str)) (hs : WordS X.env.scope) (hk : ErrK X.K X.mg cA) (hi : X.mg "isinstance" = none) (hst : X.mg "str" = none) (hve : X.mg "ValueError" = none)
    (p1 : ((p 31).endLine == (p 33).line) = true) (p2 : ((p 56).endLine == (p 58).line) = true) (hc : c < 5) (hq : q ∈ X.pn) (hz : Zc (.ref (cA c)) (some dd) q.2) (hf : ∃ vs, q.2.data = .fields vs) :
    PSs X (wordB p) (fun D σ H => σ.length = 3 ∧ σ[0]? = some (some (.ref q.1)) ∧ H dd = some (.xd [(cFd c, v)]) ∧ ∃ w, wordV c v = some w ∧ ∀ a b, H a = none → H b = none → a ≠ b → ∀ hs ks, D.rt (.str w) (upd (upd H a (.lst hs)) b (.lst ks))) := by
  have nd : X.N.Nodup := by rw [hN]; decide
  have n0 : X.N[0]? = some ("error" : Str) := by rw [hN]; rfl
  have n1 : X.N[1]? = some ("heads" : Str) := by rw [hN]; rfl
  have n2 : X.N[2]? = some ("kinds_of" : Str) := by rw [hN]; rfl
  have v0 : Vis X.env.scope "error" := .inl (hs.loc _ (by simp))
  have v1 : Vis X.env.scope "heads" := .inl (hs.loc _ (by simp))
  have v2 : Vis X.env.scope "kinds_of" := .inl (hs.loc _ (by simp))
  have gI : Gl X "isinstance" := hs.glo _ (by simp)
  have gS : Gl X "str" := hs.glo _ (by simp)
  have gV : Gl X "ValueError" := hs.glo _ (by simp)
  have bI : bootBuiltins "isinstance" = some (.builtin "isinstance") := by decide +kernel
  have bS : bootBuiltins "str" = some (.type "str") := by decide +kernel
  have bV : bootBuiltins "ValueError" = some (.type "ValueError") := by decide +kernel
  have isE : ∀ (k d : Nat) (x : Str), d < 5 → x = cNm d → Gl X x → PE X (xI p k x) (fun σ H Q => σ[0]? = some (some (.ref q.1)) ∧ H dd = some (.xd [(cFd c, v)]) ∧ Q (.bl (decide (c = d))) H) := fun k d x hd ex gx => by
    have dbg : (x == ("__debug__" : Str)) = false := by
      rw [ex]
      match d, hd with
      | 0, _ => decide
      | 1, _ => decide
      | 2, _ => decide
      | 3, _ => decide
      | 4, _ => decide
    refine PE.weak (pe_callB (call_isP hq (hk.ex c hc) hz hf) gI hi bI (pa_cons (pe_var n0 v0) (pa_cons (pe_glob gx (by rw [ex]; exact hk.gl d hd) (v := .ref (cA d)) rfl dbg) pa_nil))) fun σ H Q ⟨h1, h2, h3⟩ => ?_
    exact ⟨_, h1, _, _, _, _, rfl, fun u r => r, hk.is c hc d hd, h2, h3⟩
  have isV : ∀ (k : Nat), PE X (xI p k "ValueError") (fun σ H Q => σ[0]? = some (some (.ref q.1)) ∧ H dd = some (.xd [(cFd c, v)]) ∧ Q (.bl true) H) := fun k => by
    refine PE.weak (pe_callB (call_isP hq (hk.ex c hc) hz hf) gI hi bI (pa_cons (pe_var n0 v0) (pa_cons (pe_bltn gV hve bV (v := .ty "ValueError") rfl) pa_nil))) fun σ H Q ⟨h1, h2, h3⟩ => ?_
    exact ⟨_, h1, _, _, _, _, rfl, fun u r => r, hk.ve c hc, h2, h3⟩
  have S1 : PS X (.Assign [.Name "heads" (p 0)] (.List [xS p 1 "deck ", xS p 2 "argument ", xS p 3 "paper ", xS p 4 "many "] (p 5)) (p 6)) _ :=
    ps_set (i := 1) nd n1 (.inl (hs.loc _ (by simp))) (pe_lst (pa_cons pe_str (pa_cons pe_str (pa_cons pe_str (pa_cons pe_str pa_nil))))) rfl (.inr (hs.loc _ (by simp)))
  have S2 : PS X (.Assign [.Name "kinds_of" (p 7)] (.List [xI p 8 "DeckError", xI p 12 "ArgumentError", xI p 16 "PaperError", xI p 20 "TooMany", xI p 24 "TextError"] (p 28)) (p 29)) _ :=
    ps_set (i := 2) nd n2 (.inl (hs.loc _ (by simp))) (pe_lst (pa_cons (isE 8 1 _ (by decide) rfl (hs.glo _ (by simp))) (pa_cons (isE 12 2 _ (by decide) rfl (hs.glo _ (by simp))) (pa_cons (isE 16 3 _ (by decide) rfl (hs.glo _ (by simp)))
      (pa_cons (isE 20 4 _ (by decide) rfl (hs.glo _ (by simp))) (pa_cons (isE 24 0 _ (by decide) rfl (hs.glo _ (by simp))) pa_nil)))))) rfl (.inr (hs.loc _ (by simp)))
  have bm : ∀ {pc pa pk pm : Pos} {nm : Str} {id : String} {r : V → List V → Hp → VK → Prop}, Slot "list" nm id → typeOf (.builtin id) = pure (.type "method_descriptor") → MtR X id r → (pa.endLine == pm.line) = true →
      PE X (.Call (.Attribute (.Name "kinds_of" pc) nm pa) [.Constant (.bool true) 0 pk] [] pm) _ := fun sl ty mt hp =>
    pe_bm PySem.F.plainAttrs_list sl ty mt (pe_var n2 v2) (pa_cons pe_bl pa_nil) rfl rfl hp
  have S3 : PS X (.If (.BoolOp .Or [.Compare (.Call (.Attribute (.Name "kinds_of" (p 30)) "count" (p 31)) [.Constant (.bool true) 0 (p 32)] [] (p 33)) [.NotEq] [.Constant (.int 1) 0 (p 34)] (p 35), .UnaryOp .Not (xI p 36 "ValueError") (p 40)] (p 41)) [.Return (some (xS p 42 "other")) (p 43)] [] (p 44)) _ :=
    ps_if (PW.pt (pw_or (pt_cmpR op_ne (bm PySem.F.slot_list_count PySem.F.type_list_count mt_cnt p1) pe_int rfl) (pw_or1 (pt_not (pt_val (isV 36)))))) (pss_one (ps_ret pe_str)) pss_nil
  have S4 : PS X (.Return (some (.IfExp (.Subscript (.Name "kinds_of" (p 45)) (.Constant (.int 4) 0 (p 46)) (p 47)) (.BinOp (xS p 48 "text ") .Add (.Call (.Name "str" (p 49)) [.Attribute (.Name "error" (p 50)) "at" (p 51)] [] (p 52)) (p 53))
     (.BinOp (.Subscript (.Name "heads" (p 54)) (.Call (.Attribute (.Name "kinds_of" (p 55)) "index" (p 56)) [.Constant (.bool true) 0 (p 57)] [] (p 58)) (p 59)) .Add (.Attribute (.Name "error" (p 60)) "reason" (p 61)) (p 62)) (p 63))) (p 64)) _ :=
    ps_ret (pe_ifExp (pt_val (pe_ix ix_seq (pe_var n2 v2) pe_int (fun _ _ => rfl))) (pe_op op_add_str pe_str (pe_callTy call_str_int gS hst bS (pa_cons (pe_fldP hq (hk.ex c hc) (hk.fa c hc) hz hf (pe_var n0 v0)) pa_nil)))
      (pe_op op_add_str (pe_ix ix_seq (pe_var n1 v1) (bm PySem.F.slot_list_index PySem.F.type_list_index mt_index p2) (fun _ _ => rfl)) (pe_fldP hq (hk.ex c hc) (hk.fr c hc) hz hf (pe_var n0 v0))))
  refine PSs.weak (pss_cons S1 (pss_cons S2 (pss_cons S3 (pss_one S4)))) fun D σ H ⟨hl, h0, hd, w, hw, fin⟩ => ?_
  obtain ⟨s0, s1, s2, rfl⟩ : ∃ s0 s1 s2, σ = [s0, s1, s2] := by
    match σ, hl with
    | [a, b, c], _ => exact ⟨a, b, c, rfl⟩
  have e0 : s0 = some (.ref q.1) := by simpa using h0
  subst e0
  refine ⟨by decide, fun a ha => ?_⟩
  have dn : dd ≠ a := fun z => by rw [z, ha] at hd; cases hd
  have hd1 : ∀ xs, upd H a (.lst xs) dd = some (.xd [(cFd c, v)]) := fun xs => by rw [upd_ne dn]; exact hd
  refine ⟨rfl, hd1 _, rfl, hd1 _, rfl, hd1 _, rfl, hd1 _, rfl, hd1 _, by show 5 ≤ sizeLine; decide, fun b hb => ?_⟩
  have ab : a ≠ b := fun z => by rw [← z, upd_same] at hb; cases hb
  have hb0 : H b = none := by rw [upd_ne (Ne.symm ab)] at hb; exact hb
  have db : dd ≠ b := fun z => by rw [z, hb0] at hd; cases hd
  have hd2 : ∀ xs ys, upd (upd H a (.lst xs)) b (.lst ys) dd = some (.xd [(cFd c, v)]) := fun xs ys => by rw [upd_ne db]; exact hd1 xs
  have fin := fin a b ha hb0 ab
  have hb2 : ∀ xs ys, upd (upd H a (.lst xs)) b (.lst ys) b = some (.lst ys) := fun xs ys => upd_same
  have ha2 : ∀ xs ys, upd (upd H a (.lst xs)) b (.lst ys) a = some (.lst xs) := fun xs ys => by rw [upd_ne ab, upd_same]
  have h0' : (([some (V.ref q.1), s1, s2].set 1 (some (.ref a))).set 2 (some (.ref b)))[0]? = some (some (V.ref q.1)) := rfl
  obtain rfl | rfl | rfl | rfl | rfl : c = 0 ∨ c = 1 ∨ c = 2 ∨ c = 3 ∨ c = 4 := by omega
  · refine ⟨.ref b, rfl, .inl ⟨rfl, _, .inl (.inl (hb2 _ _))⟩, ⟨b, _, .bl true, rfl, rfl, .inl (.inl (hb2 _ _)), rfl, rfl, rfl, false, rfl, ?_⟩⟩
    simp only [Bool.false_eq_true, if_false]
    refine ⟨h0', hd2 _ _, true, rfl, ?_⟩
    simp only [Bool.not_true, Bool.false_eq_true, if_false]
    refine ⟨.ref b, rfl, .inl ⟨b, _, 4, .bl true, rfl, rfl, .inl (.inl (hb2 _ _)), rfl, true, rfl, ?_⟩⟩
    simp only [if_true]
    obtain ⟨i, rfl, hi, rfl⟩ : ∃ i, v = .int i ∧ i.natAbs.log2 < 1900 ∧ w = "text " ++ Str.ofString (toString i) := by
      cases v <;> simp only [wordV] at hw <;> try (cases hw; done)
      split at hw
      · cases hw
        exact ⟨_, rfl, by assumption, rfl⟩
      · cases hw
    refine ⟨.ref q.1, rfl, rfl, _, _, hd2 _ _, rfl, i, rfl, by omega, "text ", _, rfl, rfl, ?_, fin _ _⟩
    have l1 : i.natAbs < 2 ^ 1900 := by
      by_cases z : i.natAbs = 0
      · rw [z]; exact Nat.two_pow_pos 1900
      · exact (Nat.log2_lt z).mp hi
    have l2 : (2 : Nat) ^ 1900 ≤ 10 ^ 760 := by
      rw [show (1900 : Nat) = 10 * 190 from rfl, Nat.pow_mul, show (760 : Nat) = 4 * 190 from rfl, Nat.pow_mul]
      exact Nat.pow_le_pow_left (by decide) _
    have l3 := int_text_length_le10 (a := i) (k := 760) (by decide) (Nat.lt_of_lt_of_le l1 l2)
    show Str.length (Str.ofString "text ") + Str.length (Str.ofString (toString i)) ≤ sizeLine
    rw [PySem.ofString_length (toString i)]
    have : Str.length (Str.ofString "text ") ≤ 100 := by decide
    have : 2000 ≤ sizeLine := by decide
    omega
  · refine ⟨.ref b, rfl, .inl ⟨rfl, _, .inl (.inl (hb2 _ _))⟩, ⟨b, _, .bl true, rfl, rfl, .inl (.inl (hb2 _ _)), rfl, rfl, rfl, false, rfl, ?_⟩⟩
    simp only [Bool.false_eq_true, if_false]
    refine ⟨h0', hd2 _ _, true, rfl, ?_⟩
    simp only [Bool.not_true, Bool.false_eq_true, if_false]
    refine ⟨.ref b, rfl, .inl ⟨b, _, 4, .bl false, rfl, rfl, .inl (.inl (hb2 _ _)), rfl, false, rfl, ?_⟩⟩
    simp only [Bool.false_eq_true, if_false]
    obtain ⟨t, rfl, ht, rfl⟩ : ∃ t, v = .str t ∧ t.length ≤ 1000 ∧ w = "deck " ++ t := by
      cases v <;> simp only [wordV] at hw <;> try (cases hw; done)
      split at hw
      · cases hw
        exact ⟨_, rfl, by assumption, rfl⟩
      · cases hw
    refine ⟨.ref a, rfl, .ref b, rfl, .inl ⟨rfl, _, .inl (.inl (hb2 _ _))⟩, ⟨b, _, .bl true, 0, .bl true, rfl, rfl, .inl (.inl (hb2 _ _)), rfl, rfl, rfl, rfl, ?_, ?_⟩⟩
    · intro m z' hm hz'
      revert hz'
      match m, hm with
      | m, hm => exact absurd hm (Nat.not_lt_zero _)
    · refine .inl ⟨a, _, 0, .str "deck ", rfl, rfl, .inl (.inl (ha2 _ _)), rfl, .ref q.1, rfl, rfl, _, _, hd2 _ _, rfl, "deck ", t, rfl, rfl, ?_, fin _ _⟩
      have : ("deck " : Str).length ≤ 100 := by decide
      show _ ≤ sizeLine
      have : 2000 ≤ sizeLine := by decide
      omega
  · refine ⟨.ref b, rfl, .inl ⟨rfl, _, .inl (.inl (hb2 _ _))⟩, ⟨b, _, .bl true, rfl, rfl, .inl (.inl (hb2 _ _)), rfl, rfl, rfl, false, rfl, ?_⟩⟩
    simp only [Bool.false_eq_true, if_false]
    refine ⟨h0', hd2 _ _, true, rfl, ?_⟩
    simp only [Bool.not_true, Bool.false_eq_true, if_false]
    refine ⟨.ref b, rfl, .inl ⟨b, _, 4, .bl false, rfl, rfl, .inl (.inl (hb2 _ _)), rfl, false, rfl, ?_⟩⟩
    simp only [Bool.false_eq_true, if_false]
    obtain ⟨t, rfl, ht, rfl⟩ : ∃ t, v = .str t ∧ t.length ≤ 1000 ∧ w = "argument " ++ t := by
      cases v <;> simp only [wordV] at hw <;> try (cases hw; done)
      split at hw
      · cases hw
        exact ⟨_, rfl, by assumption, rfl⟩
      · cases hw
    refine ⟨.ref a, rfl, .ref b, rfl, .inl ⟨rfl, _, .inl (.inl (hb2 _ _))⟩, ⟨b, _, .bl true, 1, .bl true, rfl, rfl, .inl (.inl (hb2 _ _)), rfl, rfl, rfl, rfl, ?_, ?_⟩⟩
    · intro m z' hm hz'
      revert hz'
      match m, hm with
      | 0, _ => intro e; cases e; rfl
    · refine .inl ⟨a, _, 1, .str "argument ", rfl, rfl, .inl (.inl (ha2 _ _)), rfl, .ref q.1, rfl, rfl, _, _, hd2 _ _, rfl, "argument ", t, rfl, rfl, ?_, fin _ _⟩
      have : ("argument " : Str).length ≤ 100 := by decide
      show _ ≤ sizeLine
      have : 2000 ≤ sizeLine := by decide
      omega
  · refine ⟨.ref b, rfl, .inl ⟨rfl, _, .inl (.inl (hb2 _ _))⟩, ⟨b, _, .bl true, rfl, rfl, .inl (.inl (hb2 _ _)), rfl, rfl, rfl, false, rfl, ?_⟩⟩
    simp only [Bool.false_eq_true, if_false]
    refine ⟨h0', hd2 _ _, true, rfl, ?_⟩
    simp only [Bool.not_true, Bool.false_eq_true, if_false]
    refine ⟨.ref b, rfl, .inl ⟨b, _, 4, .bl false, rfl, rfl, .inl (.inl (hb2 _ _)), rfl, false, rfl, ?_⟩⟩
    simp only [Bool.false_eq_true, if_false]
    obtain ⟨t, rfl, ht, rfl⟩ : ∃ t, v = .str t ∧ t.length ≤ 1000 ∧ w = "paper " ++ t := by
      cases v <;> simp only [wordV] at hw <;> try (cases hw; done)
      split at hw
      · cases hw
        exact ⟨_, rfl, by assumption, rfl⟩
      · cases hw
    refine ⟨.ref a, rfl, .ref b, rfl, .inl ⟨rfl, _, .inl (.inl (hb2 _ _))⟩, ⟨b, _, .bl true, 2, .bl true, rfl, rfl, .inl (.inl (hb2 _ _)), rfl, rfl, rfl, rfl, ?_, ?_⟩⟩
    · intro m z' hm hz'
      revert hz'
      match m, hm with
      | 0, _ => intro e; cases e; rfl
      | 1, _ => intro e; cases e; rfl
    · refine .inl ⟨a, _, 2, .str "paper ", rfl, rfl, .inl (.inl (ha2 _ _)), rfl, .ref q.1, rfl, rfl, _, _, hd2 _ _, rfl, "paper ", t, rfl, rfl, ?_, fin _ _⟩
      have : ("paper " : Str).length ≤ 100 := by decide
      show _ ≤ sizeLine
      have : 2000 ≤ sizeLine := by decide
      omega
  · refine ⟨.ref b, rfl, .inl ⟨rfl, _, .inl (.inl (hb2 _ _))⟩, ⟨b, _, .bl true, rfl, rfl, .inl (.inl (hb2 _ _)), rfl, rfl, rfl, false, rfl, ?_⟩⟩
    simp only [Bool.false_eq_true, if_false]
    refine ⟨h0', hd2 _ _, true, rfl, ?_⟩
    simp only [Bool.not_true, Bool.false_eq_true, if_false]
    refine ⟨.ref b, rfl, .inl ⟨b, _, 4, .bl false, rfl, rfl, .inl (.inl (hb2 _ _)), rfl, false, rfl, ?_⟩⟩
    simp only [Bool.false_eq_true, if_false]
    obtain ⟨t, rfl, ht, rfl⟩ : ∃ t, v = .str t ∧ t.length ≤ 1000 ∧ w = "many " ++ t := by
      cases v <;> simp only [wordV] at hw <;> try (cases hw; done)
      split at hw
      · cases hw
        exact ⟨_, rfl, by assumption, rfl⟩
      · cases hw
    refine ⟨.ref a, rfl, .ref b, rfl, .inl ⟨rfl, _, .inl (.inl (hb2 _ _))⟩, ⟨b, _, .bl true, 3, .bl true, rfl, rfl, .inl (.inl (hb2 _ _)), rfl, rfl, rfl, rfl, ?_, ?_⟩⟩
    · intro m z' hm hz'
      revert hz'
      match m, hm with
      | 0, _ => intro e; cases e; rfl
      | 1, _ => intro e; cases e; rfl
      | 2, _ => intro e; cases e; rfl
    · refine .inl ⟨a, _, 3, .str "many ", rfl, rfl, .inl (.inl (ha2 _ _)), rfl, .ref q.1, rfl, rfl, _, _, hd2 _ _, rfl, "many ", t, rfl, rfl, ?_, fin _ _⟩
      have : ("many " : Str).length ≤ 100 := by decide
      show _ ≤ sizeLine
      have : 2000 ≤ sizeLine := by decide
      omega
end
end Ev

set_option maxRecDepth 100000
/-! Ev, part AE: the word's def is called in an except suite. -/
namespace Ev
open PySem PySem.Spec L2 L2H PyProof.Rows
/-- the facts of a text's _law_word -/
structure WordK (P : Program) (w : World) (K : PySem.W.Frag) (mg : Str → Option Value) (cA : Nat → Addr) (f : Addr) (fd : FuncData) (p : Nat → Pos) (st : Stmt) : Prop where
  fn : ∃ x qual, Fun K x qual st f fd
  sc : FnScope ["error", "heads", "kinds_of"] ["error"] (defScope st)
  bd : defBody st = wordB p
  ws : WordS (defScope st)
  er : ErrK K mg cA
  gI : mg "isinstance" = none
  gS : mg "str" = none
  gV : mg "ValueError" = none
  p1 : ((p 31).endLine == (p 33).line) = true
  p2 : ((p 56).endLine == (p 58).line) = true
  bi : Binds K fd ["error"] []
  gl : mg "_law_word" = some (.ref f)
section
variable {P : Program} {w : World} {K : PySem.W.Frag} {mg : Str → Option Value} {base : Heap} {cA : Nat → Addr} {f : Addr} {fd : FuncData} {pp : Nat → Pos} {st : Stmt}
theorem word_run (T : WordK P w K mg cA f fd pp st) {A : Around} {outer : List PySem.Env} {s : Shared} {H : Hp} {Q : VK} {p : Addr × Obj} {dd : Addr} {c : Nat} {v : V} {wd : Str} (hr : A.depth < recursionLimit) (hpin : PinOk outer H s p) (e0 : Env0 P w K mg base A outer s H)
    (hc : c < 5) (hz : Zc (.ref (cA c)) (some dd) p.2) (hf : ∃ vs, p.2.data = .fields vs) (hd : H dd = some (.xd [(cFd c, v)])) (hw : wordV c v = some wd) (hq : ∀ a b, H a = none → H b = none → a ≠ b → ∀ hs ks, Q (.str wd) (upd (upd H a (.lst hs)) b (.lst ks))) :
    codeAny (model P w) A (.call (.ref f) ⟨[.ref p.1], []⟩) (CR (fun _ _ _ _ _ _ => False) outer P w H s Q (fun _ _ _ => False)) s := by
  obtain ⟨x, qual, F⟩ := T.fn
  obtain ⟨oc, od, kV, doc, pm, an, cdv, ct, osl, e, lk, hcd⟩ := F.ex
  have S := T.sc
  have kin : K.In s.heap := e0.mod.kin.keeps fun b o e => (e0.bs b o e).1
  have lim : s.heap.NoLimit := e0.mod.nolimit.keeps fun b o e => (e0.bs b o e).1
  have hb := T.bi s [.ref p.1] kin rfl
  subst e
  have r : Vals [V.ref p.1] [Value.ref p.1] := .cons rfl .nil
  refine codeAny_call_function hr (kin _ _ lk) rfl S.co S.gen rfl (PySem.W.codeRec_of kin hcd) (hb _ _ _ _ ?_)
  refine wpAny_newFunctionEnv_cells S.kind (fun y hy => ?_) fun env he s1 X1 => ?_
  · obtain ⟨n, u⟩ := y
    have hy : n = "error" ∧ u = .ref p.1 := by simpa using hy
    rw [hy.1]
    exact .inl (T.ws.loc _ (by simp))
  subst he
  refine ⟨lim.keeps X1.toInCall.keep, codeAny_func ?_⟩
  have I : L2.Inv (cxH (fun _ _ _ _ _ _ => False) P w K mg base ["error", "heads", "kinds_of"] qual (defScope st) f cdv A outer s H (fun _ _ _ => False) p) [] (L2.start ["error", "heads", "kinds_of"] [.ref p.1]) H s1 := inv_startH S hpin e0 rfl r X1
  have body := word_body (X := cxH (fun _ _ _ _ _ _ => False) P w K mg base ["error", "heads", "kinds_of"] qual (defScope st) f cdv A outer s H (fun _ _ _ => False) p) (p := pp) (v := v) rfl T.ws T.er T.gI T.gS T.gV T.p1 T.p2 hc (show p ∈ [p] by simp) hz hf
  rw [← T.bd] at body
  refine wpAny_mono (body.run [] s1 _ H { nx := fun _ H' => Q .non H', rt := Q } I ⟨rfl, rfl, hd, wd, hw, hq⟩) (fun fl s' hs => ?_) fun e s' hs => hs
  cases fl with
  | ret u => obtain ⟨v, σ', H', J, rv, q⟩ := hs; exact ⟨v, H', J.os, J.bare, J.base, J.hok, rv, q⟩
  | next => obtain ⟨σ', H', J, q⟩ := hs; exact ⟨.non, H', J.os, J.bare, J.base, J.hok, rfl, q⟩
  | brk => obtain ⟨_, _, _, q⟩ := hs; exact q.elim
  | cont => obtain ⟨_, _, _, q⟩ := hs; exact q.elim
end
section
variable {X : Cx} {cA : Nat → Addr} {f a dd : Addr} {fd : FuncData} {pp : Nat → Pos} {st : Stmt} {oe : Obj} {pn : List (Addr × Obj)} {c i : Nat} {v : V} {n : Str} {px pn' pos : Pos}
theorem pe_word (T : WordK X.prog X.w X.K X.mg cA f fd pp st) (hr : ∀ k, (X.A.mark k).depth < recursionLimit) (hg : Gl X "_law_word") (hkp : PySem.W.keepIn X.K (.ref f) = true) (hN : X.N[i]? = some n) (hv : Vis X.env.scope n) (hd1 : (n == ("__debug__" : Str)) = false) (hd2 : (n == ("__classdict__" : Str)) = false)
    (hc : c < 5) (hz : Zc (.ref (cA c)) (some dd) oe) (hf : ∃ vs, oe.data = .fields vs) :
    PE (X.suite a ((a, oe) :: pn)) (.Call (.Name "_law_word" px) [.Name n pn'] [] pos) (fun σ H Q => σ[i]? = some (some (.ref a)) ∧ H dd = some (.xd [(cFd c, v)]) ∧ ∃ wd, wordV c v = some wd ∧ ∀ p q, H p = none → H q = none → p ≠ q → ∀ hs ks, Q (.str wd) (upd (upd H p (.lst hs)) q (.lst ks))) := by
  refine ⟨fun pins s σ H Q I ⟨h0, hd, wd, hw, hq⟩ => ?_⟩
  have ha : PA (X.suite a ((a, oe) :: pn)) [.Name n pn'] _ := pa_cons (pe_var (i := i) hN hv hd1 hd2) pa_nil
  refine wpAny_Call_Name_kw (ld_glob I hg T.gl ?_ (by decide))
  refine PySem.W.callWith_K (h₀ := X.base) I.ok.mod.kin hkp (thn (ha.run pos pins s σ H (fun vs H1 => vs = [.ref a] ∧ H1 = H) I ⟨_, h0, rfl, rfl⟩) fun us s1 ⟨vs, H1, I1, r, ev, eH⟩ => ⟨I1.kIn, ?_⟩) rfl rfl
  subst ev
  rw [eH] at I1
  obtain ⟨u, rfl, ru⟩ : ∃ u, us = [u] ∧ RelV (.ref a) u := by
    cases r with
    | cons rt r2 =>
      cases r2
      exact ⟨_, rfl, rt⟩
  obtain rfl : u = Value.ref a := ru
  have P1 := I1.pin (a, oe) (List.mem_append_left _ List.mem_cons_self)
  have hpin : PinOk X.stack H s1 (a, oe) := ⟨P1.1, P1.2.1, fun hm => (List.mem_cons.mp (I1.stkSub a hm)).elim P1.2.2.1 P1.2.2.2.1, P1.2.2.2.2⟩
  refine wpAny_call (codeAny_mono (word_run (base := X.base) T (hr _) hpin I1.env0 hc hz hf hd hw hq) fun r s' hq' => ?_)
  cases r with
  | error e => exact hq'.elim
  | ok fl =>
    cases fl with
    | ret u => exact I1.after hq'
    | next => exact hq'.elim
    | brk => exact hq'.elim
    | cont => exact hq'.elim
end
end Ev

set_option maxRecDepth 100000
/-! Ev, part AF: raise, and try .. except, are sound. -/
namespace Ev
open PySem PySem.Spec L2 L2H PyProof.Rows
/-- what leaves with an own error of the class c, its field a -/
def EXr (K : PySem.W.Frag) (cA : Nat → Addr) : Nat → PyData → Hp → XK → Prop := fun c a H E => ∀ v Z dx, Fz K H Z v a → H dx = none → E (.ref (cA c)) (some dx) (upd H dx (.xd [(cFd c, v)]))
def CXn : CXT := fun _ _ _ _ _ _ => False
structure RaiK (X : Cx) (cA : Nat → Addr) (x : Str) (c : Nat) : Prop where
  ex : ∃ (fI : Addr) (fd : FuncData) (ps : List Str), PySem.W.findIn X.K (.ref (cA c)) "__init__" = some (some (.ref fI)) ∧ PySem.W.typeIn X.K (.ref fI) = some (.type "function") ∧ FnOk X.prog X.w X.K X.mg X.base CXn 1 fI fd ps (spInit (cA c) (cFd c)) ∧ Binds X.K fd ps []
  oex : OexC X.K (cA c)
  room : Room 2 X.A
  gl : X.mg x = some (.ref (cA c))
structure TryK (X : Cx) (cA : Nat → Addr) : Prop where
  wd : ∃ (f : Addr) (fd : FuncData) (pp : Nat → Pos) (st : Stmt), WordK X.prog X.w X.K X.mg cA f fd pp st ∧ PySem.W.keepIn X.K (.ref f) = true
  dep : ∀ k, (X.A.mark k).depth < recursionLimit
  card : ∃ C, X.mg "CardError" = some (.ref C) ∧ ∀ c < 5, PySem.W.exmOne X.K (.ref (cA c)) (.ref C) = some true
section
variable {X : Cx} {S : Nat → Prop} {fa : Nat → V → Prop} {G : Tab} {E : XK} {cA : Nat → Addr} {a : Expr} {ma : ME} {x : Str} {c : Nat} {p pos pos' : Pos}
theorem p_rai (hc : X.calm = true) (tk : Takes X (fun cls d _ H => E cls d H)) (R : RaiK X cA x c) (hg : Gl X x) (hdb : (x == ("__debug__" : Str)) = false) (he : PE X a (tE X.K fa (xx (EXr X.K cA) E) G ma))
    (hs : starEach [a] X.env = [(false, eval a X.env)]) : PS X (.Raise (some (.Call (.Name x p) [a] [] pos)) none pos') (t1 S X.K fa (xx (EXr X.K cA) E) G (.rai c ma)) := by
  obtain ⟨fI, fd, ps, iC, tI, F1, hb⟩ := R.ex
  refine PS.weak (ps_raise hc tk (pmk_oex R.oex iC tI F1 R.room hb .nil (fun _ _ _ _ _ _ _ q => q.elim) hg R.gl (pa_cons he pa_nil hs) hdb hs rfl)) fun D σ H ⟨Z, env, ok, h⟩ => ?_
  unfold exs1 at h
  refine tM.mono (FinO.of ok h) fun v H1 ⟨Z1, env1, r, m1, hr, hf⟩ => ?_
  cases r with
  | v d =>
    have f := hf σ _ Z1 H1 (m1.sm (S := S)).st
    have fz : Fz X.K H1 Z1 v d := hr
    refine ⟨by show 1 ≤ 1000; decide, fun e he => ⟨e, v, rfl, upd_same, fun dx h1 h2 => ⟨rfl, dx, [(cFd c, v)], upd_same, by rw [upd_ne h2, upd_same], ?_, ?_⟩⟩⟩
    · rw [upd_ne h2] at h1; exact h1
    · have hx : H1 dx = none := by rw [upd_ne h2] at h1; exact h1
      have q := f v Z1 dx fz hx
      have e2 : upd (del (upd (upd (upd H1 e (exo e (cA c) none)) dx (exd dx [(cFd c, v)])) e (exo e (cA c) (some dx))) e) dx (.xd [(cFd c, v)]) = upd H1 dx (.xd [(cFd c, v)]) := by
        funext b
        by_cases hb : b = dx
        · subst hb; rw [upd_same, upd_same]
        · rw [upd_ne hb, upd_ne hb]
          by_cases hbe : b = e
          · subst hbe; rw [del_same, he]
          · rw [del_ne hbe, upd_ne hbe, upd_ne hb, upd_ne hbe]
      rw [e2]
      exact q
  | n xs => exact hf.elim
  | p i => exact hf.elim
  | r xs => exact hf.elim
  | f n => exact hf.elim
theorem wordV_of {K : PySem.W.Frag} {H : Hp} {Z : Addr → Prop} {v : V} {d : PyData} {w : Str} (f : Fz K H Z v d) (h : wordD c d = some w) : c < 5 ∧ wordV c v = some w := by
  match c, d, h with
  | 0, .int i, h => cases f; exact ⟨by decide, h⟩
  | 1, .str t, h => cases f; exact ⟨by decide, h⟩
  | 2, .str t, h => cases f; exact ⟨by decide, h⟩
  | 3, .str t, h => cases f; exact ⟨by decide, h⟩
  | 4, .str t, h => cases f; exact ⟨by decide, h⟩
theorem noOwn_not {env : Env} (h : noOwn env = true) {σ : L2.St} {a : Addr} : ¬ Own σ env a := fun ⟨i, xs, e, _⟩ => by
  have := List.all_eq_true.mp h _ (List.mem_of_getElem? e)
  cases this
/-- where nothing is owned and all stands -/
theorem sm_quiet {K : PySem.W.Frag} {H H' : Hp} {Z : Addr → Prop} {σ : L2.St} {env : Env} (ok : Eok K fa H Z σ env) (hn : noOwn env = true) (k : ∀ a o, H a = some o → H' a = some o) : Sm S K fa σ H Z env σ H' Z env := by
  have st : Stp (Own σ env) Z H (Own σ env) Z H' := ⟨fun a o h _ => k a o h, fun a o h => ⟨o, k a o h⟩, fun _ h _ => h, fun _ h => .inl h, fun _ h => .inl h, ok.muz, ok.zl⟩
  refine ⟨st, fun _ _ h => ⟨h, rfl⟩, fun _ _ h _ => .inl ⟨h, rfl⟩, fun _ _ => rfl, rfl, ⟨fun i w e => ?_, ok.apart, fun a za => ?_, ok.len⟩⟩
  · obtain ⟨v, e1, q⟩ := ok.nm i w e
    refine ⟨v, e1, ?_⟩
    cases w with
    | d x => exact Fz.step st q
    | l xs =>
      have := List.all_eq_true.mp hn _ (List.mem_of_getElem? e)
      cases this
    | k xs =>
      have := List.all_eq_true.mp hn _ (List.mem_of_getElem? e)
      cases this
    | r xs =>
      obtain ⟨a, us, rfl, q1, q3⟩ := q
      exact ⟨a, us, rfl, RdL.step st q1, q3.step st⟩
    | f n => exact q
  · obtain ⟨vs, e⟩ := ok.zl a za
    exact ⟨vs, k a _ e⟩
theorem p_tryw {body : List Stmt} {b : List MS} {i : Nat} {y : Str} {np px pn' pw pr pe : Pos} (hs : X.stack = X.env :: X.outer) (hf : X.env.frame = some X.env.locals) (hN : X.N.Nodup) (hi : X.N[i]? = some y) (hl : X.env.scope.names.lookup y = some .local)
    (tk : Takes X (fun cls d _ H => E cls d H)) (T : TryK X cA) (hg1 : Gl X "CardError") (hg2 : Gl X "_law_word") (hd1 : (y == ("__debug__" : Str)) = false) (hd2 : (y == ("__classdict__" : Str)) = false)
    (hb : ∀ (W : WX) (pn : List (Addr × Obj)) (xe : Value → Shared → Prop), Takes (X.tr pn xe) W → PassesOwn (model X.prog X.w) X.A X.env xe → PSs (X.tr pn xe) body (tn S X.K fa (xx (EXr X.K cA) (fun cls d H => ∀ σ, σ.length = X.N.length → W cls d σ H)) G b)) :
    PS X (.Try body [.ExceptHandler (some (.Name "CardError" np)) (some y) [.Return (some (.Call (.Name "_law_word" px) [.Name y pn'] [] pw)) pr] pe] [] [] pos) (t1 S X.K fa (xx (EXr X.K cA) E) G (.tryw b)) := by
  obtain ⟨f, fd, pp, st, Wk, kp⟩ := T.wd
  obtain ⟨C, hC, hcard⟩ := T.card
  refine PS.weak (ps_try_as (i := i) hs hf hN hi hl ⟨hg1, by decide, .inl hC⟩ tk hb (ts := fun a cls d D σ H => ∃ c dd v wd, c < 5 ∧ cls = .ref (cA c) ∧ d = some dd ∧ σ[i]? = some (some (V.ref a)) ∧ H dd = some (.xd [(cFd c, v)]) ∧ wordV c v = some wd ∧
    ∀ p q, H p = none → H q = none → p ≠ q → ∀ hs ks, D.rt (.str wd) (upd (upd H p (.lst hs)) q (.lst ks))) (fun a oe cls d pn hz hfl => ⟨fun pins s σ H D I ⟨c, dd, v, wd, hc, e1, e2, h0, hd, hw, hq⟩ => ?_⟩)) fun D σ H ⟨Z, env, ok, h⟩ => ?_
  · subst e1 e2
    exact (pss_one (ps_ret (pe_word (c := c) (v := v) Wk T.dep hg2 kp hi (.inl hl) hd1 hd2 hc hz hfl))).run pins s σ H D I ⟨h0, hd, wd, hw, hq⟩
  · refine ⟨Z, env, ok, ?_⟩
    unfold exs1 at h
    split at h
    · rename_i hn
      revert h
      cases exs G b env with
      | nx e => exact fun h => h
      | rt e r => exact fun h => h
      | bk e => exact fun h => h.elim
      | ct e => exact fun h => h.elim
      | bad => exact fun h => h.elim
      | ex c d =>
        have et : tryO env (.ex c d) = match wordD c d with
          | some x => .rt env (.v (.str x))
          | none => .bad := rfl
        rw [et]
        cases hw : wordD c d with
        | none => exact fun h => h.elim
        | some x =>
          intro h σ1 Mu1 Z1 H1 st1 v Z2 dx fz hdx σ2 hl2
          obtain ⟨c5, hv⟩ := wordV_of fz hw
          have k1 : ∀ a o, H a = some o → H1 a = some o := fun a o e => st1.keep a o e (noOwn_not hn)
          refine ⟨true, hcard c c5, fun _ a ha => ⟨c, dx, v, x, c5, rfl, rfl, ?_, upd_same, hv, fun p q hp hq ne hs ks => ?_⟩, fun z => Bool.noConfusion z⟩
          · refine List.getElem?_set_self ?_
            rw [hl2]
            exact (List.getElem?_eq_some_iff.mp hi).1
          · have pd : p ≠ dx := fun z => by rw [z, upd_same] at hp; cases hp
            have qd : q ≠ dx := fun z => by rw [z, upd_same] at hq; cases hq
            have hp1 : H1 p = none := by rw [upd_ne pd] at hp; exact hp
            have hq1 : H1 q = none := by rw [upd_ne qd] at hq; exact hq
            refine h σ Z _ (.str x) (sm_quiet ok hn fun e o eo => ?_) (.str x)
            have e1 := k1 e o eo
            have n1 : e ≠ dx := fun z => by rw [z, hdx] at e1; cases e1
            have n2 : e ≠ p := fun z => by rw [z, hp1] at e1; cases e1
            have n3 : e ≠ q := fun z => by rw [z, hq1] at e1; cases e1
            rw [upd_ne n3, upd_ne n2, upd_ne n1]
            exact e1
    · exact h.elim
end
end Ev

set_option maxRecDepth 100000
/-! Ev, part AH: a handler that tells the error itself. -/
namespace Ev
open PySem PySem.Spec L2 L2H PyProof.Rows
/-- the classes that are told -/
def hL (k : Bool) : List Nat := if k then [1, 2, 3, 4] else [1, 2, 3]
structure FErr (K : PySem.W.Frag) (mg : Str → Option Value) (cA : Nat → Addr) (L : List Nat) : Prop where
  gl : ∀ c ∈ L, mg (cNm c) = some (.ref (cA c))
  ex : ∀ c ∈ L, ExcC K (cA c)
  fr : ∀ c ∈ L, PySem.W.findIn K (.ref (cA c)) "reason" = some none
  is : ∀ c ∈ L, ∀ d ∈ L, PySem.W.kitOne K (.ref (cA c)) (.ref (cA d)) = some (decide (c = d))
  ve : ∀ c ∈ L, PySem.W.kitOne K (.ref (cA c)) (.type "ValueError") = some true
/-- the word by the class and the field -/
def wordFV (k : Bool) : Nat → V → Option Str
  | 1, .str s => if s.length ≤ 1000 then some (Str.ofString "deck " ++ s) else none
  | 2, .str s => if s.length ≤ 1000 then some (Str.ofString "argument " ++ s) else none
  | 3, .str s => if s.length ≤ 1000 then some (Str.ofString "" ++ s) else none
  | 4, .str s => if k = true ∧ s.length ≤ 1000 then some (Str.ofString "many " ++ s) else none
  | _, _ => none
def xjP : Expr → Option (Str × Str × Str)
  | .Call (.Name f _) [.Name v _, .Name c _] [] _ => some (f, v, c)
  | _ => none
theorem xjP_of {e : Expr} {f v c : Str} (h : xjP e = some (f, v, c)) : ∃ p0 p1 p2 p3, e = .Call (.Name f p0) [.Name v p1, .Name c p2] [] p3 := by
  unfold xjP at h
  split at h
  · cases h; exact ⟨_, _, _, _, rfl⟩
  · cases h
def stP : Expr → Option Str
  | .Constant (.str s) _ _ => some s
  | _ => none
theorem stP_of {e : Expr} {s : Str} (h : stP e = some s) : ∃ j p, e = .Constant (.str s) j p := by
  unfold stP at h
  split at h
  · cases h; exact ⟨_, _, rfl⟩
  · cases h
def mtP : Expr → Option (Str × Str)
  | .Call (.Attribute (.Name f _) m pa) [.Constant (.bool true) _ _] [] pm => if (pa.endLine == pm.line) = true then some (f, m) else none
  | _ => none
theorem mtP_of {e : Expr} {f m : Str} (h : mtP e = some (f, m)) : ∃ p0 pa j p1 pm, e = .Call (.Attribute (.Name f p0) m pa) [.Constant (.bool true) j p1] [] pm ∧ (pa.endLine == pm.line) = true := by
  unfold mtP at h
  split at h
  · split at h
    · rename_i hp; cases h; exact ⟨_, _, _, _, _, rfl, hp⟩
    · cases h
  · cases h
def kindL (k : Bool) (y : Str) : List (Option (Str × Str × Str)) := [some (("isinstance" : Str), y, ("DeckError" : Str)), some (("isinstance" : Str), y, ("ArgumentError" : Str)), some (("isinstance" : Str), y, ("PaperError" : Str))] ++ if k then [some (("isinstance" : Str), y, ("TooMany" : Str))] else []
def headL (k : Bool) : List (Option Str) := [some ("deck " : Str), some ("argument " : Str), some ("" : Str)] ++ if k then [some ("many " : Str)] else []
/-- a handler of this kind: how many classes, and its name for what is found -/
def handP (y : Str) : List Stmt → Option (Bool × Str)
  | [.Assign [.Name fn _] (.List es _) _, .If (.BoolOp .Or [.UnaryOp .Not e1 _, .Compare e2 [.NotEq] [.Constant (.int 1) _ _] _] _) [.Return (some (.Constant (.str _) _ _)) _] [] _, .Return (some (.BinOp (.Subscript (.List hs _) e3 _) .Add (.Attribute (.Name y2 _) rs _) _)) _] =>
    if xjP e1 = some (("isinstance" : Str), y, ("ValueError" : Str)) ∧ mtP e2 = some (fn, ("count" : Str)) ∧ mtP e3 = some (fn, ("index" : Str)) ∧ y2 = y ∧ rs = ("reason" : Str) then
      if es.map xjP = kindL false y ∧ hs.map stP = headL false then some (false, fn)
      else if es.map xjP = kindL true y ∧ hs.map stP = headL true then some (true, fn)
      else none
    else none
  | _ => none
section
variable {X : Cx} {cA : Nat → Addr} {q : Addr × Obj} {c i j : Nat} {dd : Addr} {v : V} {y fn : Str} {k : Bool} {hb : List Stmt}
/-- what the handler asks -/
structure HandK (X : Cx) (cA : Nat → Addr) (k : Bool) : Prop where
  er : FErr X.K X.mg cA (hL k)
  gI : X.mg "isinstance" = none
  gV : X.mg "ValueError" = none
  nm : ∀ x ∈ (["isinstance", "DeckError", "ArgumentError", "PaperError", "ValueError"] : List Str), Gl X x
  tm : k = true → Gl X "TooMany"
theorem cNm_dbg {d : Nat} (hd : d < 5) : (cNm d == ("__debug__" : Str)) = false := by
  match d, hd with
  | 0, _ => decide
  | 1, _ => decide
  | 2, _ => decide
  | 3, _ => decide
  | 4, _ => decide
theorem hL_lt {k : Bool} {c : Nat} (h : c ∈ hL k) : c < 5 := by
  unfold hL at h
  split at h <;> simp at h <;> omega

set_option maxHeartbeats 4000000 in
theorem hand_false (T : HandK X cA false) (nd : X.N.Nodup) (ni : X.N[i]? = some y) (nj : X.N[j]? = some fn) (ly : X.env.scope.names.lookup y = some .local) (lf : X.env.scope.names.lookup fn = some .local) (dy1 : (y == ("__debug__" : Str)) = false) (dy2 : (y == ("__classdict__" : Str)) = false) (df1 : (fn == ("__debug__" : Str)) = false) (df2 : (fn == ("__classdict__" : Str)) = false)
    (hp : handP y hb = some (false, fn)) (hc : c ∈ hL false) (hq : q ∈ X.pn) (hz : Zc (.ref (cA c)) (some dd) q.2) (hf : ∃ vs, q.2.data = .fields vs) :
    PSs X hb (fun D σ H => i ≠ j ∧ σ.length = X.N.length ∧ σ[i]? = some (some (.ref q.1)) ∧ H dd = some (.xd [(cFd c, v)]) ∧ ∃ w, wordFV false c v = some w ∧ ∀ a b, H a = none → H b = none → a ≠ b → ∀ hs ks, D.rt (.str w) (upd (upd H a (.lst hs)) b (.lst ks))) := by
  unfold handP at hp
  split at hp
  · rename_i fn' p0 es p1 p2 e1 p3 e2 j1 p4 p5 p6 os j2 p7 p8 p9 hs p10 e3 p11 y2 p12 rs p13 p14 p15
    split at hp
    · rename_i hcond
      obtain ⟨h1, h2, h3, rfl, rfl⟩ := hcond
      have hes : fn' = fn ∧ es.map xjP = kindL false y2 ∧ hs.map stP = headL false := by
        split at hp
        · rename_i z; cases hp; exact ⟨rfl, z⟩
        · split at hp
          · cases hp
          · cases hp
      obtain ⟨rfl, hes, hhs⟩ := hes
      obtain ⟨a0, a1, a2, rfl, k0, k1, k2⟩ : ∃ a0 a1 a2, es = [a0, a1, a2] ∧ xjP a0 = some (("isinstance" : Str), y2, ("DeckError" : Str)) ∧ xjP a1 = some (("isinstance" : Str), y2, ("ArgumentError" : Str)) ∧ xjP a2 = some (("isinstance" : Str), y2, ("PaperError" : Str)) := by
        have hlen : es.length = 3 := by have := congrArg List.length hes; rw [List.length_map] at this; exact this
        match es, hlen, hes with
        | [a0, a1, a2], _, h =>
          have h : [xjP a0, xjP a1, xjP a2] = [some (("isinstance" : Str), y2, ("DeckError" : Str)), some (("isinstance" : Str), y2, ("ArgumentError" : Str)), some (("isinstance" : Str), y2, ("PaperError" : Str))] := h
          simp only [List.cons.injEq, and_true] at h
          exact ⟨a0, a1, a2, rfl, h⟩
      obtain ⟨b0, b1, b2, rfl, m0, m1, m2⟩ : ∃ b0 b1 b2, hs = [b0, b1, b2] ∧ stP b0 = some ("deck " : Str) ∧ stP b1 = some ("argument " : Str) ∧ stP b2 = some ("" : Str) := by
        have hlen : hs.length = 3 := by have := congrArg List.length hhs; rw [List.length_map] at this; exact this
        match hs, hlen, hhs with
        | [b0, b1, b2], _, h =>
          have h : [stP b0, stP b1, stP b2] = [some ("deck " : Str), some ("argument " : Str), some ("" : Str)] := h
          simp only [List.cons.injEq, and_true] at h
          exact ⟨b0, b1, b2, rfl, h⟩
      obtain ⟨u00, u01, u02, u03, rfl⟩ := xjP_of k0
      obtain ⟨g0, f0, rfl⟩ := stP_of m0
      obtain ⟨u10, u11, u12, u13, rfl⟩ := xjP_of k1
      obtain ⟨g1, f1, rfl⟩ := stP_of m1
      obtain ⟨u20, u21, u22, u23, rfl⟩ := xjP_of k2
      obtain ⟨g2, f2, rfl⟩ := stP_of m2
      obtain ⟨w0, w1, w2, w3, rfl⟩ := xjP_of h1
      obtain ⟨x0, x1, x2, x3, x4, rfl, q2⟩ := mtP_of h2
      obtain ⟨z0, z1, z2, z3, z4, rfl, q3⟩ := mtP_of h3
      have c5 := hL_lt hc
      have v0 : Vis X.env.scope y2 := .inl ly
      have v1 : Vis X.env.scope fn' := .inl lf
      have gI : Gl X "isinstance" := T.nm _ (by simp)
      have gV : Gl X "ValueError" := T.nm _ (by simp)
      have bI : bootBuiltins "isinstance" = some (.builtin "isinstance") := by decide +kernel
      have bV : bootBuiltins "ValueError" = some (.type "ValueError") := by decide +kernel
      have pv : ∀ {p : Pos}, PE X (.Name y2 p) (tVar i) := pe_var ni v0 dy1 dy2
      have pf : ∀ {p : Pos}, PE X (.Name fn' p) (tVar j) := pe_var nj v1 df1 df2
      have isE : ∀ (d : Nat) (x : Str) {u0 u1 u2 u3 : Pos}, d ∈ hL false → x = cNm d → Gl X x → PE X (.Call (.Name "isinstance" u0) [.Name y2 u1, .Name x u2] [] u3) (fun σ H Q => σ[i]? = some (some (.ref q.1)) ∧ H dd = some (.xd [(cFd c, v)]) ∧ Q (.bl (decide (c = d))) H) := fun d x u0 u1 u2 u3 hd ex gx => by
        refine PE.weak (pe_callB (call_isP hq (T.er.ex c hc) hz hf) gI T.gI bI (pa_cons pv (pa_cons (pe_glob gx (by rw [ex]; exact T.er.gl d hd) (v := .ref (cA d)) rfl (by rw [ex]; exact cNm_dbg (hL_lt hd))) pa_nil))) fun σ H Q ⟨h1, h2, h3⟩ => ?_
        exact ⟨_, h1, _, _, _, _, rfl, fun u r => r, T.er.is c hc d hd, h2, h3⟩
      have isV : ∀ {u0 u1 u2 u3 : Pos}, PE X (.Call (.Name "isinstance" u0) [.Name y2 u1, .Name "ValueError" u2] [] u3) (fun σ H Q => σ[i]? = some (some (.ref q.1)) ∧ H dd = some (.xd [(cFd c, v)]) ∧ Q (.bl true) H) := fun {u0 u1 u2 u3} => by
        refine PE.weak (pe_callB (call_isP hq (T.er.ex c hc) hz hf) gI T.gI bI (pa_cons pv (pa_cons (pe_bltn gV T.gV bV (v := .ty "ValueError") rfl) pa_nil))) fun σ H Q ⟨h1, h2, h3⟩ => ?_
        exact ⟨_, h1, _, _, _, _, rfl, fun u r => r, T.er.ve c hc, h2, h3⟩
      have bm : ∀ {pc pa pk pm : Pos} {jj : Nat} {nm : Str} {id : String} {r : V → List V → Hp → VK → Prop}, Slot "list" nm id → typeOf (.builtin id) = pure (.type "method_descriptor") → MtR X id r → (pa.endLine == pm.line) = true →
          PE X (.Call (.Attribute (.Name fn' pc) nm pa) [.Constant (.bool true) jj pk] [] pm) _ := fun sl ty mt hp =>
        pe_bm PySem.F.plainAttrs_list sl ty mt pf (pa_cons pe_bl pa_nil) rfl rfl hp
      have S1 : PS X (.Assign [.Name fn' p0] (.List [.Call (.Name "isinstance" u00) [.Name y2 u01, .Name "DeckError" u02] [] u03, .Call (.Name "isinstance" u10) [.Name y2 u11, .Name "ArgumentError" u12] [] u13, .Call (.Name "isinstance" u20) [.Name y2 u21, .Name "PaperError" u22] [] u23] p1) p2) _ := ps_set (i := j) nd nj (.inl lf) (pe_lst (pa_cons (isE 1 "DeckError" (by decide) rfl (T.nm _ (by simp))) (pa_cons (isE 2 "ArgumentError" (by decide) rfl (T.nm _ (by simp))) (pa_cons (isE 3 "PaperError" (by decide) rfl (T.nm _ (by simp))) pa_nil)))) rfl (.inr lf)
      have S2 : PS X (.If (.BoolOp .Or [.UnaryOp .Not (.Call (.Name "isinstance" w0) [.Name y2 w1, .Name "ValueError" w2] [] w3) p3, .Compare (.Call (.Attribute (.Name fn' x0) "count" x1) [.Constant (.bool true) x2 x3] [] x4) [.NotEq] [.Constant (.int 1) j1 p4] p5] p6) [.Return (some (.Constant (.str os) j2 p7)) p8] [] p9) _ := ps_if (PW.pt (pw_or (pt_not (pt_val isV)) (pw_or1 (pt_cmpR op_ne (bm PySem.F.slot_list_count PySem.F.type_list_count mt_cnt q2) pe_int rfl)))) (pss_one (ps_ret pe_str)) pss_nil
      have S3 : PS X (.Return (some (.BinOp (.Subscript (.List [.Constant (.str "deck ") g0 f0, .Constant (.str "argument ") g1 f1, .Constant (.str "") g2 f2] p10) (.Call (.Attribute (.Name fn' z0) "index" z1) [.Constant (.bool true) z2 z3] [] z4) p11) .Add (.Attribute (.Name y2 p12) "reason" p13) p14)) p15) _ := ps_ret (pe_op op_add_str (pe_ix ix_seq (pe_lst (pa_cons pe_str (pa_cons pe_str (pa_cons pe_str pa_nil)))) (bm PySem.F.slot_list_index PySem.F.type_list_index mt_index q3) (fun _ _ => rfl)) (pe_fldP hq (T.er.ex c hc) (T.er.fr c hc) hz hf pv))
      refine PSs.weak (pss_cons S1 (pss_cons S2 (pss_one S3))) fun D σ H ⟨hij, hl, h0, hd, w, hw, fin⟩ => ?_
      have ij : j < σ.length := by rw [hl]; exact (List.getElem?_eq_some_iff.mp nj).1
      refine ⟨h0, hd, h0, hd, h0, hd,  by show 3 ≤ sizeLine; decide, fun a ha => ?_⟩
      have dn : dd ≠ a := fun z => by rw [z, ha] at hd; cases hd
      have hd1 : ∀ xs, upd H a (.lst xs) dd = some (.xd [(cFd c, v)]) := fun xs => by rw [upd_ne dn]; exact hd
      have h0' : ∀ u, (σ.set j u)[i]? = some (some (V.ref q.1)) := fun u => by rw [List.getElem?_set_ne (Ne.symm hij)]; exact h0
      have h1' : ∀ u, (σ.set j u)[j]? = some u := fun u => List.getElem?_set_self ij
      have ha1 : ∀ xs, upd H a (.lst xs) a = some (.lst xs) := fun xs => upd_same
      refine ⟨h0' _, hd1 _, true, rfl, ?_⟩
      simp only [Bool.not_true, Bool.false_eq_true, if_false]
      have hcs : c = 1 ∨ c = 2 ∨ c = 3 := by have := hc; unfold hL at this; simpa using this
      rcases hcs with rfl | rfl | rfl
      · refine ⟨.ref a, h1' _, .inl ⟨rfl, _, .inl (.inl (ha1 _))⟩, ⟨a, _, .bl true, rfl, rfl, .inl (.inl (ha1 _)), rfl, rfl, rfl, false, rfl, ?_⟩⟩
        simp only [Bool.false_eq_true, if_false]
        obtain ⟨t, rfl, ht, rfl⟩ : ∃ t, v = .str t ∧ t.length ≤ 1000 ∧ w = Str.ofString "deck " ++ t := by
          cases v <;> simp only [wordFV] at hw <;> try (cases hw; done)
          split at hw
          · rename_i z; cases hw
            exact ⟨_, rfl, z, rfl⟩
          · cases hw
        refine ⟨by show 3 ≤ sizeLine; decide, fun b hb => ?_⟩
        have ab : a ≠ b := fun z => by rw [← z, upd_same] at hb; cases hb
        have hb0 : H b = none := by rw [upd_ne (Ne.symm ab)] at hb; exact hb
        have db : dd ≠ b := fun z => by rw [z, hb0] at hd; cases hd
        have hd2 : ∀ xs ys, upd (upd H a (.lst xs)) b (.lst ys) dd = some (.xd [(cFd 1, .str t)]) := fun xs ys => by rw [upd_ne db]; exact hd1 xs
        have hb2 : ∀ xs ys, upd (upd H a (.lst xs)) b (.lst ys) b = some (.lst ys) := fun xs ys => upd_same
        have ha2 : ∀ xs ys, upd (upd H a (.lst xs)) b (.lst ys) a = some (.lst xs) := fun xs ys => by rw [upd_ne ab, upd_same]
        refine ⟨.ref a, h1' _, .inl ⟨rfl, _, .inl (.inl (ha2 _ _))⟩, ⟨a, _, .bl true, 0, .bl true, rfl, rfl, .inl (.inl (ha2 _ _)), rfl, rfl, rfl, rfl, ?_, ?_⟩⟩
        · intro m z' hm hz'
          revert hz'
          match m, hm with
          | m, hm => exact absurd hm (Nat.not_lt_zero _)
        · refine .inl ⟨b, _, 0, .str "deck ", rfl, rfl, .inl (.inl (hb2 _ _)), rfl, .ref q.1, h0' _, rfl, _, _, hd2 _ _, rfl, "deck ", t, rfl, rfl, ?_, fin a b ha hb0 ab _ _⟩
          have : ("deck " : Str).length ≤ 100 := by decide
          show _ ≤ sizeLine
          have : 2000 ≤ sizeLine := by decide
          omega
      · refine ⟨.ref a, h1' _, .inl ⟨rfl, _, .inl (.inl (ha1 _))⟩, ⟨a, _, .bl true, rfl, rfl, .inl (.inl (ha1 _)), rfl, rfl, rfl, false, rfl, ?_⟩⟩
        simp only [Bool.false_eq_true, if_false]
        obtain ⟨t, rfl, ht, rfl⟩ : ∃ t, v = .str t ∧ t.length ≤ 1000 ∧ w = Str.ofString "argument " ++ t := by
          cases v <;> simp only [wordFV] at hw <;> try (cases hw; done)
          split at hw
          · rename_i z; cases hw
            exact ⟨_, rfl, z, rfl⟩
          · cases hw
        refine ⟨by show 3 ≤ sizeLine; decide, fun b hb => ?_⟩
        have ab : a ≠ b := fun z => by rw [← z, upd_same] at hb; cases hb
        have hb0 : H b = none := by rw [upd_ne (Ne.symm ab)] at hb; exact hb
        have db : dd ≠ b := fun z => by rw [z, hb0] at hd; cases hd
        have hd2 : ∀ xs ys, upd (upd H a (.lst xs)) b (.lst ys) dd = some (.xd [(cFd 2, .str t)]) := fun xs ys => by rw [upd_ne db]; exact hd1 xs
        have hb2 : ∀ xs ys, upd (upd H a (.lst xs)) b (.lst ys) b = some (.lst ys) := fun xs ys => upd_same
        have ha2 : ∀ xs ys, upd (upd H a (.lst xs)) b (.lst ys) a = some (.lst xs) := fun xs ys => by rw [upd_ne ab, upd_same]
        refine ⟨.ref a, h1' _, .inl ⟨rfl, _, .inl (.inl (ha2 _ _))⟩, ⟨a, _, .bl true, 1, .bl true, rfl, rfl, .inl (.inl (ha2 _ _)), rfl, rfl, rfl, rfl, ?_, ?_⟩⟩
        · intro m z' hm hz'
          revert hz'
          match m, hm with
          | 0, _ => intro e; cases e; rfl
        · refine .inl ⟨b, _, 1, .str "argument ", rfl, rfl, .inl (.inl (hb2 _ _)), rfl, .ref q.1, h0' _, rfl, _, _, hd2 _ _, rfl, "argument ", t, rfl, rfl, ?_, fin a b ha hb0 ab _ _⟩
          have : ("argument " : Str).length ≤ 100 := by decide
          show _ ≤ sizeLine
          have : 2000 ≤ sizeLine := by decide
          omega
      · refine ⟨.ref a, h1' _, .inl ⟨rfl, _, .inl (.inl (ha1 _))⟩, ⟨a, _, .bl true, rfl, rfl, .inl (.inl (ha1 _)), rfl, rfl, rfl, false, rfl, ?_⟩⟩
        simp only [Bool.false_eq_true, if_false]
        obtain ⟨t, rfl, ht, rfl⟩ : ∃ t, v = .str t ∧ t.length ≤ 1000 ∧ w = Str.ofString "" ++ t := by
          cases v <;> simp only [wordFV] at hw <;> try (cases hw; done)
          split at hw
          · rename_i z; cases hw
            exact ⟨_, rfl, z, rfl⟩
          · cases hw
        refine ⟨by show 3 ≤ sizeLine; decide, fun b hb => ?_⟩
        have ab : a ≠ b := fun z => by rw [← z, upd_same] at hb; cases hb
        have hb0 : H b = none := by rw [upd_ne (Ne.symm ab)] at hb; exact hb
        have db : dd ≠ b := fun z => by rw [z, hb0] at hd; cases hd
        have hd2 : ∀ xs ys, upd (upd H a (.lst xs)) b (.lst ys) dd = some (.xd [(cFd 3, .str t)]) := fun xs ys => by rw [upd_ne db]; exact hd1 xs
        have hb2 : ∀ xs ys, upd (upd H a (.lst xs)) b (.lst ys) b = some (.lst ys) := fun xs ys => upd_same
        have ha2 : ∀ xs ys, upd (upd H a (.lst xs)) b (.lst ys) a = some (.lst xs) := fun xs ys => by rw [upd_ne ab, upd_same]
        refine ⟨.ref a, h1' _, .inl ⟨rfl, _, .inl (.inl (ha2 _ _))⟩, ⟨a, _, .bl true, 2, .bl true, rfl, rfl, .inl (.inl (ha2 _ _)), rfl, rfl, rfl, rfl, ?_, ?_⟩⟩
        · intro m z' hm hz'
          revert hz'
          match m, hm with
          | 0, _ => intro e; cases e; rfl
          | 1, _ => intro e; cases e; rfl
        · refine .inl ⟨b, _, 2, .str "", rfl, rfl, .inl (.inl (hb2 _ _)), rfl, .ref q.1, h0' _, rfl, _, _, hd2 _ _, rfl, "", t, rfl, rfl, ?_, fin a b ha hb0 ab _ _⟩
          have : ("" : Str).length ≤ 100 := by decide
          show _ ≤ sizeLine
          have : 2000 ≤ sizeLine := by decide
          omega
    · cases hp
  · cases hp
set_option maxHeartbeats 4000000 in
theorem hand_true (T : HandK X cA true) (nd : X.N.Nodup) (ni : X.N[i]? = some y) (nj : X.N[j]? = some fn) (ly : X.env.scope.names.lookup y = some .local) (lf : X.env.scope.names.lookup fn = some .local) (dy1 : (y == ("__debug__" : Str)) = false) (dy2 : (y == ("__classdict__" : Str)) = false) (df1 : (fn == ("__debug__" : Str)) = false) (df2 : (fn == ("__classdict__" : Str)) = false)
    (hp : handP y hb = some (true, fn)) (hc : c ∈ hL true) (hq : q ∈ X.pn) (hz : Zc (.ref (cA c)) (some dd) q.2) (hf : ∃ vs, q.2.data = .fields vs) :
    PSs X hb (fun D σ H => i ≠ j ∧ σ.length = X.N.length ∧ σ[i]? = some (some (.ref q.1)) ∧ H dd = some (.xd [(cFd c, v)]) ∧ ∃ w, wordFV true c v = some w ∧ ∀ a b, H a = none → H b = none → a ≠ b → ∀ hs ks, D.rt (.str w) (upd (upd H a (.lst hs)) b (.lst ks))) := by
  unfold handP at hp
  split at hp
  · rename_i fn' p0 es p1 p2 e1 p3 e2 j1 p4 p5 p6 os j2 p7 p8 p9 hs p10 e3 p11 y2 p12 rs p13 p14 p15
    split at hp
    · rename_i hcond
      obtain ⟨h1, h2, h3, rfl, rfl⟩ := hcond
      have hes : fn' = fn ∧ es.map xjP = kindL true y2 ∧ hs.map stP = headL true := by
        split at hp
        · cases hp
        · split at hp
          · rename_i z; cases hp; exact ⟨rfl, z⟩
          · cases hp
      obtain ⟨rfl, hes, hhs⟩ := hes
      obtain ⟨a0, a1, a2, a3, rfl, k0, k1, k2, k3⟩ : ∃ a0 a1 a2 a3, es = [a0, a1, a2, a3] ∧ xjP a0 = some (("isinstance" : Str), y2, ("DeckError" : Str)) ∧ xjP a1 = some (("isinstance" : Str), y2, ("ArgumentError" : Str)) ∧ xjP a2 = some (("isinstance" : Str), y2, ("PaperError" : Str)) ∧ xjP a3 = some (("isinstance" : Str), y2, ("TooMany" : Str)) := by
        have hlen : es.length = 4 := by have := congrArg List.length hes; rw [List.length_map] at this; exact this
        match es, hlen, hes with
        | [a0, a1, a2, a3], _, h =>
          have h : [xjP a0, xjP a1, xjP a2, xjP a3] = [some (("isinstance" : Str), y2, ("DeckError" : Str)), some (("isinstance" : Str), y2, ("ArgumentError" : Str)), some (("isinstance" : Str), y2, ("PaperError" : Str)), some (("isinstance" : Str), y2, ("TooMany" : Str))] := h
          simp only [List.cons.injEq, and_true] at h
          exact ⟨a0, a1, a2, a3, rfl, h⟩
      obtain ⟨b0, b1, b2, b3, rfl, m0, m1, m2, m3⟩ : ∃ b0 b1 b2 b3, hs = [b0, b1, b2, b3] ∧ stP b0 = some ("deck " : Str) ∧ stP b1 = some ("argument " : Str) ∧ stP b2 = some ("" : Str) ∧ stP b3 = some ("many " : Str) := by
        have hlen : hs.length = 4 := by have := congrArg List.length hhs; rw [List.length_map] at this; exact this
        match hs, hlen, hhs with
        | [b0, b1, b2, b3], _, h =>
          have h : [stP b0, stP b1, stP b2, stP b3] = [some ("deck " : Str), some ("argument " : Str), some ("" : Str), some ("many " : Str)] := h
          simp only [List.cons.injEq, and_true] at h
          exact ⟨b0, b1, b2, b3, rfl, h⟩
      obtain ⟨u00, u01, u02, u03, rfl⟩ := xjP_of k0
      obtain ⟨g0, f0, rfl⟩ := stP_of m0
      obtain ⟨u10, u11, u12, u13, rfl⟩ := xjP_of k1
      obtain ⟨g1, f1, rfl⟩ := stP_of m1
      obtain ⟨u20, u21, u22, u23, rfl⟩ := xjP_of k2
      obtain ⟨g2, f2, rfl⟩ := stP_of m2
      obtain ⟨u30, u31, u32, u33, rfl⟩ := xjP_of k3
      obtain ⟨g3, f3, rfl⟩ := stP_of m3
      obtain ⟨w0, w1, w2, w3, rfl⟩ := xjP_of h1
      obtain ⟨x0, x1, x2, x3, x4, rfl, q2⟩ := mtP_of h2
      obtain ⟨z0, z1, z2, z3, z4, rfl, q3⟩ := mtP_of h3
      have c5 := hL_lt hc
      have v0 : Vis X.env.scope y2 := .inl ly
      have v1 : Vis X.env.scope fn' := .inl lf
      have gI : Gl X "isinstance" := T.nm _ (by simp)
      have gV : Gl X "ValueError" := T.nm _ (by simp)
      have bI : bootBuiltins "isinstance" = some (.builtin "isinstance") := by decide +kernel
      have bV : bootBuiltins "ValueError" = some (.type "ValueError") := by decide +kernel
      have pv : ∀ {p : Pos}, PE X (.Name y2 p) (tVar i) := pe_var ni v0 dy1 dy2
      have pf : ∀ {p : Pos}, PE X (.Name fn' p) (tVar j) := pe_var nj v1 df1 df2
      have isE : ∀ (d : Nat) (x : Str) {u0 u1 u2 u3 : Pos}, d ∈ hL true → x = cNm d → Gl X x → PE X (.Call (.Name "isinstance" u0) [.Name y2 u1, .Name x u2] [] u3) (fun σ H Q => σ[i]? = some (some (.ref q.1)) ∧ H dd = some (.xd [(cFd c, v)]) ∧ Q (.bl (decide (c = d))) H) := fun d x u0 u1 u2 u3 hd ex gx => by
        refine PE.weak (pe_callB (call_isP hq (T.er.ex c hc) hz hf) gI T.gI bI (pa_cons pv (pa_cons (pe_glob gx (by rw [ex]; exact T.er.gl d hd) (v := .ref (cA d)) rfl (by rw [ex]; exact cNm_dbg (hL_lt hd))) pa_nil))) fun σ H Q ⟨h1, h2, h3⟩ => ?_
        exact ⟨_, h1, _, _, _, _, rfl, fun u r => r, T.er.is c hc d hd, h2, h3⟩
      have isV : ∀ {u0 u1 u2 u3 : Pos}, PE X (.Call (.Name "isinstance" u0) [.Name y2 u1, .Name "ValueError" u2] [] u3) (fun σ H Q => σ[i]? = some (some (.ref q.1)) ∧ H dd = some (.xd [(cFd c, v)]) ∧ Q (.bl true) H) := fun {u0 u1 u2 u3} => by
        refine PE.weak (pe_callB (call_isP hq (T.er.ex c hc) hz hf) gI T.gI bI (pa_cons pv (pa_cons (pe_bltn gV T.gV bV (v := .ty "ValueError") rfl) pa_nil))) fun σ H Q ⟨h1, h2, h3⟩ => ?_
        exact ⟨_, h1, _, _, _, _, rfl, fun u r => r, T.er.ve c hc, h2, h3⟩
      have bm : ∀ {pc pa pk pm : Pos} {jj : Nat} {nm : Str} {id : String} {r : V → List V → Hp → VK → Prop}, Slot "list" nm id → typeOf (.builtin id) = pure (.type "method_descriptor") → MtR X id r → (pa.endLine == pm.line) = true →
          PE X (.Call (.Attribute (.Name fn' pc) nm pa) [.Constant (.bool true) jj pk] [] pm) _ := fun sl ty mt hp =>
        pe_bm PySem.F.plainAttrs_list sl ty mt pf (pa_cons pe_bl pa_nil) rfl rfl hp
      have S1 : PS X (.Assign [.Name fn' p0] (.List [.Call (.Name "isinstance" u00) [.Name y2 u01, .Name "DeckError" u02] [] u03, .Call (.Name "isinstance" u10) [.Name y2 u11, .Name "ArgumentError" u12] [] u13, .Call (.Name "isinstance" u20) [.Name y2 u21, .Name "PaperError" u22] [] u23, .Call (.Name "isinstance" u30) [.Name y2 u31, .Name "TooMany" u32] [] u33] p1) p2) _ := ps_set (i := j) nd nj (.inl lf) (pe_lst (pa_cons (isE 1 "DeckError" (by decide) rfl (T.nm _ (by simp))) (pa_cons (isE 2 "ArgumentError" (by decide) rfl (T.nm _ (by simp))) (pa_cons (isE 3 "PaperError" (by decide) rfl (T.nm _ (by simp))) (pa_cons (isE 4 "TooMany" (by decide) rfl (T.tm rfl)) pa_nil))))) rfl (.inr lf)
      have S2 : PS X (.If (.BoolOp .Or [.UnaryOp .Not (.Call (.Name "isinstance" w0) [.Name y2 w1, .Name "ValueError" w2] [] w3) p3, .Compare (.Call (.Attribute (.Name fn' x0) "count" x1) [.Constant (.bool true) x2 x3] [] x4) [.NotEq] [.Constant (.int 1) j1 p4] p5] p6) [.Return (some (.Constant (.str os) j2 p7)) p8] [] p9) _ := ps_if (PW.pt (pw_or (pt_not (pt_val isV)) (pw_or1 (pt_cmpR op_ne (bm PySem.F.slot_list_count PySem.F.type_list_count mt_cnt q2) pe_int rfl)))) (pss_one (ps_ret pe_str)) pss_nil
      have S3 : PS X (.Return (some (.BinOp (.Subscript (.List [.Constant (.str "deck ") g0 f0, .Constant (.str "argument ") g1 f1, .Constant (.str "") g2 f2, .Constant (.str "many ") g3 f3] p10) (.Call (.Attribute (.Name fn' z0) "index" z1) [.Constant (.bool true) z2 z3] [] z4) p11) .Add (.Attribute (.Name y2 p12) "reason" p13) p14)) p15) _ := ps_ret (pe_op op_add_str (pe_ix ix_seq (pe_lst (pa_cons pe_str (pa_cons pe_str (pa_cons pe_str (pa_cons pe_str pa_nil))))) (bm PySem.F.slot_list_index PySem.F.type_list_index mt_index q3) (fun _ _ => rfl)) (pe_fldP hq (T.er.ex c hc) (T.er.fr c hc) hz hf pv))
      refine PSs.weak (pss_cons S1 (pss_cons S2 (pss_one S3))) fun D σ H ⟨hij, hl, h0, hd, w, hw, fin⟩ => ?_
      have ij : j < σ.length := by rw [hl]; exact (List.getElem?_eq_some_iff.mp nj).1
      refine ⟨h0, hd, h0, hd, h0, hd, h0, hd,  by show 4 ≤ sizeLine; decide, fun a ha => ?_⟩
      have dn : dd ≠ a := fun z => by rw [z, ha] at hd; cases hd
      have hd1 : ∀ xs, upd H a (.lst xs) dd = some (.xd [(cFd c, v)]) := fun xs => by rw [upd_ne dn]; exact hd
      have h0' : ∀ u, (σ.set j u)[i]? = some (some (V.ref q.1)) := fun u => by rw [List.getElem?_set_ne (Ne.symm hij)]; exact h0
      have h1' : ∀ u, (σ.set j u)[j]? = some u := fun u => List.getElem?_set_self ij
      have ha1 : ∀ xs, upd H a (.lst xs) a = some (.lst xs) := fun xs => upd_same
      refine ⟨h0' _, hd1 _, true, rfl, ?_⟩
      simp only [Bool.not_true, Bool.false_eq_true, if_false]
      have hcs : c = 1 ∨ c = 2 ∨ c = 3 ∨ c = 4 := by have := hc; unfold hL at this; simpa using this
      rcases hcs with rfl | rfl | rfl | rfl
      · refine ⟨.ref a, h1' _, .inl ⟨rfl, _, .inl (.inl (ha1 _))⟩, ⟨a, _, .bl true, rfl, rfl, .inl (.inl (ha1 _)), rfl, rfl, rfl, false, rfl, ?_⟩⟩
        simp only [Bool.false_eq_true, if_false]
        obtain ⟨t, rfl, ht, rfl⟩ : ∃ t, v = .str t ∧ t.length ≤ 1000 ∧ w = Str.ofString "deck " ++ t := by
          cases v <;> simp only [wordFV] at hw <;> try (cases hw; done)
          split at hw
          · rename_i z; cases hw
            exact ⟨_, rfl, z, rfl⟩
          · cases hw
        refine ⟨by show 4 ≤ sizeLine; decide, fun b hb => ?_⟩
        have ab : a ≠ b := fun z => by rw [← z, upd_same] at hb; cases hb
        have hb0 : H b = none := by rw [upd_ne (Ne.symm ab)] at hb; exact hb
        have db : dd ≠ b := fun z => by rw [z, hb0] at hd; cases hd
        have hd2 : ∀ xs ys, upd (upd H a (.lst xs)) b (.lst ys) dd = some (.xd [(cFd 1, .str t)]) := fun xs ys => by rw [upd_ne db]; exact hd1 xs
        have hb2 : ∀ xs ys, upd (upd H a (.lst xs)) b (.lst ys) b = some (.lst ys) := fun xs ys => upd_same
        have ha2 : ∀ xs ys, upd (upd H a (.lst xs)) b (.lst ys) a = some (.lst xs) := fun xs ys => by rw [upd_ne ab, upd_same]
        refine ⟨.ref a, h1' _, .inl ⟨rfl, _, .inl (.inl (ha2 _ _))⟩, ⟨a, _, .bl true, 0, .bl true, rfl, rfl, .inl (.inl (ha2 _ _)), rfl, rfl, rfl, rfl, ?_, ?_⟩⟩
        · intro m z' hm hz'
          revert hz'
          match m, hm with
          | m, hm => exact absurd hm (Nat.not_lt_zero _)
        · refine .inl ⟨b, _, 0, .str "deck ", rfl, rfl, .inl (.inl (hb2 _ _)), rfl, .ref q.1, h0' _, rfl, _, _, hd2 _ _, rfl, "deck ", t, rfl, rfl, ?_, fin a b ha hb0 ab _ _⟩
          have : ("deck " : Str).length ≤ 100 := by decide
          show _ ≤ sizeLine
          have : 2000 ≤ sizeLine := by decide
          omega
      · refine ⟨.ref a, h1' _, .inl ⟨rfl, _, .inl (.inl (ha1 _))⟩, ⟨a, _, .bl true, rfl, rfl, .inl (.inl (ha1 _)), rfl, rfl, rfl, false, rfl, ?_⟩⟩
        simp only [Bool.false_eq_true, if_false]
        obtain ⟨t, rfl, ht, rfl⟩ : ∃ t, v = .str t ∧ t.length ≤ 1000 ∧ w = Str.ofString "argument " ++ t := by
          cases v <;> simp only [wordFV] at hw <;> try (cases hw; done)
          split at hw
          · rename_i z; cases hw
            exact ⟨_, rfl, z, rfl⟩
          · cases hw
        refine ⟨by show 4 ≤ sizeLine; decide, fun b hb => ?_⟩
        have ab : a ≠ b := fun z => by rw [← z, upd_same] at hb; cases hb
        have hb0 : H b = none := by rw [upd_ne (Ne.symm ab)] at hb; exact hb
        have db : dd ≠ b := fun z => by rw [z, hb0] at hd; cases hd
        have hd2 : ∀ xs ys, upd (upd H a (.lst xs)) b (.lst ys) dd = some (.xd [(cFd 2, .str t)]) := fun xs ys => by rw [upd_ne db]; exact hd1 xs
        have hb2 : ∀ xs ys, upd (upd H a (.lst xs)) b (.lst ys) b = some (.lst ys) := fun xs ys => upd_same
        have ha2 : ∀ xs ys, upd (upd H a (.lst xs)) b (.lst ys) a = some (.lst xs) := fun xs ys => by rw [upd_ne ab, upd_same]
        refine ⟨.ref a, h1' _, .inl ⟨rfl, _, .inl (.inl (ha2 _ _))⟩, ⟨a, _, .bl true, 1, .bl true, rfl, rfl, .inl (.inl (ha2 _ _)), rfl, rfl, rfl, rfl, ?_, ?_⟩⟩
        · intro m z' hm hz'
          revert hz'
          match m, hm with
          | 0, _ => intro e; cases e; rfl
        · refine .inl ⟨b, _, 1, .str "argument ", rfl, rfl, .inl (.inl (hb2 _ _)), rfl, .ref q.1, h0' _, rfl, _, _, hd2 _ _, rfl, "argument ", t, rfl, rfl, ?_, fin a b ha hb0 ab _ _⟩
          have : ("argument " : Str).length ≤ 100 := by decide
          show _ ≤ sizeLine
          have : 2000 ≤ sizeLine := by decide
          omega
      · refine ⟨.ref a, h1' _, .inl ⟨rfl, _, .inl (.inl (ha1 _))⟩, ⟨a, _, .bl true, rfl, rfl, .inl (.inl (ha1 _)), rfl, rfl, rfl, false, rfl, ?_⟩⟩
        simp only [Bool.false_eq_true, if_false]
        obtain ⟨t, rfl, ht, rfl⟩ : ∃ t, v = .str t ∧ t.length ≤ 1000 ∧ w = Str.ofString "" ++ t := by
          cases v <;> simp only [wordFV] at hw <;> try (cases hw; done)
          split at hw
          · rename_i z; cases hw
            exact ⟨_, rfl, z, rfl⟩
          · cases hw
        refine ⟨by show 4 ≤ sizeLine; decide, fun b hb => ?_⟩
        have ab : a ≠ b := fun z => by rw [← z, upd_same] at hb; cases hb
        have hb0 : H b = none := by rw [upd_ne (Ne.symm ab)] at hb; exact hb
        have db : dd ≠ b := fun z => by rw [z, hb0] at hd; cases hd
        have hd2 : ∀ xs ys, upd (upd H a (.lst xs)) b (.lst ys) dd = some (.xd [(cFd 3, .str t)]) := fun xs ys => by rw [upd_ne db]; exact hd1 xs
        have hb2 : ∀ xs ys, upd (upd H a (.lst xs)) b (.lst ys) b = some (.lst ys) := fun xs ys => upd_same
        have ha2 : ∀ xs ys, upd (upd H a (.lst xs)) b (.lst ys) a = some (.lst xs) := fun xs ys => by rw [upd_ne ab, upd_same]
        refine ⟨.ref a, h1' _, .inl ⟨rfl, _, .inl (.inl (ha2 _ _))⟩, ⟨a, _, .bl true, 2, .bl true, rfl, rfl, .inl (.inl (ha2 _ _)), rfl, rfl, rfl, rfl, ?_, ?_⟩⟩
        · intro m z' hm hz'
          revert hz'
          match m, hm with
          | 0, _ => intro e; cases e; rfl
          | 1, _ => intro e; cases e; rfl
        · refine .inl ⟨b, _, 2, .str "", rfl, rfl, .inl (.inl (hb2 _ _)), rfl, .ref q.1, h0' _, rfl, _, _, hd2 _ _, rfl, "", t, rfl, rfl, ?_, fin a b ha hb0 ab _ _⟩
          have : ("" : Str).length ≤ 100 := by decide
          show _ ≤ sizeLine
          have : 2000 ≤ sizeLine := by decide
          omega
      · refine ⟨.ref a, h1' _, .inl ⟨rfl, _, .inl (.inl (ha1 _))⟩, ⟨a, _, .bl true, rfl, rfl, .inl (.inl (ha1 _)), rfl, rfl, rfl, false, rfl, ?_⟩⟩
        simp only [Bool.false_eq_true, if_false]
        obtain ⟨t, rfl, ht, rfl⟩ : ∃ t, v = .str t ∧ t.length ≤ 1000 ∧ w = Str.ofString "many " ++ t := by
          cases v <;> simp only [wordFV] at hw <;> try (cases hw; done)
          split at hw
          · rename_i z; cases hw
            exact ⟨_, rfl, z.2, rfl⟩
          · cases hw
        refine ⟨by show 4 ≤ sizeLine; decide, fun b hb => ?_⟩
        have ab : a ≠ b := fun z => by rw [← z, upd_same] at hb; cases hb
        have hb0 : H b = none := by rw [upd_ne (Ne.symm ab)] at hb; exact hb
        have db : dd ≠ b := fun z => by rw [z, hb0] at hd; cases hd
        have hd2 : ∀ xs ys, upd (upd H a (.lst xs)) b (.lst ys) dd = some (.xd [(cFd 4, .str t)]) := fun xs ys => by rw [upd_ne db]; exact hd1 xs
        have hb2 : ∀ xs ys, upd (upd H a (.lst xs)) b (.lst ys) b = some (.lst ys) := fun xs ys => upd_same
        have ha2 : ∀ xs ys, upd (upd H a (.lst xs)) b (.lst ys) a = some (.lst xs) := fun xs ys => by rw [upd_ne ab, upd_same]
        refine ⟨.ref a, h1' _, .inl ⟨rfl, _, .inl (.inl (ha2 _ _))⟩, ⟨a, _, .bl true, 3, .bl true, rfl, rfl, .inl (.inl (ha2 _ _)), rfl, rfl, rfl, rfl, ?_, ?_⟩⟩
        · intro m z' hm hz'
          revert hz'
          match m, hm with
          | 0, _ => intro e; cases e; rfl
          | 1, _ => intro e; cases e; rfl
          | 2, _ => intro e; cases e; rfl
        · refine .inl ⟨b, _, 3, .str "many ", rfl, rfl, .inl (.inl (hb2 _ _)), rfl, .ref q.1, h0' _, rfl, _, _, hd2 _ _, rfl, "many ", t, rfl, rfl, ?_, fin a b ha hb0 ab _ _⟩
          have : ("many " : Str).length ≤ 100 := by decide
          show _ ≤ sizeLine
          have : 2000 ≤ sizeLine := by decide
          omega
    · cases hp
  · cases hp
theorem wordFV_of {K : PySem.W.Frag} {H : Hp} {Z : Addr → Prop} {v : V} {d : PyData} {w : Str} (f : Fz K H Z v d) (h : wordF k c d = some w) : c ∈ hL k ∧ wordFV k c v = some w := by
  match c, d, h with
  | 1, .str t, h => cases f; exact ⟨by cases k <;> decide, h⟩
  | 2, .str t, h => cases f; exact ⟨by cases k <;> decide, h⟩
  | 3, .str t, h => cases f; exact ⟨by cases k <;> decide, h⟩
  | 4, .str t, h =>
    cases f
    refine ⟨?_, h⟩
    cases k with
    | true => decide
    | false => simp [wordF] at h
theorem handP_cons {y fn : Str} (h : handP y hb = some (k, fn)) : ∃ b0 r, hb = b0 :: r := by
  cases hb with
  | nil => cases h
  | cons b r => exact ⟨b, r, rfl⟩
variable {S : Nat → Prop} {fa : Nat → V → Prop} {G : Tab} {E : XK}
theorem p_tryf {body : List Stmt} {b : List MS} {np pe pos : Pos} (hs : X.stack = X.env :: X.outer) (hf : X.env.frame = some X.env.locals) (hN : X.N.Nodup) (hi : X.N[i]? = some y) (hj : X.N[j]? = some fn) (hne : y ≠ fn) (hl : X.env.scope.names.lookup y = some .local) (hlf : X.env.scope.names.lookup fn = some .local)
    (tk : Takes X (fun cls d _ H => E cls d H)) (T : HandK X cA k) (hC : ∃ C, X.mg "CardError" = some (.ref C) ∧ ∀ c ∈ hL k, PySem.W.exmOne X.K (.ref (cA c)) (.ref C) = some true) (hg1 : Gl X "CardError") (hd1 : (y == ("__debug__" : Str)) = false) (hd2 : (y == ("__classdict__" : Str)) = false) (hd3 : (fn == ("__debug__" : Str)) = false) (hd4 : (fn == ("__classdict__" : Str)) = false)
    (hp : handP y hb = some (k, fn))
    (hbd : ∀ (W : WX) (pn : List (Addr × Obj)) (xe : Value → Shared → Prop), Takes (X.tr pn xe) W → PassesOwn (model X.prog X.w) X.A X.env xe → PSs (X.tr pn xe) body (tn S X.K fa (xx (EXr X.K cA) (fun cls d H => ∀ σ, σ.length = X.N.length → W cls d σ H)) G b)) :
    PS X (.Try body [.ExceptHandler (some (.Name "CardError" np)) (some y) hb pe] [] [] pos) (t1 S X.K fa (xx (EXr X.K cA) E) G (.tryf k b)) := by
  obtain ⟨C, hC, hcard⟩ := hC
  obtain ⟨b0, rest, hbe⟩ := handP_cons hp
  have hij : i ≠ j := fun z => by subst z; rw [hi] at hj; exact hne (Option.some.inj hj)
  subst hbe
  refine PS.weak (ps_try_as (i := i) hs hf hN hi hl ⟨hg1, by decide, .inl hC⟩ tk hbd (ts := fun a cls d D σ H => ∃ c dd v wd, c ∈ hL k ∧ cls = .ref (cA c) ∧ d = some dd ∧ σ.length = X.N.length ∧ σ[i]? = some (some (V.ref a)) ∧ H dd = some (.xd [(cFd c, v)]) ∧ wordFV k c v = some wd ∧
    ∀ p q, H p = none → H q = none → p ≠ q → ∀ hs ks, D.rt (.str wd) (upd (upd H p (.lst hs)) q (.lst ks))) (fun a oe cls d pn hz hfl => ⟨fun pins s σ H D I ⟨c, dd, v, wd, hc, e1, e2, hlen, h0, hd, hw, hq⟩ => ?_⟩)) fun D σ H ⟨Z, env, ok, h⟩ => ?_
  · subst e1 e2
    have T' : HandK (X.suite a ((a, oe) :: pn)) cA k := ⟨T.er, T.gI, T.gV, T.nm, T.tm⟩
    cases k with
    | false => exact (hand_false (X := X.suite a ((a, oe) :: pn)) (q := (a, oe)) (c := c) (v := v) T' hN hi hj hl hlf hd1 hd2 hd3 hd4 hp hc List.mem_cons_self hz hfl).run pins s σ H D I ⟨hij, hlen, h0, hd, wd, hw, hq⟩
    | true => exact (hand_true (X := X.suite a ((a, oe) :: pn)) (q := (a, oe)) (c := c) (v := v) T' hN hi hj hl hlf hd1 hd2 hd3 hd4 hp hc List.mem_cons_self hz hfl).run pins s σ H D I ⟨hij, hlen, h0, hd, wd, hw, hq⟩
  · refine ⟨Z, env, ok, ?_⟩
    unfold exs1 at h
    split at h
    · rename_i hn
      revert h
      cases exs G b env with
      | nx e => exact fun h => h
      | rt e r => exact fun h => h
      | bk e => exact fun h => h.elim
      | ct e => exact fun h => h.elim
      | bad => exact fun h => h.elim
      | ex c d =>
        have et : tryF k env (.ex c d) = match wordF k c d with
          | some x => .rt env (.v (.str x))
          | none => .bad := rfl
        rw [et]
        cases hw : wordF k c d with
        | none => exact fun h => h.elim
        | some x =>
          intro h σ1 Mu1 Z1 H1 st1 v Z2 dx fz hdx σ2 hl2
          obtain ⟨c5, hv⟩ := wordFV_of fz hw
          have k1 : ∀ a o, H a = some o → H1 a = some o := fun a o e => st1.keep a o e (noOwn_not hn)
          refine ⟨true, hcard c c5, fun _ a ha => ⟨c, dx, v, x, c5, rfl, rfl, ?_, ?_, upd_same, hv, fun p q hp hq ne hs ks => ?_⟩, fun z => Bool.noConfusion z⟩
          · rw [List.length_set]; exact hl2
          · refine List.getElem?_set_self ?_
            rw [hl2]
            exact (List.getElem?_eq_some_iff.mp hi).1
          · have pd : p ≠ dx := fun z => by rw [z, upd_same] at hp; cases hp
            have qd : q ≠ dx := fun z => by rw [z, upd_same] at hq; cases hq
            have hp1 : H1 p = none := by rw [upd_ne pd] at hp; exact hp
            have hq1 : H1 q = none := by rw [upd_ne qd] at hq; exact hq
            refine h σ Z _ (.str x) (sm_quiet ok hn fun e o eo => ?_) (.str x)
            have e1 := k1 e o eo
            have n1 : e ≠ dx := fun z => by rw [z, hdx] at e1; cases e1
            have n2 : e ≠ p := fun z => by rw [z, hp1] at e1; cases e1
            have n3 : e ≠ q := fun z => by rw [z, hq1] at e1; cases e1
            rw [upd_ne n3, upd_ne n2, upd_ne n1]
            exact e1
    · exact h.elim
end
end Ev

set_option maxHeartbeats 8000000
/-! Ev, part Y: the translation of statements. -/
namespace Ev
open PySem PySem.Spec L2 PyProof.Rows

def isComp : Expr → Bool
  | .ListComp _ _ _ _ => true
  | .SetComp _ _ _ _ => true
  | .DictComp _ _ _ _ _ => true
  | _ => false
/-- is the comprehension's value swapped with a local name's -/
def swB (sc scope : Scope) (x : Str) (p q : Pos) : Bool := sc.names.lookup x == some .local && p.line == q.line && !(scope.names.any fun (n, k) => n == x && (k == .local || k == .cell))
/-- which stores are swapped; none: not looked at -/
def swp (sc : Scope) (ts vs : List Expr) : Option (Option (List Str)) :=
  if !(ts.length == 2 || ts.length == 3) || vs.length != ts.length then some none
  else if vs.any fun | .Starred .. => true | _ => false then some none
  else if (ts.filterMap fun
    | .Name id pos => if sc.names.lookup id == some .local && pos.line == (ts.head?.map (·.pos.line)).getD 0 then some id else none
    | _ => none).length != ts.length || (ts.filterMap fun
    | .Name id pos => if sc.names.lookup id == some .local && pos.line == (ts.head?.map (·.pos.line)).getD 0 then some id else none
    | _ => none).eraseDups.length != (ts.filterMap fun
    | .Name id pos => if sc.names.lookup id == some .local && pos.line == (ts.head?.map (·.pos.line)).getD 0 then some id else none
    | _ => none).length then some none
  else if vs.all (foldedForSure 8) then some none
  else if vs.all (constantsAlone 8) then none
  else some (some (ts.filterMap fun
    | .Name id pos => if sc.names.lookup id == some .local && pos.line == (ts.head?.map (·.pos.line)).getD 0 then some id else none
    | _ => none))
/-- names as targets -/
def nmsOf (N : List Str) (sc : Scope) (fv : Str → Bool) : List Expr → Option (List Nat)
  | [] => some []
  | .Name x _ :: r => if locB sc fv x then match ixOf N x, nmsOf N sc fv r with
      | some i, some is => some (i :: is)
      | _, _ => none
    else none
  | _ => none
/-- places as targets -/
def setsOf (N : List Str) (sc : Scope) (f : Expr → Option ME) : List Expr → Option (List (Nat × ME))
  | [] => some []
  | .Subscript (.Name x _) b _ :: r => if visB sc x && nmOk x && !isSlc b then match ixOf N x, f b, setsOf N sc f r with
      | some i, some m, some ts => some ((i, m) :: ts)
      | _, _, _ => none
    else none
  | _ => none
/-- names and places as targets -/
def mixOf (N : List Str) (sc : Scope) (fv : Str → Bool) (f : Expr → Option ME) : List Expr → Option (List (Nat × Option ME))
  | [] => some []
  | .Name x _ :: r => if locB sc fv x then match ixOf N x, mixOf N sc fv f r with
      | some i, some ts => some ((i, none) :: ts)
      | _, _ => none
    else none
  | .Subscript (.Name x _) b _ :: r => if visB sc x && nmOk x && !isSlc b then match ixOf N x, f b, mixOf N sc fv f r with
      | some i, some m, some ts => some ((i, some m) :: ts)
      | _, _, _ => none
    else none
  | _ => none
def names2 : List Expr → Option (List Str)
  | [] => some []
  | .Name x _ :: r => (names2 r).map (x :: ·)
  | _ => none
section
variable (N : List Str) (fs : List (Str × Nat × Nat)) (cs : List (Str × PyData))
def trA (n : Nat) (sc : Scope) (fv : Str → Bool) (tg e : Expr) : Option MS := match tg with
  | .Name x p => if locB sc fv x then match ixOf N x, trE N fs cs n sc fv e with
      | some i, some m => match e with
        | .SetComp _ _ _ _ => none
        | .DictComp _ _ _ _ _ => none
        | _ => some (.par [i] [m])
      | _, _ => none
    else none
  | .Subscript (.Name x p) b q => match setsOf N sc (trE N fs cs n sc fv) [.Subscript (.Name x p) b q], trE N fs cs n sc fv e with
    | some [t], some m => some (.sets [t] [m])
    | _, _ => none
  | .Tuple ts _ _ => match e with
    | .Tuple vs _ _ => match many (trE N fs cs n sc fv) vs with
      | some ms => if ms.length = ts.length ∧ ts.length ≤ 1000 then match nmsOf N sc fv ts with
          | some is => match swp sc ts vs with
            | some none => some (.par is ms)
            | some (some ys) => if names2 ts = some ys ∧ (ys.length = 2 ∨ ys.length = 3) ∧ is.Nodup ∧ ys.all (lclB sc) = true then some (.par is ms) else none
            | none => none
          | none => match setsOf N sc (trE N fs cs n sc fv) ts, swp sc ts vs with
            | some us, some none => some (.sets us ms)
            | none, some none => match mixOf N sc fv (trE N fs cs n sc fv) ts with
              | some us => some (.mix us ms)
              | none => none
            | _, _ => none
        else none
      | none => none
    | .ListComp elt gs scp q => match trG.go N sc fv n ts, trE N fs cs n sc fv (.ListComp elt gs scp q) with
      | some us, some m => some (.unp us m)
      | _, _ => none
    | e => if isComp e then none else match trG N sc fv n tg, trE N fs cs n sc fv e with
      | some t, some m => some (.asg t m)
      | _, _ => none
  | _ => none
def handG (sc : Scope) (k : Bool) : Bool := (["isinstance", "DeckError", "ArgumentError", "PaperError", "ValueError"] : List Str).all (glB sc) && (!k || glB sc ("TooMany" : Str))
variable (xs : List (Str × Nat)) (tw : Bool)
mutual
def trS1 : Nat → Scope → (Str → Bool) → Stmt → MS
  | 0, _, _, _ => .bad
  | n + 1, sc, fv, s => match s with
    | .Expr (.Constant (.str _) _ _) _ => .pas
    | .Expr e _ => if isComp e then .bad else match trE N fs cs n sc fv e with
      | some m => .exp m
      | none => .bad
    | .Return none _ => .retN
    | .Return (some e) _ => match trE N fs cs n sc fv e with
      | some m => .ret m
      | none => .bad
    | .Pass _ => .pas
    | .Break _ => .brk
    | .Continue _ => .cnt
    | .If c a b _ => match trT N fs cs n sc fv c with
      | some m => .ite m (trS n sc fv a) (trS n sc fv b)
      | none => .bad
    | .While c b [] _ => match trT N fs cs n sc fv c with
      | some m => .whl m (trS n sc fv b)
      | none => .bad
    | .For tg it b [] _ => match trG N sc fv n tg, trI (trE N fs cs n sc fv) sc (isTup tg) it with
      | some t, some (w, its) => .for_ t w its (trS n sc fv b)
      | _, _ => .bad
    | .AugAssign (.Name x _) o e _ => if locB sc fv x then match ixOf N x, bopR o, trE N fs cs n sc fv e with
        | some i, some p, some m => .aug i p m
        | _, _, _ => .bad
      else .bad
    | .AugAssign (.Subscript (.Name x _) b _) o e _ => if visB sc x && nmOk x && !isSlc b then match ixOf N x, bopR o, trE N fs cs n sc fv b, trE N fs cs n sc fv e with
        | some i, some p, some mb, some m => .augs i mb p m
        | _, _, _, _ => .bad
      else .bad
    | .Assign [tg] e _ => match trA N fs cs n sc fv tg e with
      | some m => m
      | none => .bad
    | .Raise (some (.Call (.Name x _) [e] [] _)) none _ => if glB sc x && nmOk x then match xs.lookup x, trE N fs cs n sc fv e with
        | some c, some m => .rai c m
        | _, _ => .bad
      else .bad
    | .Try body [.ExceptHandler (some (.Name cb _)) (some y) [.Return (some (.Call (.Name wf _) [.Name y2 _] [] _)) _] _] [] [] _ =>
      if tw && cb == ("CardError" : Str) && glB sc ("CardError" : Str) && wf == ("_law_word" : Str) && glB sc ("_law_word" : Str) && y2 == y && lclB sc y && nmOk y && (ixOf N y).isSome then .tryw (trS n sc fv body) else .bad
    | .Try body [.ExceptHandler (some (.Name cb _)) (some y) hb _] [] [] _ => match handP y hb with
      | some (k, fn) => if !tw && !xs.isEmpty && k == (xs.lookup ("TooMany" : Str)).isSome && cb == ("CardError" : Str) && glB sc ("CardError" : Str) && handG sc k && lclB sc y && nmOk y && lclB sc fn && nmOk fn && !(y == fn) && (ixOf N y).isSome && (ixOf N fn).isSome then .tryf k (trS n sc fv body) else .bad
      | none => .bad
    | _ => .bad
def trS : Nat → Scope → (Str → Bool) → List Stmt → List MS
  | _, _, _, [] => []
  | 0, _, _, _ => [.bad]
  | n + 1, sc, fv, s :: r => trS1 n sc fv s :: trS n sc fv r
end
end
section
variable {X : Cx} {fa : Nat → V → Prop} {EX : Nat → PyData → Hp → XK → Prop} {E : XK} {G : Tab} {N : List Str} {fs : List (Str × Nat × Nat)} {cs : List (Str × PyData)} {sc : Scope} {fv : Str → Bool} {S : Nat → Prop}
theorem bk_of (g : Good X fa EX E G N fs cs sc fv) : X.env.blockKind = .function := by
  unfold Env.blockKind
  rw [g.hsc, g.fk]
  rfl
theorem swaps_not {e : Expr} {o : Option Expr} {l : Nat} {env : PySem.Env} (h : isComp e = false) : swapsWith e o l env = pure false := by
  cases e <;> first | rfl | cases h
theorem swaps_tgt {e t : Expr} {l : Nat} {env : PySem.Env} (h : ∀ x p, t ≠ .Name x p) : swapsWith e (some t) l env = pure false := by
  cases e <;> first | rfl | (cases t <;> first | rfl | exact absurd rfl (h _ _))
theorem swaps_sole {e t : Expr} {l : Nat} {env : PySem.Env} (h : ∀ x p, t ≠ .Name x p) : swapsWithSole [t] e l env = pure false := by
  show swapsWith e (some t) l env = pure false
  exact swaps_tgt h
theorem swaps_lc (g : Good X fa EX E G N fs cs sc fv) {elt : Expr} {gs : List Comprehension} {scope : Scope} {q p : Pos} {x : Str} {l : Nat} : swapsWith (.ListComp elt gs scope q) (some (.Name x p)) l X.env = pure (swB sc scope x p q) := by
  unfold swapsWith
  have hk : X.env.kindOf x = sc.names.lookup x := by rw [← g.hsc]; rfl
  simp only [bk_of g, hk, Expr.pos]
  unfold swB
  rfl
theorem swp_ok (g : Good X fa EX E G N fs cs sc fv) {ts vs : List Expr} {k k2 : Nat} {p p2 : Pos} {r : Option (List Str)} (h : swp sc ts vs = some r) : swappedStores [.Tuple ts k p] (.Tuple vs k2 p2) X.env = pure r := by
  have hk : ∀ x, X.env.kindOf x = sc.names.lookup x := fun x => by rw [← g.hsc]; rfl
  unfold swappedStores
  simp only [bk_of g, hk]
  have e0 : (ScopeKind.function != ScopeKind.function) = false := rfl
  simp only [e0, Bool.or_false]
  unfold swp at h
  generalize ts.filterMap _ = nm at h ⊢
  split at h
  · rename_i c; cases h; exact if_pos c
  · rename_i c; refine Eq.trans (if_neg c) ?_
    split at h
    · rename_i c; cases h; exact if_pos c
    · rename_i c; refine Eq.trans (if_neg c) ?_
      split at h
      · rename_i c; cases h; exact if_pos c
      · rename_i c; refine Eq.trans (if_neg c) ?_
        split at h
        · rename_i c; cases h; exact if_pos c
        · rename_i c; refine Eq.trans (if_neg c) ?_
          split at h
          · cases h
          · rename_i c; cases h; exact if_neg c
end
end Ev

set_option maxHeartbeats 8000000
/-! Ev, part Z: the translation of statements is sound. -/
namespace Ev
open PySem PySem.Spec L2 PyProof.Rows
section
variable {X : Cx} {fa : Nat → V → Prop} {EX : Nat → PyData → Hp → XK → Prop} {E : XK} {G : Tab} {N : List Str} {fs : List (Str × Nat × Nat)} {cs : List (Str × PyData)} {sc : Scope} {fv : Str → Bool} {S : Nat → Prop}
theorem asg_all {env : PySem.Env} : ∀ {es : List Expr}, (∀ e ∈ es, nst e = true) → (assignEach es env).length = es.length ∧ (assignEach es env).findIdx? (·.1) = none
  | [], _ => ⟨rfl, rfl⟩
  | a :: es, q => by
    obtain ⟨q1, q2⟩ := asg_all (env := env) fun e he => q e (List.mem_cons_of_mem _ he)
    rw [asgn_of (q a List.mem_cons_self)]
    refine ⟨by rw [List.length_cons, List.length_cons, q1], ?_⟩
    rw [List.findIdx?_cons, q2]
    rfl
theorem nms_ok (g : Good X fa EX E G N fs cs sc fv) : ∀ {ts : List Expr} {is : List Nat}, nmsOf N sc fv ts = some is → PGs X ts (gNames is) ∧ ts.length = is.length ∧ ∀ e ∈ ts, nst e = true
  | [], is, h => by cases h; exact ⟨gn_nil, rfl, fun e h => by simp at h⟩
  | e :: ts, is, h => by
    cases e <;> try (cases h; done)
    rename_i x p
    unfold nmsOf at h
    split at h
    · rename_i hl
      split at h
      · rename_i i js h1 h2
        cases h
        obtain ⟨a1, a2, a3⟩ := nms_ok g h2
        refine ⟨gn_cons (by rw [g.hN]; exact g.nd) (by rw [g.hN]; exact ixOf_get h1) (g.loc hl).1 (g.loc hl).2 a1 (by rw [asgn_of rfl]; rfl), by rw [List.length_cons, List.length_cons, a2], fun e he => ?_⟩
        rcases List.mem_cons.mp he with rfl | he
        · rfl
        · exact a3 e he
      · cases h
    · cases h
theorem aug_store {b : Expr} (hb : isSlc b = false) : ∀ ov iv new, augStore b ov iv new = (do holding [new, ov, iv] (setItem ov iv new); release [new, ov, iv] []; pure .next) := by
  cases b <;> first | exact fun _ _ _ => rfl | cases hb
theorem sets_ok (g : Good X fa EX E G N fs cs sc fv) {f : Expr → Option ME} (hf : ∀ e m, f e = some m → PE X e (tE X.K fa (xx EX E) G m)) : ∀ {ts : List Expr} {us : List (Nat × ME)}, setsOf N sc f ts = some us → PGs X ts (gSets X.K fa G us) ∧ ts.length = us.length ∧ (∀ e ∈ ts, nst e = true) ∧ ∀ t u, ts = [t] → us = [u] → PG X t (gSet X.K fa G u.1 u.2) ∧ ∀ x p, t ≠ .Name x p
  | [], us, h => by cases h; exact ⟨gs_set_nil, rfl, fun e h => (by simp at h), fun t u e => (by cases e)⟩
  | e :: ts, us, h => by
    cases e <;> try (cases h; done)
    rename_i o b pos
    cases o <;> try (cases h; done)
    rename_i x p
    unfold setsOf at h
    split at h
    · rename_i hc
      simp only [Bool.and_eq_true, Bool.not_eq_true'] at hc
      obtain ⟨⟨hv, hn⟩, hb⟩ := hc
      split at h
      · rename_i i m ws h1 h2 h3
        cases h
        obtain ⟨a1, a2, a3, _⟩ := sets_ok g hf h3
        have pg : PG X (.Subscript (.Name x p) b pos) (gSet X.K fa G i m) := by
          refine g_set (by rw [g.hN]; exact ixOf_get h1) (g.vis hv) (nmOk_of hn).1 (nmOk_of hn).2 (tE.noX (hf b m h2)) ?_
          cases b <;> first | exact fun _ => rfl | cases hb
        refine ⟨gs_set_cons pg a1 (by rw [asgn_of rfl]; rfl), by rw [List.length_cons, List.length_cons, a2], fun e he => ?_, fun t u e1 e2 => ?_⟩
        · rcases List.mem_cons.mp he with rfl | he
          · rfl
          · exact a3 e he
        · cases e1
          cases e2
          exact ⟨pg, fun _ _ q => by cases q⟩
      · cases h
    · cases h
theorem mix_ok (g : Good X fa EX E G N fs cs sc fv) {f : Expr → Option ME} (hf : ∀ e m, f e = some m → PE X e (tE X.K fa (xx EX E) G m)) : ∀ {ts : List Expr} {us : List (Nat × Option ME)}, mixOf N sc fv f ts = some us → PGs X ts (gMix X.K fa G us) ∧ ts.length = us.length ∧ ∀ e ∈ ts, nst e = true
  | [], us, h => by cases h; exact ⟨gm_nil, rfl, fun e h => (by simp at h)⟩
  | e :: ts, us, h => by
    cases e <;> try (cases h; done)
    · rename_i o b pos
      cases o <;> try (cases h; done)
      rename_i x p
      unfold mixOf at h
      split at h
      · rename_i hc
        simp only [Bool.and_eq_true, Bool.not_eq_true'] at hc
        obtain ⟨⟨hv, hn⟩, hb⟩ := hc
        split at h
        · rename_i i m ws h1 h2 h3
          cases h
          obtain ⟨a1, a2, a3⟩ := mix_ok g hf h3
          have pg : PG X (.Subscript (.Name x p) b pos) (gSet X.K fa G i m) := by
            refine g_set (by rw [g.hN]; exact ixOf_get h1) (g.vis hv) (nmOk_of hn).1 (nmOk_of hn).2 (tE.noX (hf b m h2)) ?_
            cases b <;> first | exact fun _ => rfl | cases hb
          refine ⟨gm_set pg a1 (by rw [asgn_of rfl]; rfl), by rw [List.length_cons, List.length_cons, a2], fun e he => ?_⟩
          rcases List.mem_cons.mp he with rfl | he
          · rfl
          · exact a3 e he
        · cases h
      · cases h
    · rename_i x p
      unfold mixOf at h
      split at h
      · rename_i hl
        split at h
        · rename_i i ws h1 h2
          cases h
          obtain ⟨a1, a2, a3⟩ := mix_ok g hf h2
          refine ⟨gm_name (g_name (by rw [g.hN]; exact g.nd) (by rw [g.hN]; exact ixOf_get h1) (g.loc hl).1 (g.loc hl).2) a1 (by rw [asgn_of rfl]; rfl), by rw [List.length_cons, List.length_cons, a2], fun e he => ?_⟩
          rcases List.mem_cons.mp he with rfl | he
          · rfl
          · exact a3 e he
        · cases h
      · cases h
theorem names2_ok : ∀ {ts : List Expr} {ys : List Str}, names2 ts = some ys → ∃ ps : List Pos, ps.length = ys.length ∧ ts = List.zipWith (fun y p => Expr.Name y p) ys ps
  | [], ys, h => by cases h; exact ⟨[], rfl, rfl⟩
  | e :: ts, ys, h => by
    cases e <;> try (cases h; done)
    rename_i x p
    obtain ⟨zs, h1, rfl⟩ := Option.map_eq_some_iff.mp h
    obtain ⟨ps, h2, h3⟩ := names2_ok h1
    exact ⟨p :: ps, by rw [List.length_cons, List.length_cons, h2], by rw [h3]; rfl⟩
theorem lcl_of (g : Good X fa EX E G N fs cs sc fv) {x : Str} (h : lclB sc x = true) : X.env.scope.names.lookup x = some .local := by
  unfold lclB at h
  rw [g.hsc]
  split at h
  · assumption
  · cases h
theorem nmsOf_cons {x : Str} {p : Pos} {r : List Expr} {is : List Nat} (h : nmsOf N sc fv (.Name x p :: r) = some is) : ∃ i js, is = i :: js ∧ ixOf N x = some i ∧ nmsOf N sc fv r = some js := by
  unfold nmsOf at h
  split at h
  · split at h
    · rename_i i js h1 h2
      cases h
      exact ⟨i, js, rfl, h1, h2⟩
    · cases h
  · cases h
theorem trA_ok (g : Good X fa EX E G N fs cs sc fv) {n : Nat} {tg e : Expr} {m : MS} {pos : Pos} (h : trA N fs cs n sc fv tg e = some m) (hS : ∀ i ∈ sto m, S i) : PS X (.Assign [tg] e pos) (t1 S X.K fa (xx EX E) G m) := by
  have ihE := (tr_ok (fa := fa) (EX := EX) (G := G) (N := N) (fs := fs) (cs := cs) n).1 X E sc fv g
  have hs : ∀ e m, trE N fs cs n sc fv e = some m → nst e = true := fun e m h => trE_nst h
  have nd : X.N.Nodup := by rw [g.hN]; exact g.nd
  unfold trA at h
  split at h
  · rename_i x p
    split at h
    · rename_i hl
      split at h
      · rename_i i me h1 h2
        have ix : X.N[i]? = some x := by rw [g.hN]; exact ixOf_get h1
        have plain : isComp e = false → PS X (.Assign [.Name x p] e pos) (t1 S X.K fa (xx EX E) G (.par [i] [me])) ∨ ¬ S i := fun hc => by
          by_cases q : S i
          · exact .inl (p_set q nd ix (g.loc hl).1 (ihE _ _ h2) (swaps_not hc) (g.loc hl).2)
          · exact .inr q
        have fin : S i → m = .par [i] [me] → PS X (.Assign [.Name x p] e pos) (t1 S X.K fa (xx EX E) G m) := fun q em => by
          subst em
          by_cases hc : isComp e = false
          · exact (plain hc).resolve_right fun z => z q
          · cases e <;> try (exact absurd rfl hc)
            · rename_i elt gs scope q2
              obtain ⟨tg, it, ifs, t, w, its, mifs, me', own, rfl, rfl, pi, bo, k1, k2, k3, k4, k5⟩ := lc_parts g h2
              cases hw : swB sc scope x p q2 with
              | true =>
                have hloc : X.env.scope.names.lookup x = some .local := by
                  unfold swB at hw
                  simp only [Bool.and_eq_true] at hw
                  rw [g.hsc]
                  exact eq_of_beq hw.1.1
                exact p_setLc q g.calm nd ix hloc (by rw [swaps_lc g, hw]) pi bo k1 k2 k3 k4 k5
              | false => exact p_set q nd ix (g.loc hl).1 (ihE _ _ h2) (by rw [swaps_lc g, hw]) (g.loc hl).2
            · cases h
            · cases h
        split at h
        · cases h
        · cases h
        · cases h
          exact fin (hS i (by simp [sto])) rfl
      · cases h
    · cases h
  · rename_i x p b q
    split at h
    · rename_i t me h1 h2
      cases h
      obtain ⟨a1, a2, a3, a4⟩ := sets_ok g ihE h1
      obtain ⟨a5, a6⟩ := a4 _ _ rfl rfl
      exact p_sets1 (ihE _ _ h2) a5 (swaps_sole a6) rfl (by rw [asgn_of rfl]; rfl)
    · cases h
  · rename_i ts k p
    split at h
    · rename_i vs k2 p2
      split at h
      · rename_i ms hm
        obtain ⟨pa, st, lm⟩ := many_ok ihE hs hm
        split at h
        · rename_i hl
          have hz : ts.length ≤ sizeLine := Nat.le_trans hl.2 (by decide)
          split at h
          · rename_i is hn
            obtain ⟨b1, b2, b3⟩ := nms_ok g hn
            obtain ⟨c1, c2⟩ := asg_all (env := X.env) b3
            split at h
            · rename_i hw
              cases h
              exact p_parT (fun i hi => hS i (by simpa [sto] using hi)) g.calm pa b1 b2.symm hz c1 c2 rfl (swp_ok g hw) (by rw [asgn_of rfl]; rfl)
            · rename_i ys hw
              split at h
              · rename_i hc
                obtain ⟨n2, hlen, hnd, hlc⟩ := hc
                cases h
                obtain ⟨ps, l1, rfl⟩ := names2_ok n2
                have S2 : ∀ i ∈ is, S i := fun i hi => hS i (by simpa [sto] using hi)
                have hsw := swp_ok g (k := k) (k2 := k2) (p := p) (p2 := p2) hw
                have lvs : vs.length = ys.length := by
                  rw [lm, hl.1, List.length_zipWith, l1, Nat.min_self]
                rcases hlen with hlen | hlen
                · match ys, ps, vs, hlen, l1, lvs with
                  | [x, y], [px, py], [a, b], _, _, _ =>
                    obtain ⟨i, js, rfl, i1, r1⟩ := nmsOf_cons hn
                    obtain ⟨j, js, rfl, i2, r2⟩ := nmsOf_cons r1
                    cases r2
                    simp only [List.all_cons, List.all_nil, Bool.and_true, Bool.and_eq_true] at hlc
                    simp only [List.nodup_cons, List.mem_singleton, List.not_mem_nil, not_false_iff, List.nodup_nil, and_true] at hnd
                    exact p_par2 S2 g.calm nd (by rw [g.hN]; exact ixOf_get i1) (by rw [g.hN]; exact ixOf_get i2) hnd (lcl_of g hlc.1) (lcl_of g hlc.2) pa hsw rfl
                · match ys, ps, vs, hlen, l1, lvs with
                  | [x, y, z], [px, py, pz], [a, b, c], _, _, _ =>
                    obtain ⟨i, js, rfl, i1, r1⟩ := nmsOf_cons hn
                    obtain ⟨j, js, rfl, i2, r2⟩ := nmsOf_cons r1
                    obtain ⟨l, js, rfl, i3, r3⟩ := nmsOf_cons r2
                    cases r3
                    simp only [List.all_cons, List.all_nil, Bool.and_true, Bool.and_eq_true] at hlc
                    simp only [List.nodup_cons, List.mem_cons, List.mem_singleton, List.not_mem_nil, not_or, not_false_iff, List.nodup_nil, and_true] at hnd
                    exact p_par3 S2 g.calm nd (by rw [g.hN]; exact ixOf_get i1) (by rw [g.hN]; exact ixOf_get i2) (by rw [g.hN]; exact ixOf_get i3) hnd.1.1 hnd.1.2 hnd.2 (lcl_of g hlc.1) (lcl_of g hlc.2.1) (lcl_of g hlc.2.2) pa hsw rfl
              · cases h
            · cases h
          · split at h
            · rename_i us h1 hw
              cases h
              obtain ⟨b1, b2, b3, _⟩ := sets_ok g ihE h1
              obtain ⟨c1, c2⟩ := asg_all (env := X.env) b3
              exact p_setsT g.calm pa b1 b2.symm hz c1 c2 rfl (swp_ok g hw) (by rw [asgn_of rfl]; rfl)
            · rename_i h1 hw
              split at h
              · rename_i us h2
                cases h
                obtain ⟨b1, b2, b3⟩ := mix_ok g ihE h2
                obtain ⟨c1, c2⟩ := asg_all (env := X.env) b3
                exact p_mixT hS g.calm pa b1 b2.symm hz c1 c2 rfl (swp_ok g hw) (by rw [asgn_of rfl]; rfl)
              · cases h
            · cases h
        · cases h
      · cases h
    · rename_i elt gs scp q
      split at h
      · rename_i us me h1 h2
        cases h
        obtain ⟨b1, b2, b3⟩ := (trG_ok g n).2 _ _ h1
        obtain ⟨c1, c2⟩ := asg_all (env := X.env) b2
        exact p_unp hS (ihE _ _ h2) (g_lst g.calm b1 b3.symm c1 c2) (swaps_sole fun _ _ q => by cases q) rfl (by rw [asgn_of rfl]; rfl)
      · cases h
    · rename_i hne _
      split at h
      · cases h
      · rename_i hc
        split at h
        · rename_i t me h1 h2
          cases h
          obtain ⟨b1, _⟩ := (trG_ok g n).1 _ _ h1
          refine p_asg (fun i hi => hS i (by simpa [sto] using hi)) (ihE _ _ h2) b1 (swaps_sole fun _ _ q => by cases q) ?_ (by rw [asgn_of rfl]; rfl)
          cases e <;> first | rfl | exact (hne _ _ _ rfl).elim
        · cases h
  · cases h
theorem p_bad {st : Stmt} {XX : XW} : PS X st (t1 S X.K fa XX G .bad) := PS.weak ps_never fun D σ H ⟨Z, env, ok, h⟩ => by
  unfold exs1 at h
  exact h
/-- what a text's raise and try ask of where they stand -/
structure Rdy (X : Cx) (cA : Nat → Addr) (xs : List (Str × Nat)) (tw : Bool) : Prop where
  st : X.stack = X.env :: X.outer
  fr : X.env.frame = some X.env.locals
  rk : ∀ x c, xs.lookup x = some c → RaiK X cA x c
  tr : tw = true → TryK X cA
  tf : tw = false → xs.isEmpty = false → (FErr X.K X.mg cA (hL (xs.lookup ("TooMany" : Str)).isSome) ∧ X.mg "isinstance" = none ∧ X.mg "ValueError" = none) ∧ ∃ C, X.mg "CardError" = some (.ref C) ∧ ∀ c ∈ hL (xs.lookup ("TooMany" : Str)).isSome, PySem.W.exmOne X.K (.ref (cA c)) (.ref C) = some true
theorem Rdy.try_ {cA : Nat → Addr} {xs : List (Str × Nat)} {tw : Bool} (r : Rdy X cA xs tw) (pn : List (Addr × Obj)) (xe : Value → Shared → Prop) : Rdy (X.tr pn xe) cA xs tw :=
  ⟨r.st, r.fr, fun x c e => have k := r.rk x c e; ⟨k.ex, k.oex, k.room, k.gl⟩, fun e => have k := r.tr e; ⟨k.wd, k.dep, k.card⟩, r.tf⟩
theorem Good.try_ (g : Good X fa EX E G N fs cs sc fv) {pn : List (Addr × Obj)} {xe : Value → Shared → Prop} {E' : XK} (tk : Takes (X.tr pn xe) (fun cls d _ H => E' cls d H)) : Good (X.tr pn xe) fa EX E' G N fs cs sc fv :=
  ⟨g.hN, g.nd, g.hsc, g.fk, g.hfn, g.calm, g.un, g.gu, g.bl, fun x n ar h => have ⟨f, fd, ps, sm, k, h1, h2, h3, h4, h5, h6, h7⟩ := g.fns x n ar h; ⟨f, fd, ps, sm, k, h1, h2, h3, h4, h5, h6, h7⟩, tk, g.gn, g.vfn, g.cns⟩
/-- a wish that may use how many slots there are -/
theorem takes_len {W : WX} (tk : Takes X W) : Takes X (fun cls d _ H => ∀ σ : L2.St, σ.length = X.N.length → W cls d σ H) := fun u s' ⟨a, B, sI, pins, σ, H, cls, d, e, I, nb, up, sky, na, os, ag, w⟩ =>
  tk u s' ⟨a, B, sI, pins, σ, H, cls, d, e, I, nb, up, sky, na, os, ag, w σ I.len⟩
theorem trS_ok {cA : Nat → Addr} {xs : List (Str × Nat)} {tw : Bool} : ∀ (n : Nat) (X : Cx) (E : XK), Good X fa (EXr X.K cA) E G N fs cs sc fv → Rdy X cA xs tw → PassesOwn (model X.prog X.w) X.A X.env X.xe →
    (∀ s, (∀ i ∈ sto (trS1 N fs cs xs tw n sc fv s), S i) → PS X s (t1 S X.K fa (xx (EXr X.K cA) E) G (trS1 N fs cs xs tw n sc fv s))) ∧
    ∀ ss, (∀ i ∈ stos (trS N fs cs xs tw n sc fv ss), S i) → PSs X ss (tn S X.K fa (xx (EXr X.K cA) E) G (trS N fs cs xs tw n sc fv ss))
  | 0, X, E, g, rd, hp => by
    refine ⟨fun s _ => by unfold trS1; exact p_bad, fun ss _ => ?_⟩
    cases ss with
    | nil => unfold trS; exact p_nil
    | cons s ss =>
      unfold trS
      refine PSs.weak pss_never fun D σ H ⟨Z, env, ok, h⟩ => ?_
      unfold exs at h
      unfold exs1 at h
      exact h
  | n + 1, X, E, g, rd, hp => by
    obtain ⟨ih1, ih2⟩ := trS_ok n X E g rd hp
    obtain ⟨ihE0, ihT0⟩ := tr_ok (fa := fa) (EX := EXr X.K cA) (G := G) (N := N) (fs := fs) (cs := cs) n
    have ihE := ihE0 X E sc fv g
    have ihT := ihT0 X E sc fv g
    have hs : ∀ e m, trE N fs cs n sc fv e = some m → nst e = true := fun e m h => trE_nst h
    have nd : X.N.Nodup := by rw [g.hN]; exact g.nd
    have h1 : ∀ s, (∀ i ∈ sto (trS1 N fs cs xs tw (n + 1) sc fv s), S i) → PS X s (t1 S X.K fa (xx (EXr X.K cA) E) G (trS1 N fs cs xs tw (n + 1) sc fv s)) := by
      intro s hS
      unfold trS1 at hS ⊢
      split
      · exact p_doc (x := "") (j := 0) (pos' := ⟨0, 0, 0, 0⟩) ps_doc
      · split
        · exact p_bad
        · rename_i hc
          split
          · rename_i m hm
            exact p_exp (ihE _ _ hm) (swaps_not (Bool.eq_false_iff.mpr hc))
          · exact p_bad
      · exact p_retN
      · split
        · rename_i m hm
          exact p_ret (ihE _ _ hm)
        · exact p_bad
      · exact p_pass
      · exact p_brk
      · exact p_cnt
      · split
        · rename_i m hm
          simp only [hm] at hS
          exact p_ite (ihT _ _ hm).1 (ih2 _ fun i hi => hS i (by simp [sto, hi])) (ih2 _ fun i hi => hS i (by simp [sto, hi]))
        · exact p_bad
      · split
        · rename_i m hm
          simp only [hm] at hS
          exact p_whl hp (ihT _ _ hm).1 (ih2 _ fun i hi => hS i (by simpa [sto] using hi))
        · exact p_bad
      · split
        · rename_i t w its ht hi
          simp only [ht, hi] at hS
          obtain ⟨pi, hfo⟩ := trI_ok g ihE hs (fun a k p => trE_set a k p) hi
          exact p_for (fun i q => hS i (by simp [sto, q])) hp g.calm pi ((trG_ok g n).1 _ _ ht).1 (ih2 _ fun i q => hS i (by simp [sto, q])) hfo
        · exact p_bad
      · split
        · rename_i hl
          split
          · rename_i i p m h2 h3 h4
            simp only [hl, h2, h3, h4, if_true] at hS
            rw [← bopR_of h3]
            exact p_aug p (hS i (by simp [sto])) nd (by rw [g.hN]; exact ixOf_get h2) (g.loc hl).1 (ihE _ _ h4) (g.loc hl).2
          · exact p_bad
        · exact p_bad
      · split
        · rename_i hc
          simp only [Bool.and_eq_true, Bool.not_eq_true'] at hc
          obtain ⟨⟨hv, hn⟩, hb⟩ := hc
          split
          · rename_i i p mb m h2 h3 h4 h5
            rw [← bopR_of h3]
            refine p_augs p (by rw [g.hN]; exact ixOf_get h2) (g.vis hv) (nmOk_of hn).1 (nmOk_of hn).2 (ihE _ _ h4) (ihE _ _ h5) (aug_store hb)
          · exact p_bad
        · exact p_bad
      · split
        · rename_i m hm
          simp only [hm] at hS
          exact trA_ok g hm hS
        · exact p_bad
      · split
        · rename_i hc
          rw [Bool.and_eq_true] at hc
          split
          · rename_i c m h2 h3
            exact p_rai g.calm g.tk (rd.rk _ _ h2) (g.gl hc.1) (nmOk_of hc.2).1 (ihE _ _ h3) (star_of (es := []) (hs _ _ h3))
          · exact p_bad
        · exact p_bad
      · split
        · rename_i hc
          simp only [hc, if_true] at hS
          simp only [Bool.and_eq_true, beq_iff_eq] at hc
          obtain ⟨⟨⟨⟨⟨⟨⟨⟨h1, rfl⟩, h3⟩, rfl⟩, h5⟩, rfl⟩, h7⟩, h8⟩, h9⟩ := hc
          obtain ⟨i, h9⟩ := Option.isSome_iff_exists.mp h9
          refine p_tryw rd.st rd.fr nd (by rw [g.hN]; exact ixOf_get h9) (lcl_of g h7) g.tk (rd.tr h1) (g.gl h3) (g.gl h5) (nmOk_of h8).1 (nmOk_of h8).2 fun W pn xe tk pw => ?_
          refine (trS_ok n (X.tr pn xe) _ (g.try_ (takes_len tk)) (rd.try_ pn xe) pw).2 _ fun i q => hS i (by simpa [sto] using q)
        · exact p_bad
      · split
        · rename_i k fn hpp
          simp only [hpp] at hS
          split
          · rename_i hc
            simp only [hc, if_true] at hS
            simp only [Bool.and_eq_true, beq_iff_eq, Bool.not_eq_true', beq_eq_false_iff_ne, ne_eq] at hc
            obtain ⟨⟨⟨⟨⟨⟨⟨⟨⟨⟨⟨⟨h1, h2⟩, rfl⟩, rfl⟩, h3⟩, h4⟩, h5⟩, h6⟩, h7⟩, h8⟩, h9⟩, h10⟩, h11⟩ := hc
            obtain ⟨i, h10⟩ := Option.isSome_iff_exists.mp h10
            obtain ⟨j, h11⟩ := Option.isSome_iff_exists.mp h11
            obtain ⟨⟨fe, fi, fv'⟩, fc⟩ := rd.tf h1 h2
            unfold handG at h4
            rw [Bool.and_eq_true] at h4
            have hk : HandK X cA (xs.lookup ("TooMany" : Str)).isSome := ⟨fe, fi, fv', fun x hx => g.gl (List.all_eq_true.mp h4.1 x hx), fun e => g.gl (by have := h4.2; rw [e] at this; simpa using this)⟩
            refine p_tryf rd.st rd.fr nd (by rw [g.hN]; exact ixOf_get h10) (by rw [g.hN]; exact ixOf_get h11) h9 (lcl_of g h5) (lcl_of g h7) g.tk hk fc (g.gl h3) (nmOk_of h6).1 (nmOk_of h6).2 (nmOk_of h8).1 (nmOk_of h8).2 hpp fun W pn xe tk pw => ?_
            refine (trS_ok n (X.tr pn xe) _ (g.try_ (takes_len tk)) (rd.try_ pn xe) pw).2 _ fun i q => hS i (by simpa [sto] using q)
          · exact p_bad
        · exact p_bad
      · exact p_bad
    refine ⟨h1, fun ss hS => ?_⟩
    cases ss with
    | nil => unfold trS; exact p_nil
    | cons s ss =>
      unfold trS at hS ⊢
      exact p_cons (ih1 s fun i hi => hS i (by simp [stos, hi])) (ih2 ss fun i hi => hS i (by simp [stos, hi]))
end
end Ev

/-! Ev, part AA: a text's defs by their meanings. -/
namespace Ev
open PySem PySem.Spec L2 L2H PyProof.Rows
/-- a def as a value: its number, its place; all: the text's defs -/
def faK (mg : Str → Option Value) (all : List (Str × Nat × Nat)) : Nat → V → Prop := fun n v => ∃ x ar f, (x, n, ar) ∈ all ∧ mg x = some (.ref f) ∧ v = V.ref f
/-- a def that is known -/
def Kn (P : Program) (w : World) (K : PySem.W.Frag) (mg : Str → Option Value) (base : Heap) (cA : Nat → Addr) (all : List (Str × Nat × Nat)) (k : Nat) (x : Str) (ar : Nat) (sm : Sem) : Prop := ∃ (f : Addr) (fd : FuncData) (ps : List Str), FnG P w K mg base (L2.CX P w) k f fd ps (spS K (faK mg all) (EXr K cA) ar sm) ∧ mg x = some (.ref f) ∧ PySem.W.keepIn K (.ref f) = true ∧ Binds K fd ps [] ∧ ∀ ws, ws.length ≠ ar → sm ws = .bad
abbrev Fns (P : Program) (w : World) (K : PySem.W.Frag) (mg : Str → Option Value) (base : Heap) (cA : Nat → Addr) (all : List (Str × Nat × Nat)) (k : Nat) (fs : List (Str × Nat × Nat)) (G : Tab) : Prop :=
  (∀ (x : Str) (n ar : Nat), fs.lookup x = some (n, ar) → (x, n, ar) ∈ all ∧ ∃ sm, G n = some sm ∧ Kn P w K mg base cA all k x ar sm) ∧ ∀ x n ar, (x, n, ar) ∈ all → ∀ sm, G n = some sm → fs.lookup x = some (n, ar)
/-- what a text needs of its module -/
structure Mo (K : PySem.W.Frag) (mg : Str → Option Value) (cs : List (Str × PyData)) : Prop where
  bl : ∀ x ∈ known, mg x = none
  gn : ∀ x v, PySem.W.nsIn K mainGlobals x = some (some v) → mg x = some v
  cns : ∀ x d, cs.lookup x = some d → ∃ u v, mg x = some u ∧ RelV v u ∧ ∀ H Z, Fz K H Z v d
/-- what a text's errors need of its module -/
structure Er (P : Program) (w : World) (K : PySem.W.Frag) (mg : Str → Option Value) (base : Heap) (cA : Nat → Addr) (xs : List (Str × Nat)) (tw : Bool) : Prop where
  rk : ∀ x c, xs.lookup x = some c → (∃ (fI : Addr) (fd : FuncData) (ps : List Str), PySem.W.findIn K (.ref (cA c)) "__init__" = some (some (.ref fI)) ∧ PySem.W.typeIn K (.ref fI) = some (.type "function") ∧ FnOk P w K mg base CXn 1 fI fd ps (spInit (cA c) (cFd c)) ∧ Binds K fd ps []) ∧ OexC K (cA c) ∧ mg x = some (.ref (cA c))
  tr : tw = true → (∃ (f : Addr) (fd : FuncData) (pp : Nat → Pos) (st : Stmt), WordK P w K mg cA f fd pp st ∧ PySem.W.keepIn K (.ref f) = true) ∧ ∃ C, mg "CardError" = some (.ref C) ∧ ∀ c < 5, PySem.W.exmOne K (.ref (cA c)) (.ref C) = some true
  tf : tw = false → xs.isEmpty = false → (FErr K mg cA (hL (xs.lookup ("TooMany" : Str)).isSome) ∧ mg "isinstance" = none ∧ mg "ValueError" = none) ∧ ∃ C, mg "CardError" = some (.ref C) ∧ ∀ c ∈ hL (xs.lookup ("TooMany" : Str)).isSome, PySem.W.exmOne K (.ref (cA c)) (.ref C) = some true
section
variable {P : Program} {w : World} {K : PySem.W.Frag} {mg : Str → Option Value} {base : Heap} {cA : Nat → Addr} {all : List (Str × Nat × Nat)} {xs : List (Str × Nat)} {tw : Bool} {k n : Nat} {x qual : Str} {st : Stmt} {f : Addr} {fd : FuncData} {N ps : List Str} {fs : List (Str × Nat × Nat)} {cs : List (Str × PyData)} {G : Tab} {body : List MS} {ar many : Nat}
theorem fn_ok (hk2 : 2 ≤ k) (F : Fun K x qual st f fd) (S : FnScope N ps (defScope st)) (ha : ps.length = ar) (hm : N.length = many) (hb : trS N fs cs xs tw n (defScope st) (fun _ => true) (defBody st) = body) (M : Mo K mg cs) (R : Er P w K mg base cA xs tw) (fns : Fns P w K mg base cA all k fs G) :
    FnG P w K mg base (L2.CX P w) (k + 1) f fd ps (spS K (faK mg all) (EXr K cA) ar (runDef G ar many body)) := by
  subst ha hm hb
  have hpl : ps.length ≤ N.length := by
    have := congrArg List.length S.pre
    rw [List.length_take] at this
    omega
  refine fnG_of F S (fun vs H Q E h => h.1) ?_
  intro cdv A outer s H vs Q E hr hg h
  have good : Good (cxOf (L2.CX P w) P w K mg base N qual (defScope st) f cdv A outer s H E) (faK mg all) (EXr K cA) E G N fs cs (defScope st) (fun _ => true) := by
    refine ⟨rfl, S.nd, rfl, S.kind, rfl, rfl, ?_, hg, M.bl, fun y m ar h => ?_, takes_of rfl rfl rfl rfl, M.gn, fun y n ar f' h1 h2 => ⟨y, ar, f', (fns.1 y n ar h1).1, h2, rfl⟩, M.cns⟩
    · have := hr.un
      show (A.deeper _).units + 66 < cLine
      omega
    · obtain ⟨_, sm, h1, f', fd', ps', h2, h3, h4, h5, h6⟩ := fns.1 y m ar h
      exact ⟨f', fd', ps', sm, k, h1, h2, hr, h3, h4, h5, h6⟩
  have rdy : Rdy (cxOf (L2.CX P w) P w K mg base N qual (defScope st) f cdv A outer s H E) cA xs tw :=
    ⟨rfl, rfl, fun y c e => have q := R.rk y c e; ⟨q.1, q.2.1, hr.mono hk2, q.2.2⟩, fun e => have q := R.tr e; ⟨q.1, fun _ => hr.depth, q.2⟩, R.tf⟩
  have run := (trS_ok (S := fun i => i ∈ stos (trS N fs cs xs tw n (defScope st) (fun _ => true) (defBody st))) n _ E good rdy PassesOwn.leaving).2 (defBody st) fun i hi => hi
  exact ⟨_, run, def_go (X := cxOf (L2.CX P w) P w K mg base N qual (defScope st) f cdv A outer s H E) hpl h⟩
theorem run_bad {ws : List W} (h : ws.length ≠ ar) : runDef G ar many body ws = .bad := by
  unfold runDef
  rw [if_neg fun q => h q.1]
theorem Kn.mono {j k : Nat} {sm : Sem} (h : Kn P w K mg base cA all j x ar sm) (hk : j ≤ k) : Kn P w K mg base cA all k x ar sm := by
  obtain ⟨f, fd, ps, h1, h2⟩ := h
  exact ⟨f, fd, ps, h1.mono hk, h2⟩
/-- one def more -/
theorem fns_nil : Fns P w K mg base cA all k [] (fun _ => none) := ⟨fun _ _ _ h => (by cases h), fun _ _ _ _ _ h => (by cases h)⟩
theorem fns_cons {n0 ar0 : Nat} {y : Str} {sm : Sem} (hG : G n0 = none) (hal : (y, n0, ar0) ∈ all) (hu : ∀ e ∈ all, (e.2.1 = n0 ↔ e.1 = y) ∧ (e.1 = y → e.2.2 = ar0)) (h1 : Kn P w K mg base cA all (k + 1) y ar0 sm) (h : Fns P w K mg base cA all k fs G) :
    Fns P w K mg base cA all (k + 1) ((y, n0, ar0) :: fs) (fun i => if i = n0 then some sm else G i) := by
  refine ⟨fun x n ar e => ?_, fun x n ar hm sm' e => ?_⟩
  · rw [List.lookup_cons] at e
    split at e
    · rename_i hx
      cases e
      have hx := eq_of_beq hx
      subst hx
      exact ⟨hal, sm, if_pos rfl, h1⟩
    · obtain ⟨a0, sm', a1, a2⟩ := h.1 x n ar e
      refine ⟨a0, sm', ?_, a2.mono (Nat.le_succ k)⟩
      have ne : n ≠ n0 := fun q => by
        rw [q, hG] at a1
        cases a1
      show (if n = n0 then _ else _) = _
      rw [if_neg ne]
      exact a1
  · have u := hu _ hm
    have e : (if n = n0 then some sm else G n) = some sm' := e
    rw [List.lookup_cons]
    by_cases q : n = n0
    · have q1 := u.1.mp q
      have q1 : x = y := q1
      subst q1 q
      have := u.2 rfl
      have : ar = ar0 := this
      subst this
      simp
    · rw [if_neg q] at e
      have ne : (x == y) = false := by
        rw [beq_eq_false_iff_ne]
        exact fun z => q (u.1.mpr z)
      rw [ne]
      exact h.2 x n ar hm sm' e
theorem fns_mono {j k : Nat} (hk : j ≤ k) (h : Fns P w K mg base cA all j fs G) : Fns P w K mg base cA all k fs G := ⟨fun x n ar e => by
  obtain ⟨a0, sm, a1, a2⟩ := h.1 x n ar e
  exact ⟨a0, sm, a1, a2.mono hk⟩, h.2⟩
/-- a def that calls itself, so many calls deep -/
def recS (G : Tab) (k0 ar many : Nat) (body : List MS) : Nat → Sem
  | 0 => fun _ => .bad
  | d + 1 => runDef (fun i => if i = k0 then some (recS G k0 ar many body d) else G i) ar many body
theorem rec_bad {k0 : Nat} {ws : List W} (h : ws.length ≠ ar) : ∀ d, recS G k0 ar many body d ws = .bad
  | 0 => rfl
  | d + 1 => run_bad h
theorem rec_ok {k0 : Nat} (hk2 : 2 ≤ k) (F : Fun K x qual st f fd) (S : FnScope N ps (defScope st)) (ha : ps.length = ar) (hm : N.length = many) (hb : trS N ((x, k0, ar) :: fs) cs xs tw n (defScope st) (fun _ => true) (defBody st) = body) (M : Mo K mg cs) (R : Er P w K mg base cA xs tw) (fns : Fns P w K mg base cA all k fs G)
    (hG : G k0 = none) (hal : (x, k0, ar) ∈ all) (hu : ∀ e ∈ all, (e.2.1 = k0 ↔ e.1 = x) ∧ (e.1 = x → e.2.2 = ar)) (hx : mg x = some (.ref f)) (hk : PySem.W.keepIn K (.ref f) = true) (B : Binds K fd ps []) : ∀ d : Nat, FnG P w K mg base (L2.CX P w) (k + d + 1) f fd ps (spS K (faK mg all) (EXr K cA) ar (recS G k0 ar many body d))
  | 0 => by
    subst ha
    refine fnG_of F S (fun vs H Q E h => h.1) ?_
    intro cdv A outer s H vs Q E hr hg h
    obtain ⟨_, Z, ws, _, _, q⟩ := h
    exact q.elim
  | d + 1 => by
    have ih := rec_ok hk2 F S ha hm hb M R fns hG hal hu hx hk B d
    exact fn_ok (k := k + d + 1) (by omega) F S ha hm hb M R (fns_cons hG hal hu ⟨f, fd, ps, ih, hx, hk, B, fun ws h => rec_bad h d⟩ (fns_mono (Nat.le_add_right k d) fns))
/-- what the law's def promises at its end -/
def spL (K : PySem.W.Frag) (n : Nat) : Sp := fun vs H Q _ => ∃ (a : Addr) (ns : List Int), vs = [V.ref a] ∧ ns.length ≤ n ∧ (∀ b u, H b = some u → b = a ∧ ∃ o, u = .frz o (.lst (ns.map V.int))) ∧ RdL K H a (ns.map V.int) ∧ ∀ H', Q (.bl true) H'
theorem law_end {m : Nat} {sm : Sem} (F : FnG P w K mg base (L2.CX P w) k f fd ps (spS K (faK mg all) (EXr K cA) 1 sm)) (hps : ps.length = 1) (hl : ∀ ns : List Int, ns.length ≤ m → ∃ os, sm [.r (ns.map .int)] = .ok (.v (.bool true), os)) :
    FnG P w K mg base (L2.CX P w) k f fd ps (spL K m) := by
  have key : ∀ vs H Q E, spL K m vs H Q E → spS K (faK mg all) (EXr K cA) 1 sm vs H Q E := by
    rintro vs H Q E ⟨a, ns, rfl, hn, hH, hS, q⟩
    obtain ⟨os, hl⟩ := hl ns hn
    refine ⟨rfl, fun _ => False, [.r (ns.map .int)], ⟨fun i w h => ?_, fun i j b o => ?_, fun _ h => h.elim, rfl⟩, fun xs h => by simp at h, ?_⟩
    · cases i with
      | zero =>
        simp at h
        subst h
        refine ⟨V.ref a, rfl, a, ns.map V.int, rfl, hS, FzAll.ofInts ns⟩
      | succ i => simp at h
    · obtain ⟨xs, h | h⟩ := o
      · cases i <;> simp at h
      · cases i <;> simp at h
    · rw [hl]
      intro _ Z' H' v _ hr
      cases (show Fz K H' Z' v (.bool true) from hr)
      exact q H'
  exact ⟨fun vs H Q E h => F.len vs H Q E (key vs H Q E h), fun A outer s H args us vs Q E r g e b vv h => F.run A outer s H args us vs Q E r g e b vv (key vs H Q E h)⟩
theorem cx_false {outer : List PySem.Env} {H : Hp} {s : Shared} {e : Value} {s' : Shared} (h : L2.CX P w outer H s (fun _ _ _ => False) e s') : False := by
  obtain ⟨_, _, _, _, _, _, _, _, _, _, _, _, q⟩ := h
  exact q
end
end Ev

set_option maxRecDepth 100000
/-! Ev, part DA: the evaluator told by steps that a rewriter can take, no long lambda left open. -/
namespace Ev.D
open PySem
section
variable {α β : Type}
theorem bind_ok {a : α} {f : α → Rs β} : Rs.bind (.ok a) f = f a := id rfl
theorem bind_ex {c : Nat} {x : PyData} {f : α → Rs β} : Rs.bind (.ex c x) f = .ex c x := id rfl
theorem of_ok {a : α} {f : α → Ou} : Ou.of (.ok a) f = f a := id rfl
theorem of_ex {c : Nat} {x : PyData} {f : α → Ou} : Ou.of (.ex c x) f = .ex c x := id rfl
theorem ofO_some {a : α} : ofO (some a) = .ok a := id rfl
end
section
variable (G : Tab)
theorem ev_c (x : PyData) (env : Env) : ev G (.c x) env = .ok (env, .v x) := id rfl
def ofN (env : Env) : Option Rv → Rs (Env × Rv)
  | some r => .ok (env, r)
  | none => .bad
theorem ofN_some {env : Env} {r : Rv} : ofN env (some r) = .ok (env, r) := id rfl
theorem ev_v (i : Nat) (env : Env) : ev G (.v i) env = ofN env (rdName env i) := id rfl
theorem ev_fn (i : Nat) (env : Env) : ev G (.fn i) env = .ok (env, .f i) := id rfl
def tupC (p : Env × List Rv) : Rs (Env × Rv) := match keepAll p.1 p.2 with
  | some (env', xs) => if xs.length ≤ sizeLine then .ok (env', .v (.tuple xs)) else .bad
  | none => .bad
theorem ev_tup (es : List ME) (env : Env) : ev G (.tup es) env = (evs G es env).bind tupC := id rfl
def lstC (p : Env × List Rv) : Rs (Env × Rv) := match keepAll p.1 p.2 with
  | some (env', xs) => if xs.length ≤ sizeLine then .ok (env', .n xs) else .bad
  | none => .bad
theorem ev_lst (es : List ME) (env : Env) : ev G (.lst es) env = (evs G es env).bind lstC := id rfl
theorem tupC_p (e : Env) (rs : List Rv) : tupC (e, rs) = match keepAll e rs with
  | some (env', xs) => if xs.length ≤ sizeLine then .ok (env', .v (.tuple xs)) else .bad
  | none => .bad := id rfl
theorem lstC_p (e : Env) (rs : List Rv) : lstC (e, rs) = match keepAll e rs with
  | some (env', xs) => if xs.length ≤ sizeLine then .ok (env', .n xs) else .bad
  | none => .bad := id rfl
def binC (o : BOp) (p q : Env × Rv) : Rs (Env × Rv) := match dat q.1 p.2, dat q.1 q.2 with
    | some x, some y => (ofO (opBin o x y)).bind fun r => .ok (q.1, r)
    | _, _ => .bad
def binB (o : BOp) (b : ME) (p : Env × Rv) : Rs (Env × Rv) := (ev G b p.1).bind (binC o p)
theorem ev_bin (o : BOp) (a b : ME) (env : Env) : ev G (.bin o a b) env = (ev G a env).bind (binB G o b) := id rfl
theorem binB_p (o : BOp) (b : ME) (e : Env) (r : Rv) : binB G o b (e, r) = (ev G b e).bind (binC o (e, r)) := id rfl
theorem binC_p (o : BOp) (e1 e : Env) (r q : Rv) : binC o (e1, r) (e, q) = match dat e r, dat e q with
    | some x, some y => (ofO (opBin o x y)).bind fun r => .ok (e, r)
    | _, _ => .bad := id rfl
def negC (p : Env × Rv) : Rs (Env × Rv) := match dat p.1 p.2 with
    | some (.int i) => .ok (p.1, .v (.int (-i)))
    | _ => .bad
theorem ev_neg (a : ME) (env : Env) : ev G (.neg a) env = (ev G a env).bind negC := id rfl
theorem negC_p (e : Env) (r : Rv) : negC (e, r) = match dat e r with
    | some (.int i) => .ok (e, .v (.int (-i)))
    | _ => .bad := id rfl
def cmpC (o : COp) (p q : Env × Rv) : Rs (Env × Rv) := match dat q.1 p.2, dat q.1 q.2 with
    | some x, some y => (ofO (opCmp o x y)).bind fun r => .ok (q.1, .v (.bool r))
    | _, _ => .bad
def cmpB (o : COp) (b : ME) (p : Env × Rv) : Rs (Env × Rv) := (ev G b p.1).bind (cmpC o p)
theorem ev_cmp (o : COp) (a b : ME) (env : Env) : ev G (.cmp o a b) env = (ev G a env).bind (cmpB G o b) := id rfl
theorem cmpB_p (o : COp) (b : ME) (e : Env) (r : Rv) : cmpB G o b (e, r) = (ev G b e).bind (cmpC o (e, r)) := id rfl
theorem cmpC_p (o : COp) (e1 e : Env) (r q : Rv) : cmpC o (e1, r) (e, q) = match dat e r, dat e q with
    | some x, some y => (ofO (opCmp o x y)).bind fun r => .ok (e, .v (.bool r))
    | _, _ => .bad := id rfl
def chnD (o' : COp) (q t : Env × Rv) : Rs (Env × Rv) := match dat t.1 q.2, dat t.1 t.2 with
        | some y', some z => (ofO (opCmp o' y' z)).bind fun r' => .ok (t.1, .v (.bool r'))
        | _, _ => .bad
def chnE (o' : COp) (c : ME) (q : Env × Rv) (r : Bool) : Rs (Env × Rv) := if r then (ev G c q.1).bind (chnD o' q) else .ok (q.1, .v (.bool false))
def chnC (o o' : COp) (c : ME) (p q : Env × Rv) : Rs (Env × Rv) := match dat q.1 p.2, dat q.1 q.2 with
    | some x, some y => (ofO (opCmp o x y)).bind (chnE G o' c q)
    | _, _ => .bad
def chnB (o o' : COp) (b c : ME) (p : Env × Rv) : Rs (Env × Rv) := (ev G b p.1).bind (chnC G o o' c p)
theorem ev_chn (o o' : COp) (a b c : ME) (env : Env) : ev G (.chn o o' a b c) env = (ev G a env).bind (chnB G o o' b c) := id rfl
theorem chnB_p (o o' : COp) (b c : ME) (e : Env) (r : Rv) : chnB G o o' b c (e, r) = (ev G b e).bind (chnC G o o' c (e, r)) := id rfl
theorem chnC_p (o o' : COp) (c : ME) (e1 e : Env) (r q : Rv) : chnC G o o' c (e1, r) (e, q) = match dat e r, dat e q with
    | some x, some y => (ofO (opCmp o x y)).bind (chnE G o' c (e, q))
    | _, _ => .bad := id rfl
theorem chnE_t (o' : COp) (c : ME) (e : Env) (q : Rv) : chnE G o' c (e, q) true = (ev G c e).bind (chnD o' (e, q)) := id rfl
theorem chnE_f (o' : COp) (c : ME) (e : Env) (q : Rv) : chnE G o' c (e, q) false = .ok (e, .v (.bool false)) := id rfl
theorem chnD_p (o' : COp) (e1 e : Env) (q t : Rv) : chnD o' (e1, q) (e, t) = match dat e q, dat e t with
        | some y', some z => (ofO (opCmp o' y' z)).bind fun r' => .ok (e, .v (.bool r'))
        | _, _ => .bad := id rfl
def ch3E (o' o'' : COp) (c d : ME) (q : Env × Rv) (r : Bool) : Rs (Env × Rv) := if r then (ev G c q.1).bind (chnC G o' o'' d q) else .ok (q.1, .v (.bool false))
def ch3C (o o' o'' : COp) (c d : ME) (p q : Env × Rv) : Rs (Env × Rv) := match dat q.1 p.2, dat q.1 q.2 with
    | some x, some y => (ofO (opCmp o x y)).bind (ch3E G o' o'' c d q)
    | _, _ => .bad
def ch3B (o o' o'' : COp) (b c d : ME) (p : Env × Rv) : Rs (Env × Rv) := (ev G b p.1).bind (ch3C G o o' o'' c d p)
theorem ev_ch3 (o o' o'' : COp) (a b c d : ME) (env : Env) : ev G (.ch3 o o' o'' a b c d) env = (ev G a env).bind (ch3B G o o' o'' b c d) := id rfl
theorem ch3B_p (o o' o'' : COp) (b c d : ME) (e : Env) (r : Rv) : ch3B G o o' o'' b c d (e, r) = (ev G b e).bind (ch3C G o o' o'' c d (e, r)) := id rfl
theorem ch3C_p (o o' o'' : COp) (c d : ME) (e1 e : Env) (r q : Rv) : ch3C G o o' o'' c d (e1, r) (e, q) = match dat e r, dat e q with
    | some x, some y => (ofO (opCmp o x y)).bind (ch3E G o' o'' c d (e, q))
    | _, _ => .bad := id rfl
theorem ch3E_t (o' o'' : COp) (c d : ME) (e : Env) (q : Rv) : ch3E G o' o'' c d (e, q) true = (ev G c e).bind (chnC G o' o'' d (e, q)) := id rfl
theorem ch3E_f (o' o'' : COp) (c d : ME) (e : Env) (q : Rv) : ch3E G o' o'' c d (e, q) false = .ok (e, .v (.bool false)) := id rfl
def andB (b : ME) (p : Env × Rv) : Rs (Env × Rv) := match truR p.1 p.2 with
    | some true => ev G b p.1
    | some false => .ok p
    | none => .bad
theorem ev_and (a b : ME) (env : Env) : ev G (.and a b) env = (ev G a env).bind (andB G b) := id rfl
def andD (b : ME) (e : Env) (r : Rv) : Option Bool → Rs (Env × Rv)
    | some true => ev G b e
    | some false => .ok (e, r)
    | none => .bad
theorem andB_p (b : ME) (e : Env) (r : Rv) : andB G b (e, r) = andD G b e r (truR e r) := id rfl
theorem andD_t (b : ME) (e : Env) (r : Rv) : andD G b e r (some true) = ev G b e := id rfl
theorem andD_f (b : ME) (e : Env) (r : Rv) : andD G b e r (some false) = .ok (e, r) := id rfl
def orB (b : ME) (p : Env × Rv) : Rs (Env × Rv) := match truR p.1 p.2 with
    | some true => .ok p
    | some false => ev G b p.1
    | none => .bad
theorem ev_or (a b : ME) (env : Env) : ev G (.or a b) env = (ev G a env).bind (orB G b) := id rfl
def orD (b : ME) (e : Env) (r : Rv) : Option Bool → Rs (Env × Rv)
    | some true => .ok (e, r)
    | some false => ev G b e
    | none => .bad
theorem orB_p (b : ME) (e : Env) (r : Rv) : orB G b (e, r) = orD G b e r (truR e r) := id rfl
theorem orD_t (b : ME) (e : Env) (r : Rv) : orD G b e r (some true) = .ok (e, r) := id rfl
theorem orD_f (b : ME) (e : Env) (r : Rv) : orD G b e r (some false) = ev G b e := id rfl
def notC (p : Env × Rv) : Rs (Env × Rv) := match truR p.1 p.2 with
    | some k => .ok (p.1, .v (.bool (!k)))
    | none => .bad
theorem ev_not (a : ME) (env : Env) : ev G (.not a) env = (ev G a env).bind notC := id rfl
theorem notC_p (e : Env) (r : Rv) : notC (e, r) = match truR e r with
    | some k => .ok (e, .v (.bool (!k)))
    | none => .bad := id rfl
def ifeB (a b : ME) (p : Env × Rv) : Rs (Env × Rv) := match truR p.1 p.2 with
    | some true => ev G a p.1
    | some false => ev G b p.1
    | none => .bad
theorem ev_ife (t a b : ME) (env : Env) : ev G (.ife t a b) env = (ev G t env).bind (ifeB G a b) := id rfl
def ifeD (a b : ME) (e : Env) : Option Bool → Rs (Env × Rv)
    | some true => ev G a e
    | some false => ev G b e
    | none => .bad
theorem ifeB_p (a b : ME) (e : Env) (r : Rv) : ifeB G a b (e, r) = ifeD G a b e (truR e r) := id rfl
theorem ifeD_t (a b : ME) (e : Env) : ifeD G a b e (some true) = ev G a e := id rfl
theorem ifeD_f (a b : ME) (e : Env) : ifeD G a b e (some false) = ev G b e := id rfl
def subC (p q : Env × Rv) : Rs (Env × Rv) := match dat q.1 p.2, dat q.1 q.2 with
    | some x, some y => (ofO (opSub x y)).bind fun z => .ok (q.1, .v z)
    | _, _ => .bad
def subB (i : ME) (p : Env × Rv) : Rs (Env × Rv) := (ev G i p.1).bind (subC p)
theorem ev_sub (a i : ME) (env : Env) : ev G (.sub a i) env = (ev G a env).bind (subB G i) := id rfl
theorem subB_p (i : ME) (e : Env) (r : Rv) : subB G i (e, r) = (ev G i e).bind (subC (e, r)) := id rfl
theorem subC_p (e1 e : Env) (r q : Rv) : subC (e1, r) (e, q) = match dat e r, dat e q with
    | some x, some y => (ofO (opSub x y)).bind fun z => .ok (e, .v z)
    | _, _ => .bad := id rfl
def slcD (p : Env × Rv) (q t : Env × Option Int) : Rs (Env × Rv) := match dat t.1 p.2 with
      | some x => (ofO (opSlc q.2 t.2 x)).bind fun r => .ok (t.1, r)
      | _ => .bad
def slcC (hi : Option ME) (p : Env × Rv) (q : Env × Option Int) : Rs (Env × Rv) := (evo G hi q.1).bind (slcD p q)
def slcB (lo hi : Option ME) (p : Env × Rv) : Rs (Env × Rv) := (evo G lo p.1).bind (slcC G hi p)
theorem ev_slc (a : ME) (lo hi : Option ME) (env : Env) : ev G (.slc a lo hi) env = (ev G a env).bind (slcB G lo hi) := id rfl
theorem slcB_p (lo hi : Option ME) (e : Env) (r : Rv) : slcB G lo hi (e, r) = (evo G lo e).bind (slcC G hi (e, r)) := id rfl
theorem slcC_p (hi : Option ME) (p : Env × Rv) (e : Env) (i : Option Int) : slcC G hi p (e, i) = (evo G hi e).bind (slcD p (e, i)) := id rfl
theorem slcD_p (e1 e2 e : Env) (r : Rv) (i j : Option Int) : slcD (e1, r) (e2, i) (e, j) = match dat e r with
      | some x => (ofO (opSlc i j x)).bind fun r => .ok (e, r)
      | _ => .bad := id rfl
theorem evo_none (env : Env) : evo G none env = .ok (env, none) := id rfl
def evoC (p : Env × Rv) : Rs (Env × Option Int) := match p.2 with
    | .v (.int i) => .ok (p.1, some i)
    | _ => .bad
theorem evo_some (e : ME) (env : Env) : evo G (some e) env = (ev G e env).bind evoC := id rfl
theorem evoC_p (e : Env) (i : Int) : evoC (e, .v (.int i)) = .ok (e, some i) := id rfl
def revC (p : Env × Rv) : Rs (Env × Rv) := match dat p.1 p.2 with
    | some (.list xs) => .ok (p.1, .n xs.reverse)
    | some (.tuple xs) => .ok (p.1, .v (.tuple xs.reverse))
    | _ => .bad
theorem ev_rev (a : ME) (env : Env) : ev G (.rev a) env = (ev G a env).bind revC := id rfl
def b1C (o : B1) (p : Env × Rv) : Rs (Env × Rv) := match o, p.2 with
    | .list, .r xs => .ok (p.1, .n xs)
    | .len, .r xs => .ok (p.1, .v (.int xs.length))
    | _, _ => match dat p.1 p.2 with
      | some x => (ofO (opB1 o x)).bind fun r => .ok (p.1, r)
      | none => .bad
theorem ev_b1 (o : B1) (a : ME) (env : Env) : ev G (.b1 o a) env = (ev G a env).bind (b1C o) := id rfl
def b1D (o : B1) (e : Env) : Option PyData → Rs (Env × Rv)
  | some x => (ofO (opB1 o x)).bind fun r => .ok (e, r)
  | none => .bad
theorem b1C_v (o : B1) (e : Env) (x : PyData) : b1C o (e, .v x) = (ofO (opB1 o x)).bind fun r => .ok (e, r) := by cases o <;> rfl
theorem b1C_n (o : B1) (e : Env) (xs : List PyData) : b1C o (e, .n xs) = (ofO (opB1 o (.list xs))).bind fun r => .ok (e, r) := by cases o <;> rfl
theorem b1C_q (o : B1) (e : Env) (i : Nat) : b1C o (e, .p i) = b1D o e (dat e (.p i)) := by cases o <;> rfl
theorem b1D_some (o : B1) (e : Env) (x : PyData) : b1D o e (some x) = (ofO (opB1 o x)).bind fun r => .ok (e, r) := id rfl
theorem b1C_lr (e : Env) (xs : List PyData) : b1C .list (e, .r xs) = .ok (e, .n xs) := id rfl
theorem b1C_nr (e : Env) (xs : List PyData) : b1C .len (e, .r xs) = .ok (e, .v (.int xs.length)) := id rfl
def b2C (o : B2) (p q : Env × Rv) : Rs (Env × Rv) := match dat q.1 p.2, dat q.1 q.2 with
    | some x, some y => (ofO (opB2 o x y)).bind fun r => .ok (q.1, .v r)
    | _, _ => .bad
def b2B (o : B2) (b : ME) (p : Env × Rv) : Rs (Env × Rv) := (ev G b p.1).bind (b2C o p)
theorem ev_b2 (o : B2) (a b : ME) (env : Env) : ev G (.b2 o a b) env = (ev G a env).bind (b2B G o b) := id rfl
theorem b2B_p (o : B2) (b : ME) (e : Env) (r : Rv) : b2B G o b (e, r) = (ev G b e).bind (b2C o (e, r)) := id rfl
theorem b2C_p (o : B2) (e1 e : Env) (r q : Rv) : b2C o (e1, r) (e, q) = match dat e r, dat e q with
    | some x, some y => (ofO (opB2 o x y)).bind fun r => .ok (e, .v r)
    | _, _ => .bad := id rfl
def isiC (t : Ty) (p : Env × Rv) : Rs (Env × Rv) := match dat p.1 p.2 with
    | some x => (ofO (isTy t x)).bind fun b => .ok (p.1, .v (.bool b))
    | none => .bad
theorem ev_isi (a : ME) (t : Ty) (env : Env) : ev G (.isi a t) env = (ev G a env).bind (isiC t) := id rfl
theorem isiC_p (t : Ty) (e : Env) (r : Rv) : isiC t (e, r) = match dat e r with
    | some x => (ofO (isTy t x)).bind fun b => .ok (e, .v (.bool b))
    | none => .bad := id rfl
def lrgC (p q : Env × Rv) : Rs (Env × Rv) := match p.2, q.2 with
    | .v (.int i), .v (.int j) => if -1000000 ≤ i ∧ i ≤ 1000000 ∧ -1000000 ≤ j ∧ j ≤ 1000000 then .ok (q.1, .n (upto i (j - i).toNat)) else .bad
    | _, _ => .bad
def lrgB (b : ME) (p : Env × Rv) : Rs (Env × Rv) := (ev G b p.1).bind (lrgC p)
theorem ev_lrg (a b : ME) (env : Env) : ev G (.lrg a b) env = (ev G a env).bind (lrgB G b) := id rfl
theorem lrgB_p (b : ME) (e : Env) (r : Rv) : lrgB G b (e, r) = (ev G b e).bind (lrgC (e, r)) := id rfl
theorem lrgC_p (e1 e : Env) (i j : Int) : lrgC (e1, .v (.int i)) (e, .v (.int j)) = if -1000000 ≤ i ∧ i ≤ 1000000 ∧ -1000000 ≤ j ∧ j ≤ 1000000 then .ok (e, .n (upto i (j - i).toNat)) else .bad := id rfl
def appC (i : Nat) (p : Env × Rv) : Rs (Env × Rv) := match keep p.1 p.2 with
    | some (env', x) => match env'[i]? with
      | some (some (.l xs)) => if xs.length < sizeLine then .ok (env'.set i (some (.l (xs ++ [x]))), .v .none) else .bad
      | _ => .bad
    | none => .bad
theorem ev_app (i : Nat) (e : ME) (env : Env) : ev G (.app i e) env = if isL env i then (ev G e env).bind (appC i) else .bad := id rfl
theorem appC_p (i : Nat) (e : Env) (r : Rv) : appC i (e, r) = match keep e r with
    | some (env', x) => match env'[i]? with
      | some (some (.l xs)) => if xs.length < sizeLine then .ok (env'.set i (some (.l (xs ++ [x]))), .v .none) else .bad
      | _ => .bad
    | none => .bad := id rfl
def idxD (e : Env) : Option Nat → Rs (Env × Rv)
  | some j => .ok (e, .v (.int (j : Nat)))
  | none => .bad
theorem idxD_s (e : Env) (j : Nat) : idxD e (some j) = .ok (e, .v (.int (j : Nat))) := id rfl
def idxC (i : Nat) (p : Env × Rv) : Rs (Env × Rv) := match p.1[i]?, dat p.1 p.2 with
    | some (some (.l xs)), some y => idxD p.1 (plc xs y)
    | _, _ => .bad
theorem ev_idx (i : Nat) (e : ME) (env : Env) : ev G (.idx i e) env = if isL env i then (ev G e env).bind (idxC i) else .bad := by
  have h : ∀ p : Env × Rv, (match p.1[i]?, dat p.1 p.2 with
    | some (some (.l xs)), some y => match plc xs y with
      | some j => .ok (p.1, .v (.int (j : Nat)))
      | none => .bad
    | _, _ => .bad : Rs (Env × Rv)) = idxC i p := by
    intro p
    unfold idxC
    split
    · rename_i xs y h1 h2
      cases plc xs y <;> rfl
    · rfl
  have h2 := funext h
  rw [← h2]
  all_goals rfl
theorem idxC_p (i : Nat) (e : Env) (r : Rv) : idxC i (e, r) = match e[i]?, dat e r with
    | some (some (.l xs)), some y => idxD e (plc xs y)
    | _, _ => .bad := id rfl
def extC (i : Nat) (p : Env × Rv) : Rs (Env × Rv) := match p.1[i]?, dat p.1 p.2 with
    | some (some (.l xs)), some (.list ys) => if xs.length + ys.length ≤ sizeLine then .ok (p.1.set i (some (.l (xs ++ ys))), .v .none) else .bad
    | _, _ => .bad
theorem ev_ext (i : Nat) (e : ME) (env : Env) : ev G (.ext i e) env = if isL env i then (ev G e env).bind (extC i) else .bad := id rfl
theorem extC_p (i : Nat) (e : Env) (r : Rv) : extC i (e, r) = match e[i]?, dat e r with
    | some (some (.l xs)), some (.list ys) => if xs.length + ys.length ≤ sizeLine then .ok (e.set i (some (.l (xs ++ ys))), .v .none) else .bad
    | _, _ => .bad := id rfl
def callC (s : Sem) (p : Env × List Rv) : Rs (Env × Rv) := callW s p.1 p.2
theorem ev_call (f : Nat) (as : List ME) (s : Sem) (env : Env) (h : G f = some s) : ev G (.call f as) env = (evs G as env).bind (callC s) := by
  show (match G f with | none => _ | some s => _) = _
  rw [h]; rfl
def callD (env : Env) (rs : List Rv) : Rs (Rv × List (Option W)) → Rs (Env × Rv)
  | .ok (r, os) => if os.length = rs.length then .ok (back env rs os, r) else .bad
  | .ex c a => if noLent env rs then .ex c a else .bad
  | .bad => .bad
def callE (s : Sem) (env : Env) (rs : List Rv) : Option (List W) → Rs (Env × Rv)
  | none => .bad
  | some ws => callD env rs (s ws)
theorem callC_p (s : Sem) (e : Env) (rs : List Rv) : callC s (e, rs) = callE s e rs (lend e rs []) := id rfl
theorem callE_some (s : Sem) (e : Env) (rs : List Rv) (ws : List W) : callE s e rs (some ws) = callD e rs (s ws) := id rfl
theorem callD_ok (e : Env) (rs : List Rv) (r : Rv) (os : List (Option W)) : callD e rs (.ok (r, os)) = if os.length = rs.length then .ok (back e rs os, r) else .bad := id rfl
theorem callD_ex (e : Env) (rs : List Rv) (c : Nat) (a : PyData) : callD e rs (.ex c a) = if noLent e rs then .ex c a else .bad := id rfl
def callvA (as : List ME) (env : Env) : Option Sem → Rs (Env × Rv)
  | none => .bad
  | some s => (evs G as env).bind (callC s)
theorem callvA_some (as : List ME) (env : Env) (s : Sem) : callvA G as env (some s) = (evs G as env).bind (callC s) := id rfl
def fnD (x : Str) : PyData := .dict [(.str x, .none)]
def callvL (as : List ME) (env : Env) : Option Nat → Rs (Env × Rv)
  | none => .bad
  | some f => callvA G as env (G f)
theorem callvL_some (as : List ME) (env : Env) (f : Nat) : callvL G as env (some f) = callvA G as env (G f) := id rfl
def callvB (tb : List (Str × Nat)) (as : List ME) (env : Env) : Option (Option W) → Rs (Env × Rv)
  | some (some (.d (.dict [(.str x, .none)]))) => callvL G as env (tb.lookup x)
  | _ => .bad
theorem callvB_f (tb : List (Str × Nat)) (as : List ME) (env : Env) (x : Str) : callvB G tb as env (some (some (.d (fnD x)))) = callvL G as env (tb.lookup x) := id rfl
theorem ev_callv (tb : List (Str × Nat)) (i : Nat) (as : List ME) (env : Env) : ev G (.callv tb i as) env = callvB G tb as env env[i]? := by
  show (match env[i]? with | some (some (.d (.dict [(.str x, .none)]))) => _ | _ => _) = _
  unfold callvB
  split
  · rename_i x _
    show (match tb.lookup x with | none => _ | some f => _) = _
    cases tb.lookup x with
    | none => rfl
    | some f =>
      show (match G f with | none => _ | some s => _) = _
      show _ = callvA G as env (G f)
      cases G f <;> rfl
  · rfl
theorem evs_nil (env : Env) : evs G [] env = .ok (env, []) := id rfl
def evsC (r : Rv) (q : Env × List Rv) : Rs (Env × List Rv) := .ok (q.1, r :: q.2)
def evsB (es : List ME) (p : Env × Rv) : Rs (Env × List Rv) := (evs G es p.1).bind (evsC p.2)
theorem evs_cons (e : ME) (es : List ME) (env : Env) : evs G (e :: es) env = (ev G e env).bind (evsB G es) := id rfl
theorem evsB_p (es : List ME) (e : Env) (r : Rv) : evsB G es (e, r) = (evs G es e).bind (evsC r) := id rfl
theorem evsC_p (r : Rv) (e : Env) (rs : List Rv) : evsC r (e, rs) = .ok (e, r :: rs) := id rfl
def evtB (es : List ME) (p : Env × Rv) : Rs (Env × Bool) := match truR p.1 p.2 with
    | some true => evt G es p.1
    | some false => .ok (p.1, false)
    | none => .bad
theorem evt_nil (env : Env) : evt G [] env = .ok (env, true) := id rfl
theorem evt_cons (e : ME) (es : List ME) (env : Env) : evt G (e :: es) env = (ev G e env).bind (evtB G es) := id rfl
def evtD (es : List ME) (e : Env) : Option Bool → Rs (Env × Bool)
    | some true => evt G es e
    | some false => .ok (e, false)
    | none => .bad
theorem evtB_p (es : List ME) (e : Env) (r : Rv) : evtB G es (e, r) = evtD G es e (truR e r) := id rfl
theorem evtD_t (es : List ME) (e : Env) : evtD G es e (some true) = evt G es e := id rfl
theorem evtD_f (es : List ME) (e : Env) : evtD G es e (some false) = .ok (e, false) := id rfl
/-- a turn of a comprehension -/
def lcE (own : List Nat) (p : Env × Rv) : Rs (Env × Option PyData) := match keep p.1 p.2 with
              | some (en2, y) => .ok (wipeE en2 own, some y)
              | none => .bad
def lcD (own : List Nat) (e : ME) (q : Env × Bool) : Rs (Env × Option PyData) := if q.2 then (ev G e q.1).bind (lcE own) else .ok (wipeE q.1 own, none)
def lcC (own : List Nat) (ifs : List ME) (e : ME) : Option Env → Rs (Env × Option PyData)
  | none => .bad
  | some en1 => (evt G ifs en1).bind (lcD G own e)
def lcT (own : List Nat) (tg : Tgt) (ifs : List ME) (e : ME) (x : PyData) (en : Env) : Rs (Env × Option PyData) := lcC G own ifs e (asgT tg x en)
def lcF (own : List Nat) (env1 : Env) (ls : List Nat) : Rs (Env × List PyData) → Rs (Env × Rv)
  | .ok (env2, acc) => if acc.length ≤ sizeLine then match unlock (restE env1 env2 own) ls with
            | some env3 => .ok (env3, .n acc)
            | none => .bad
          else .bad
  | _ => .bad
def lcB (own : List Nat) (tg : Tgt) (ifs : List ME) (e : ME) : Option (Env × List PyData × List Nat) → Rs (Env × Rv)
  | none => .bad
  | some (env1, xs, ls) => lcF own env1 ls (lcGo (lcT G own tg ifs e) xs (wipeE env1 own) [])
def lcA (own : List Nat) (tg : Tgt) (w : Nat) (ifs : List ME) (e : ME) (p : Env × List Rv) : Rs (Env × Rv) := lcB G own tg ifs e (items w p.1 p.2)
theorem lcGo_congr {t t' : PyData → Env → Rs (Env × Option PyData)} (h : ∀ x e, t x e = t' x e) : ∀ (xs : List PyData) (e : Env) (acc : List PyData), lcGo t xs e acc = lcGo t' xs e acc := by
  have : t = t' := funext fun x => funext fun e => h x e
  subst this; intros; rfl
theorem ev_lc (own : List Nat) (tg : Tgt) (w : Nat) (its ifs : List ME) (e : ME) (env : Env) : ev G (.lc own tg w its ifs e) env = (evs G its env).bind (lcA G own tg w ifs e) := by
  show Rs.bind _ _ = _
  congr 1
theorem lcA_p (own : List Nat) (tg : Tgt) (w : Nat) (ifs : List ME) (e : ME) (en : Env) (rs : List Rv) : lcA G own tg w ifs e (en, rs) = lcB G own tg ifs e (items w en rs) := id rfl
theorem lcB_some (own : List Nat) (tg : Tgt) (ifs : List ME) (e : ME) (env1 : Env) (xs : List PyData) (ls : List Nat) : lcB G own tg ifs e (some (env1, xs, ls)) = lcF own env1 ls (lcGo (lcT G own tg ifs e) xs (wipeE env1 own) []) := id rfl
theorem lcT_p (own : List Nat) (tg : Tgt) (ifs : List ME) (e : ME) (x : PyData) (en : Env) : lcT G own tg ifs e x en = lcC G own ifs e (asgT tg x en) := id rfl
theorem lcC_some (own : List Nat) (ifs : List ME) (e : ME) (en : Env) : lcC G own ifs e (some en) = (evt G ifs en).bind (lcD G own e) := id rfl
theorem lcD_t (own : List Nat) (e : ME) (en : Env) : lcD G own e (en, true) = (ev G e en).bind (lcE own) := id rfl
theorem lcD_f (own : List Nat) (e : ME) (en : Env) : lcD G own e (en, false) = .ok (wipeE en own, none) := id rfl
theorem lcE_p (own : List Nat) (en : Env) (r : Rv) : lcE own (en, r) = match keep en r with
              | some (en2, y) => .ok (wipeE en2 own, some y)
              | none => .bad := id rfl
theorem lcF_ok (own : List Nat) (env1 env2 : Env) (ls : List Nat) (acc : List PyData) (l : acc.length ≤ sizeLine) : lcF own env1 ls (.ok (env2, acc)) = match unlock (restE env1 env2 own) ls with
            | some env3 => .ok (env3, .n acc)
            | none => .bad := if_pos l
/-! ### statements -/
def seq (x : Ou) (f : Env → Ou) : Ou := match x with
  | .nx e => f e
  | o => o
theorem exs_nil (env : Env) : exs G [] env = .nx env := id rfl
theorem exs_cons (s : MS) (r : List MS) (env : Env) : exs G (s :: r) env = seq (exs1 G s env) (exs G r) := id rfl
theorem seq_nx {e : Env} {f : Env → Ou} : seq (.nx e) f = f e := id rfl
theorem seq_rt {e : Env} {r : Rv} {f : Env → Ou} : seq (.rt e r) f = .rt e r := id rfl
theorem seq_bk {e : Env} {f : Env → Ou} : seq (.bk e) f = .bk e := id rfl
theorem seq_ct {e : Env} {f : Env → Ou} : seq (.ct e) f = .ct e := id rfl
theorem seq_ex {c : Nat} {a : PyData} {f : Env → Ou} : seq (.ex c a) f = .ex c a := id rfl
def asgC (tg : Tgt) (p : Env × Rv) : Ou := match p.2 with
    | .v x => match asgT tg x p.1 with
      | some env' => .nx env'
      | none => .bad
    | _ => .bad
theorem exs_asg (tg : Tgt) (e : ME) (env : Env) : exs1 G (.asg tg e) env = .of (ev G e env) (asgC tg) := id rfl
theorem asgC_p (tg : Tgt) (e : Env) (x : PyData) : asgC tg (e, .v x) = match asgT tg x e with
      | some env' => .nx env'
      | none => .bad := id rfl
def parC (is : List Nat) (p : Env × List Rv) : Ou := match settle p.1 p.2 with
    | some (e1, qs) => match bindAll e1 is qs with
      | some env' => .nx env'
      | none => .bad
    | none => .bad
theorem exs_par (is : List Nat) (es : List ME) (env : Env) : exs1 G (.par is es) env = .of (evs G es env) (parC is) := id rfl
theorem parC_p (is : List Nat) (e : Env) (rs : List Rv) : parC is (e, rs) = match settle e rs with
    | some (e1, qs) => match bindAll e1 is qs with
      | some env' => .nx env'
      | none => .bad
    | none => .bad := id rfl
def setsC (ts : List (Nat × ME)) (p : Env × List Rv) : Ou := match keepAll p.1 p.2 with
    | some (env1, ys) => match setAll (fun e en => ev G e en) ts ys env1 with
      | some env' => .nx env'
      | none => .bad
    | none => .bad
theorem exs_sets (ts : List (Nat × ME)) (es : List ME) (env : Env) : exs1 G (.sets ts es) env = .of (evs G es env) (setsC G ts) := id rfl
theorem setsC_p (ts : List (Nat × ME)) (e : Env) (rs : List Rv) : setsC G ts (e, rs) = match keepAll e rs with
    | some (env1, ys) => match setAll (ev G) ts ys env1 with
      | some env' => .nx env'
      | none => .bad
    | none => .bad := id rfl
def mixC (ts : List (Nat × Option ME)) (p : Env × List Rv) : Ou := match keepAll p.1 p.2 with
    | some (env1, ys) => match setMix (fun e en => ev G e en) ts ys env1 with
      | some env' => .nx env'
      | none => .bad
    | none => .bad
theorem exs_mix (ts : List (Nat × Option ME)) (es : List ME) (env : Env) : exs1 G (.mix ts es) env = .of (evs G es env) (mixC G ts) := id rfl
theorem mixC_p (ts : List (Nat × Option ME)) (e : Env) (rs : List Rv) : mixC G ts (e, rs) = match keepAll e rs with
    | some (env1, ys) => match setMix (ev G) ts ys env1 with
      | some env' => .nx env'
      | none => .bad
    | none => .bad := id rfl
def unpC (ts : List Tgt) (p : Env × Rv) : Ou := match p.2 with
    | .n xs => match asgTs ts xs p.1 with
      | some env' => .nx env'
      | none => .bad
    | _ => .bad
theorem exs_unp (ts : List Tgt) (e : ME) (env : Env) : exs1 G (.unp ts e) env = .of (ev G e env) (unpC ts) := id rfl
theorem unpC_p (ts : List Tgt) (e : Env) (xs : List PyData) : unpC ts (e, .n xs) = match asgTs ts xs e with
      | some env' => .nx env'
      | none => .bad := id rfl
def augC (i : Nat) (o : BOp) (x : PyData) (p : Env × Rv) : Ou := match dat p.1 p.2 with
      | some y => match augT o x y with
        | some z => if i < p.1.length then .nx (p.1.set i (some (.d z))) else .bad
        | none => .bad
      | none => .bad
def augB (i : Nat) (o : BOp) (e : ME) (env : Env) : Option Rv → Ou
  | some (.v x) => .of (ev G e env) (augC i o x)
  | _ => .bad
theorem exs_aug (i : Nat) (o : BOp) (e : ME) (env : Env) : exs1 G (.aug i o e) env = augB G i o e env (rdName env i) := by
  show (match rdName env i with | some (.v x) => _ | _ => _) = _
  cases rdName env i with
  | none => rfl
  | some r => cases r <;> rfl
theorem augB_v (i : Nat) (o : BOp) (e : ME) (env : Env) (x : PyData) : augB G i o e env (some (.v x)) = .of (ev G e env) (augC i o x) := id rfl
theorem augC_p (i : Nat) (o : BOp) (x : PyData) (e : Env) (r : Rv) : augC i o x (e, r) = match dat e r with
      | some y => match augT o x y with
        | some z => if i < e.length then .nx (e.set i (some (.d z))) else .bad
        | none => .bad
      | none => .bad := id rfl
def augsE (i : Nat) (k : Int) (o : BOp) (x : PyData) (q : Env × Rv) : Ou := match dat q.1 q.2 with
  | some y => match augT o x y with
    | some z => match q.1[i]? with
      | some (some (.l ys)) => match L2.ixN ys.length k with
        | some j => .nx (q.1.set i (some (.l (ys.set j z))))
        | none => .bad
      | _ => .bad
    | none => .bad
  | none => .bad
theorem augsE_p (i : Nat) (k : Int) (o : BOp) (x : PyData) (e : Env) (r : Rv) : augsE i k o x (e, r) = match dat e r with
  | some y => match augT o x y with
    | some z => match e[i]? with
      | some (some (.l ys)) => match L2.ixN ys.length k with
        | some j => .nx (e.set i (some (.l (ys.set j z))))
        | none => .bad
      | _ => .bad
    | none => .bad
  | none => .bad := id rfl
def augsD (i : Nat) (k : Int) (o : BOp) (e : ME) (en : Env) : Option PyData → Ou
  | some x => .of (ev G e en) (augsE i k o x)
  | none => .bad
theorem augsD_some (i : Nat) (k : Int) (o : BOp) (e : ME) (en : Env) (x : PyData) : augsD G i k o e en (some x) = .of (ev G e en) (augsE i k o x) := id rfl
def augsC (i : Nat) (k : Int) (o : BOp) (e : ME) (en : Env) : Option (Option W) → Ou
  | some (some (.l xs)) => if 0 ≤ k then augsD G i k o e en xs[k.toNat]? else .bad
  | _ => .bad
theorem augsC_l (i : Nat) (k : Int) (o : BOp) (e : ME) (en : Env) (xs : List PyData) : augsC G i k o e en (some (some (.l xs))) = if 0 ≤ k then augsD G i k o e en xs[k.toNat]? else .bad := id rfl
def augsB (i : Nat) (o : BOp) (e : ME) (p : Env × Rv) : Ou := match p.2 with
  | .v (.int k) => augsC G i k o e p.1 p.1[i]?
  | _ => .bad
theorem augsB_p (i : Nat) (o : BOp) (e : ME) (en : Env) (k : Int) : augsB G i o e (en, .v (.int k)) = augsC G i k o e en en[i]? := id rfl
theorem exs_augs (i : Nat) (ix : ME) (o : BOp) (e : ME) (env : Env) : exs1 G (.augs i ix o e) env = if isL env i then .of (ev G ix env) (augsB G i o e) else .bad := by
  have h : ∀ p : Env × Rv, (match p.2 with
    | .v (.int k) => match p.1[i]? with
      | some (some (.l xs)) => if 0 ≤ k then match xs[k.toNat]? with
        | some x => .of (ev G e p.1) fun q => match dat q.1 q.2 with
          | some y => match augT o x y with
            | some z => match q.1[i]? with
              | some (some (.l ys)) => match L2.ixN ys.length k with
                | some j => .nx (q.1.set i (some (.l (ys.set j z))))
                | none => .bad
              | _ => .bad
            | none => .bad
          | none => .bad
        | none => .bad
        else .bad
      | _ => .bad
    | _ => .bad : Ou) = augsB G i o e p := by
    intro p
    obtain ⟨en, r⟩ := p
    cases r <;> first | rfl | (rename_i x; cases x <;> rfl)
  have h2 := funext h
  rw [← h2]
  all_goals rfl
def expC (p : Env × Rv) : Ou := .nx p.1
theorem exs_exp (e : ME) (env : Env) : exs1 G (.exp e) env = .of (ev G e env) expC := id rfl
theorem expC_p (e : Env) (r : Rv) : expC (e, r) = .nx e := id rfl
def iteC (a b : List MS) (p : Env × Rv) : Ou := match truR p.1 p.2 with
    | some true => exs G a p.1
    | some false => exs G b p.1
    | none => .bad
theorem exs_ite (t : ME) (a b : List MS) (env : Env) : exs1 G (.ite t a b) env = .of (ev G t env) (iteC G a b) := id rfl
def iteD (a b : List MS) (e : Env) : Option Bool → Ou
    | some true => exs G a e
    | some false => exs G b e
    | none => .bad
theorem iteC_p (a b : List MS) (e : Env) (r : Rv) : iteC G a b (e, r) = iteD G a b e (truR e r) := id rfl
theorem iteD_t (a b : List MS) (e : Env) : iteD G a b e (some true) = exs G a e := id rfl
theorem iteD_f (a b : List MS) (e : Env) : iteD G a b e (some false) = exs G b e := id rfl
def retC (p : Env × Rv) : Ou := .rt p.1 p.2
theorem exs_ret (e : ME) (env : Env) : exs1 G (.ret e) env = .of (ev G e env) retC := id rfl
theorem retC_p (e : Env) (r : Rv) : retC (e, r) = .rt e r := id rfl
theorem exs_retN (env : Env) : exs1 G .retN env = .rt env (.v .none) := id rfl
def forB (body : List MS) : Option Env → Ou
  | none => .bad
  | some e1 => exs G body e1
def forT (tg : Tgt) (body : List MS) (x : PyData) (e : Env) : Ou := forB G body (asgT tg x e)
theorem forT_p (tg : Tgt) (body : List MS) (x : PyData) (e : Env) : forT G tg body x e = forB G body (asgT tg x e) := id rfl
theorem forB_some (body : List MS) (e : Env) : forB G body (some e) = exs G body e := id rfl
def forA (tg : Tgt) (body : List MS) : Option (Env × List PyData × List Nat) → Ou
  | none => .bad
  | some (env1, xs, ls) => opened ls (forGo (forT G tg body) xs env1)
theorem forA_some (tg : Tgt) (body : List MS) (e : Env) (xs : List PyData) (ls : List Nat) : forA G tg body (some (e, xs, ls)) = opened ls (forGo (forT G tg body) xs e) := id rfl
def forC (tg : Tgt) (w : Nat) (body : List MS) (p : Env × List Rv) : Ou := forA G tg body (items w p.1 p.2)
theorem forC_p (tg : Tgt) (w : Nat) (body : List MS) (e : Env) (rs : List Rv) : forC G tg w body (e, rs) = forA G tg body (items w e rs) := id rfl
theorem exs_for (tg : Tgt) (w : Nat) (its : List ME) (body : List MS) (env : Env) : exs1 G (.for_ tg w its body) env = .of (evs G its env) (forC G tg w body) := by
  show Ou.of _ _ = _
  congr 1
theorem exs_brk (env : Env) : exs1 G .brk env = .bk env := id rfl
theorem exs_cnt (env : Env) : exs1 G .cnt env = .ct env := id rfl
theorem exs_pas (env : Env) : exs1 G .pas env = .nx env := id rfl
def raiC (c : Nat) (p : Env × Rv) : Ou := match p.2 with
    | .v x => .ex c x
    | _ => .bad
theorem exs_rai (c : Nat) (e : ME) (env : Env) : exs1 G (.rai c e) env = .of (ev G e env) (raiC c) := id rfl
theorem raiC_p (c : Nat) (e : Env) (x : PyData) : raiC c (e, .v x) = .ex c x := id rfl
theorem exs_tryf (k : Bool) (b : List MS) (env : Env) : exs1 G (.tryf k b) env = if noOwn env then tryF k env (exs G b env) else .bad := id rfl
theorem exs_tryw (b : List MS) (env : Env) : exs1 G (.tryw b) env = if noOwn env then tryO env (exs G b env) else .bad := id rfl
theorem noOwn_nil : noOwn [] = true := id rfl
theorem noOwn_d (x : PyData) (env : Env) : noOwn (some (.d x) :: env) = noOwn env := id rfl
theorem noOwn_r (x : List PyData) (env : Env) : noOwn (some (.r x) :: env) = noOwn env := id rfl
theorem noOwn_f (f : Nat) (env : Env) : noOwn (some (.f f) :: env) = noOwn env := id rfl
theorem noOwn_n (env : Env) : noOwn (none :: env) = noOwn env := id rfl
def wordO (env : Env) : Option Str → Ou
  | some x => .rt env (.v (.str x))
  | none => .bad
theorem wordO_some (env : Env) (x : Str) : wordO env (some x) = .rt env (.v (.str x)) := id rfl
theorem tryO_ex (env : Env) (c : Nat) (a : PyData) : tryO env (.ex c a) = wordO env (wordD c a) := by
  show (match wordD c a with | some x => _ | none => _) = _
  cases wordD c a <;> rfl
theorem tryF_ex (k : Bool) (env : Env) (c : Nat) (a : PyData) : tryF k env (.ex c a) = wordO env (wordF k c a) := by
  show (match wordF k c a with | some x => _ | none => _) = _
  cases wordF k c a <;> rfl
theorem tryF_rt (k : Bool) (env e : Env) (r : Rv) : tryF k env (.rt e r) = .rt e r := id rfl
theorem tryF_nx (k : Bool) (env e : Env) : tryF k env (.nx e) = .nx e := id rfl
theorem tryO_rt (env e : Env) (r : Rv) : tryO env (.rt e r) = .rt e r := id rfl
theorem tryO_nx (env e : Env) : tryO env (.nx e) = .nx e := id rfl
/-! ### defs -/
def give (ar : Nat) : Ou → Rs (Rv × List (Option W))
  | .nx e => .ok (.v .none, e.take ar)
  | .rt e r => match giveR e ar r with
      | some (e', r') => .ok (r', e'.take ar)
      | none => .bad
  | .ex c a => .ex c a
  | _ => .bad
theorem run_ok (ar many : Nat) (body : List MS) (ws : List W) (h : ws.length = ar) (h2 : lentOk (stos body) 0 ws = true) : runDef G ar many body ws = give ar (exs G body (ws.map some ++ List.replicate (many - ar) none)) := by
  unfold runDef give
  rw [if_pos ⟨h, h2⟩]
  all_goals
    generalize exs G body (ws.map some ++ List.replicate (many - ar) none) = o
    cases o <;> rfl
theorem go {ar many : Nat} {body : List MS} {ws : List W} {R : Rs (Rv × List (Option W))} (h : ws.length = ar) (h2 : lentOk (stos body) 0 ws = true) (h3 : give ar (exs G body (ws.map some ++ List.replicate (many - ar) none)) = R) : runDef G ar many body ws = R := by rw [run_ok G ar many body ws h h2, h3]
theorem give_nx (ar : Nat) (e : Env) : give ar (.nx e) = .ok (.v .none, e.take ar) := id rfl
theorem give_rt (ar : Nat) (e : Env) (r : Rv) : give ar (.rt e r) = match giveR e ar r with
      | some (e', r') => .ok (r', e'.take ar)
      | none => .bad := id rfl
theorem give_ex (ar : Nat) (c : Nat) (a : PyData) : give ar (.ex c a) = .ex c a := id rfl
end
end Ev.D

set_option maxRecDepth 100000
/-! Ev, part DC: plain facts of data: sameness, what can be told, items. -/
namespace Ev.D
open PySem
mutual
/-- data that can be laid, compared and told: no dict, ints below 10 ^ 30 -/
def nic : PyData → Bool
  | .none | .bool _ => true
  | .int i => decide (i.natAbs < 10 ^ 30)
  | .str x => PyData.strOk x
  | .list xs | .tuple xs => nics xs
  | .dict _ => false
def nics : List PyData → Bool
  | [] => true
  | x :: xs => nic x && nics xs
end
theorem nics_of {xs : List PyData} (h : ∀ x ∈ xs, nic x = true) : nics xs = true := by
  induction xs with
  | nil => rfl
  | cons x xs ih =>
    show (nic x && nics xs) = true
    rw [h x (by simp), ih fun y hy => h y (by simp [hy])]
    rfl
theorem nics_iff {xs : List PyData} : nics xs = true ↔ ∀ x ∈ xs, nic x = true := by
  refine ⟨?_, nics_of⟩
  induction xs with
  | nil => intro _ x hx; cases hx
  | cons x xs ih =>
    intro h y hy
    have h : nic x = true ∧ nics xs = true := by simpa [nics] using h
    rcases List.mem_cons.mp hy with rfl | hy
    · exact h.1
    · exact ih h.2 y hy
theorem pow30 : (10 : Nat) ^ 30 < 2 ^ 1920 := by
  exact Nat.lt_of_lt_of_le (m := 2 ^ 100) (by decide) (Nat.pow_le_pow_right (by decide) (by decide))
theorem log_of {i : Int} (h : i.natAbs < 10 ^ 30) : i.natAbs.log2 < 1920 := by
  by_cases z : i.natAbs = 0
  · rw [z]; decide
  · exact (Nat.log2_lt z).mpr (Nat.lt_trans h pow30)
mutual
theorem nic_lay : ∀ d : PyData, nic d = true → d.canLay0 = true
  | .none, _ => by simp only [PyData.canLay0]
  | .bool _, _ => by simp only [PyData.canLay0]
  | .int _, _ => by simp only [PyData.canLay0]
  | .str x, h => by simpa [nic, PyData.canLay0] using h
  | .list xs, h => by simp only [PyData.canLay0]; exact nics_lay xs (by simpa [nic] using h)
  | .tuple xs, h => by simp only [PyData.canLay0]; exact nics_lay xs (by simpa [nic] using h)
  | .dict _, h => by simp [nic] at h
theorem nics_lay : ∀ xs : List PyData, nics xs = true → PyData.canLayAll0 xs = true
  | [], _ => by simp only [PyData.canLayAll0]
  | x :: xs, h => by
    have h : nic x = true ∧ nics xs = true := by simpa [nics] using h
    simp only [PyData.canLayAll0, nic_lay x h.1, nics_lay xs h.2, Bool.and_self]
end
mutual
theorem nic_show : ∀ d : PyData, nic d = true → d.showable = true
  | .none, _ => by simp only [PyData.showable]
  | .bool _, _ => by simp only [PyData.showable]
  | .int i, h => by
    simp only [PyData.showable]
    exact decide_eq_true (log_of (by simpa [nic] using h))
  | .str x, h => by simp only [PyData.showable]
  | .list xs, h => by simp only [PyData.showable]; exact nics_show xs (by simpa [nic] using h)
  | .tuple xs, h => by simp only [PyData.showable]; exact nics_show xs (by simpa [nic] using h)
  | .dict _, h => by simp [nic] at h
theorem nics_show : ∀ xs : List PyData, nics xs = true → PyData.showableAll xs = true
  | [], _ => by simp only [PyData.showableAll]
  | x :: xs, h => by
    have h : nic x = true ∧ nics xs = true := by simpa [nics] using h
    simp only [PyData.showableAll, nic_show x h.1, nics_show xs h.2, Bool.and_self]
end
mutual
theorem nic_short : ∀ d : PyData, nic d = true → d.intsShort 31 = true
  | .none, _ => by simp only [PyData.intsShort]
  | .bool _, _ => by simp only [PyData.intsShort]
  | .int i, h => by
    simp only [PyData.intsShort, PyData.shown]
    refine decide_eq_true ?_
    have := int_text_length_le10 (a := i) (k := 30) (by decide) (by simpa [nic] using h)
    rw [PySem.ofString_length]
    exact this
  | .str x, h => by simp only [PyData.intsShort]
  | .list xs, h => by simp only [PyData.intsShort]; exact nics_short xs (by simpa [nic] using h)
  | .tuple xs, h => by simp only [PyData.intsShort]; exact nics_short xs (by simpa [nic] using h)
  | .dict _, h => by simp [nic] at h
theorem nics_short : ∀ xs : List PyData, nics xs = true → PyData.intsShortAll 31 xs = true
  | [], _ => by simp only [PyData.intsShortAll]
  | x :: xs, h => by
    have h : nic x = true ∧ nics xs = true := by simpa [nics] using h
    simp only [PyData.intsShortAll, nic_short x h.1, nics_short xs h.2, Bool.and_self]
end
mutual
theorem eqv_self : ∀ d : PyData, nic d = true → PyData.eqv d d = true
  | .none, _ => by simp only [PyData.eqv]
  | .bool _, _ => by simp [PyData.eqv]
  | .int i, _ => by simp [PyData.eqv]
  | .str x, _ => by simp [PyData.eqv]
  | .list xs, h => by simp only [PyData.eqv]; exact eqvs_self xs (by simpa [nic] using h)
  | .tuple xs, h => by simp only [PyData.eqv]; exact eqvs_self xs (by simpa [nic] using h)
  | .dict _, h => by simp [nic] at h
theorem eqvs_self : ∀ xs : List PyData, nics xs = true → PyData.eqvAll xs xs = true
  | [], _ => by simp only [PyData.eqvAll]
  | x :: xs, h => by
    have h : nic x = true ∧ nics xs = true := by simpa [nics] using h
    simp only [PyData.eqvAll, eqv_self x h.1, eqvs_self xs h.2, Bool.and_self]
end
mutual
/-- without truths: sameness is sameness -/
def pl : PyData → Bool
  | .none | .int _ | .str _ => true
  | .list xs | .tuple xs => pls xs
  | .bool _ | .dict _ => false
def pls : List PyData → Bool
  | [] => true
  | x :: xs => pl x && pls xs
end
theorem pls_of {xs : List PyData} (h : ∀ x ∈ xs, pl x = true) : pls xs = true := by
  induction xs with
  | nil => rfl
  | cons x xs ih =>
    show (pl x && pls xs) = true
    rw [h x (by simp), ih fun y hy => h y (by simp [hy])]
    rfl
mutual
theorem eqv_eq : ∀ x y : PyData, pl x = true → pl y = true → PyData.eqv x y = true → x = y
  | .none, .none, _, _, _ => rfl
  | .int i, .int j, _, _, h => by simp [PyData.eqv] at h; rw [h]
  | .str a, .str b, _, _, h => by simp [PyData.eqv] at h; rw [h]
  | .list xs, .list ys, h1, h2, h => by
    rw [eqvs_eq xs ys (by simpa [pl] using h1) (by simpa [pl] using h2) (by simpa [PyData.eqv] using h)]
  | .tuple xs, .tuple ys, h1, h2, h => by
    rw [eqvs_eq xs ys (by simpa [pl] using h1) (by simpa [pl] using h2) (by simpa [PyData.eqv] using h)]
  | .bool _, _, h, _, _ => by simp [pl] at h
  | .dict _, _, h, _, _ => by simp [pl] at h
  | _, .bool _, _, h, _ => by simp [pl] at h
  | _, .dict _, _, h, _ => by simp [pl] at h
  | .none, .int _, _, _, h | .none, .str _, _, _, h | .none, .list _, _, _, h | .none, .tuple _, _, _, h => by simp [PyData.eqv] at h
  | .int _, .none, _, _, h | .int _, .str _, _, _, h | .int _, .list _, _, _, h | .int _, .tuple _, _, _, h => by simp [PyData.eqv] at h
  | .str _, .none, _, _, h | .str _, .int _, _, _, h | .str _, .list _, _, _, h | .str _, .tuple _, _, _, h => by simp [PyData.eqv] at h
  | .list _, .none, _, _, h | .list _, .int _, _, _, h | .list _, .str _, _, _, h | .list _, .tuple _, _, _, h => by simp [PyData.eqv] at h
  | .tuple _, .none, _, _, h | .tuple _, .int _, _, _, h | .tuple _, .str _, _, _, h | .tuple _, .list _, _, _, h => by simp [PyData.eqv] at h
theorem eqvs_eq : ∀ xs ys : List PyData, pls xs = true → pls ys = true → PyData.eqvAll xs ys = true → xs = ys
  | [], [], _, _, _ => rfl
  | [], _ :: _, _, _, h => by simp [PyData.eqvAll] at h
  | _ :: _, [], _, _, h => by simp [PyData.eqvAll] at h
  | x :: xs, y :: ys, h1, h2, h => by
    have h1 : pl x = true ∧ pls xs = true := by simpa [pls] using h1
    have h2 : pl y = true ∧ pls ys = true := by simpa [pls] using h2
    have h : PyData.eqv x y = true ∧ PyData.eqvAll xs ys = true := by simpa [PyData.eqvAll] using h
    rw [eqv_eq x y h1.1 h2.1 h.1, eqvs_eq xs ys h1.2 h2.2 h.2]
end
mutual
theorem eqv_refl : ∀ d : PyData, pl d = true → PyData.eqv d d = true
  | .none, _ => by simp only [PyData.eqv]
  | .bool _, h => by simp [pl] at h
  | .int i, _ => by simp [PyData.eqv]
  | .str x, _ => by simp [PyData.eqv]
  | .list xs, h => by simp only [PyData.eqv]; exact eqvs_refl xs (by simpa [pl] using h)
  | .tuple xs, h => by simp only [PyData.eqv]; exact eqvs_refl xs (by simpa [pl] using h)
  | .dict _, h => by simp [pl] at h
theorem eqvs_refl : ∀ xs : List PyData, pls xs = true → PyData.eqvAll xs xs = true
  | [], _ => by simp only [PyData.eqvAll]
  | x :: xs, h => by
    have h : pl x = true ∧ pls xs = true := by simpa [pls] using h
    simp only [PyData.eqvAll, eqv_refl x h.1, eqvs_refl xs h.2, Bool.and_self]
end
theorem depths_le {n : Nat} : ∀ {xs : List PyData}, (∀ x ∈ xs, x.depth ≤ n) → PyData.depthAll xs ≤ n
  | [], _ => Nat.zero_le _
  | x :: xs, h => Nat.max_le.mpr ⟨h x (by simp), depths_le fun y hy => h y (by simp [hy])⟩
theorem bulks_le {n : Nat} : ∀ {xs : List PyData}, (∀ x ∈ xs, x.bulk ≤ n) → PyData.bulkAll xs ≤ xs.length * (n + 1)
  | [], _ => Nat.zero_le _
  | x :: xs, h => by
    have h1 := h x (by simp)
    have h2 := bulks_le (n := n) (xs := xs) fun y hy => h y (by simp [hy])
    show x.bulk + 1 + PyData.bulkAll xs ≤ (xs.length + 1) * (n + 1)
    rw [Nat.add_mul, Nat.one_mul]
    omega
/-- what fits in every bound: nice, at most k deep, at most n items -/
structure Fit (k n : Nat) (d : PyData) : Prop where
  nic : nic d = true
  dep : d.depth ≤ k
  blk : d.bulk ≤ n
theorem Fit.int {i : Int} (h : i.natAbs < 10 ^ 30) {k n : Nat} : Fit k n (.int i) := ⟨by simpa [D.nic] using h, Nat.zero_le _, Nat.zero_le _⟩
theorem Fit.none {k n : Nat} : Fit k n .none := ⟨rfl, Nat.zero_le _, Nat.zero_le _⟩
theorem Fit.bool {b : Bool} {k n : Nat} : Fit k n (.bool b) := ⟨rfl, Nat.zero_le _, Nat.zero_le _⟩
theorem Fit.str {x : Str} {k n : Nat} (h : PyData.strOk x = true) (l : x.cps.size ≤ n) : Fit k n (.str x) := ⟨by simpa [D.nic] using h, Nat.zero_le _, l⟩
theorem Fit.tup {k n m : Nat} {xs : List PyData} (h : ∀ x ∈ xs, Fit k n x) (l : xs.length * (n + 1) ≤ m) : Fit (k + 1) m (.tuple xs) :=
  ⟨by simp only [D.nic]; exact nics_of fun x hx => (h x hx).nic, Nat.succ_le_succ (depths_le fun x hx => (h x hx).dep), Nat.le_trans (bulks_le fun x hx => (h x hx).blk) l⟩
theorem Fit.lst {k n m : Nat} {xs : List PyData} (h : ∀ x ∈ xs, Fit k n x) (l : xs.length * (n + 1) ≤ m) : Fit (k + 1) m (.list xs) :=
  ⟨by simp only [D.nic]; exact nics_of fun x hx => (h x hx).nic, Nat.succ_le_succ (depths_le fun x hx => (h x hx).dep), Nat.le_trans (bulks_le fun x hx => (h x hx).blk) l⟩
theorem Fit.up {k n k' n' : Nat} {d : PyData} (h : Fit k n d) (hk : k ≤ k') (hn : n ≤ n') : Fit k' n' d := ⟨h.nic, Nat.le_trans h.dep hk, Nat.le_trans h.blk hn⟩
theorem Fit.shp {k n : Nat} {d : PyData} (h : Fit k n d) (hk : k ≤ 64) : shp d = true := by
  show (d.canLay0 && decide (d.depth ≤ 64)) = true
  rw [nic_lay d h.nic, decide_eq_true (Nat.le_trans h.dep hk)]
  rfl
theorem Fit.shw {k n : Nat} {d : PyData} (h : Fit k n d) (hk : k ≤ 64) (hn : n ≤ 400000) : shw d = some (.v (.str d.shown)) := by
  have l : d.shown.length ≤ sizeLine := by
    have := PyData.shown_le_bulk 31 (by decide) d (PyData.leavesShort_of_canLay0 31 d (nic_lay d h.nic) (nic_short d h.nic))
    have := h.blk
    have : sizeLine = 16777216 := by decide
    omega
  unfold Ev.shw
  rw [nic_show d h.nic, decide_eq_true l, decide_eq_true (Nat.le_trans h.dep hk), PyData.hasDict_of_canLay d (nic_lay d h.nic)]
  rfl
/-! ### items -/
theorem atI_n {α : Type} (xs : List α) (k : Nat) : L2.atI xs (k : Int) = xs[k]? := by
  unfold L2.atI L2.ixN
  rw [if_pos (by omega)]
  by_cases h : k < xs.length
  · rw [if_pos (by omega)]; simp
  · rw [if_neg (by omega)]; simp; omega
theorem atI_0 {α : Type} (x : α) (xs : List α) : L2.atI (x :: xs) 0 = some x := atI_n (x :: xs) 0
theorem atI_1 {α : Type} (x y : α) (xs : List α) : L2.atI (x :: y :: xs) 1 = some y := atI_n (x :: y :: xs) 1
theorem atI_2 {α : Type} (x y z : α) (xs : List α) : L2.atI (x :: y :: z :: xs) 2 = some z := atI_n (x :: y :: z :: xs) 2
theorem atI_3 {α : Type} (x y z t : α) (xs : List α) : L2.atI (x :: y :: z :: t :: xs) 3 = some t := atI_n (x :: y :: z :: t :: xs) 3
theorem ixN_n {n : Nat} {k : Nat} (h : k < n) : L2.ixN n (k : Int) = some k := by
  unfold L2.ixN
  rw [if_pos (by omega), if_pos (by omega)]; rfl
theorem ixN_0 {n : Nat} : L2.ixN (n + 1) 0 = some 0 := ixN_n (k := 0) (by omega)
theorem ixN_1 {n : Nat} : L2.ixN (n + 2) 1 = some 1 := ixN_n (k := 1) (by omega)
theorem ixN_2 {n : Nat} : L2.ixN (n + 3) 2 = some 2 := ixN_n (k := 2) (by omega)
theorem ixN_3 {n : Nat} : L2.ixN (n + 4) 3 = some 3 := ixN_n (k := 3) (by omega)
theorem cmp_eq_ii (i j : Int) : opCmp .eq (.int i) (.int j) = some (decide (i = j)) := by
  show some (PyData.eqv (.int i) (.int j)) = _
  simp only [PyData.eqv]
  by_cases h : i = j <;> simp [h]
theorem cmp_ne_ii (i j : Int) : opCmp .ne (.int i) (.int j) = some (decide (i ≠ j)) := by
  show some (!PyData.eqv (.int i) (.int j)) = _
  simp only [PyData.eqv]
  by_cases h : i = j <;> simp [h]
theorem cmp_lt_ii (i j : Int) : opCmp .lt (.int i) (.int j) = some (decide (i < j)) := rfl
theorem cmp_le_ii (i j : Int) : opCmp .le (.int i) (.int j) = some (decide (i ≤ j)) := rfl
theorem cmp_gt_ii (i j : Int) : opCmp .gt (.int i) (.int j) = some (decide (j < i)) := rfl
theorem cmp_ge_ii (i j : Int) : opCmp .ge (.int i) (.int j) = some (decide (j ≤ i)) := rfl
theorem cmp_eq {x y : PyData} (h1 : shp x = true) (h2 : shp y = true) : opCmp .eq x y = some (PyData.eqv x y) := by
  have e : opCmp .eq x y = if shp x && shp y then some (PyData.eqv x y) else none := by cases x <;> cases y <;> rfl
  rw [e, h1, h2]; rfl
theorem cmp_ne {x y : PyData} (h1 : shp x = true) (h2 : shp y = true) : opCmp .ne x y = some (!PyData.eqv x y) := by
  have e : opCmp .ne x y = if shp x && shp y then some (!PyData.eqv x y) else none := by cases x <;> cases y <;> rfl
  rw [e, h1, h2]; rfl
/-! ### operations by their shapes -/
theorem sub_l (xs : List PyData) (i : Int) : opSub (.list xs) (.int i) = L2.atI xs i := rfl
theorem sub_t (xs : List PyData) (i : Int) : opSub (.tuple xs) (.int i) = L2.atI xs i := rfl
theorem add_ii (i j : Int) : opBin .add (.int i) (.int j) = some (.v (.int (i + j))) := rfl
theorem sub_ii (i j : Int) : opBin .sub (.int i) (.int j) = some (.v (.int (i - j))) := rfl
theorem mul_ii (i j : Int) : opBin .mul (.int i) (.int j) = if sml i || sml j || decide (i.natAbs.log2 + j.natAbs.log2 < 1000000) then some (.v (.int (i * j))) else none := id rfl
theorem fdiv_ii (i j : Int) : opBin .fdiv (.int i) (.int j) = if j ≠ 0 ∧ j.natAbs.log2 < 9000 then some (.v (.int (i.fdiv j))) else none := id rfl
theorem mod_ii (i j : Int) : opBin .mod (.int i) (.int j) = if j ≠ 0 then some (.v (.int (i.fmod j))) else none := id rfl
theorem pow_ii (i j : Int) : opBin .pow (.int i) (.int j) = if 0 ≤ j ∧ j ≤ 1000 ∧ sml i = true then some (.v (.int (i ^ j.toNat))) else none := id rfl
theorem add_tt (xs ys : List PyData) : opBin .add (.tuple xs) (.tuple ys) = if xs.length + ys.length ≤ sizeLine then some (.v (.tuple (xs ++ ys))) else none := id rfl
theorem add_ll (xs ys : List PyData) : opBin .add (.list xs) (.list ys) = if xs.length + ys.length ≤ sizeLine then some (.n (xs ++ ys)) else none := id rfl
theorem add_ss (a b : Str) : opBin .add (.str a) (.str b) = if a.length + b.length ≤ sizeLine then some (.v (.str (a ++ b))) else none := id rfl
theorem mul_ti (xs : List PyData) (k : Int) : opBin .mul (.tuple xs) (.int k) = if -(2 ^ 63) ≤ k ∧ k ≤ 100000 ∧ k.toNat * xs.length ≤ 1000000 then some (.v (.tuple (rep k.toNat xs))) else none := id rfl
theorem mul_li (xs : List PyData) (k : Int) : opBin .mul (.list xs) (.int k) = if -(2 ^ 63) ≤ k ∧ k < 2 ^ 63 ∧ xs.length * k.toNat ≤ sizeLine then some (.n (rep k.toNat xs)) else none := id rfl
theorem slc_l (lo hi : Option Int) (xs : List PyData) : opSlc lo hi (.list xs) = some (.n (cut xs lo hi)) := rfl
theorem slc_t (lo hi : Option Int) (xs : List PyData) : opSlc lo hi (.tuple xs) = some (.v (.tuple (cut xs lo hi))) := rfl
theorem len_l (xs : List PyData) : opB1 .len (.list xs) = some (.v (.int xs.length)) := rfl
theorem all_l (xs : List PyData) : opB1 .all (.list xs) = (asTr xs).map fun bs => .v (.bool (bs.all id)) := rfl
theorem any_l (xs : List PyData) : opB1 .any (.list xs) = (asTr xs).map fun bs => .v (.bool (bs.any id)) := rfl
theorem sum_l (xs : List PyData) : opB1 .sum (.list xs) = (asInts xs).map fun is => .v (.int is.sum) := rfl
theorem min_l (xs : List PyData) : opB1 .min (.list xs) = minX xs := rfl
theorem max_l (xs : List PyData) : opB1 .max (.list xs) = (asInts xs).bind fun is => match is with | [] => none | i :: r => some (.v (.int (most i r))) := rfl
theorem tuple_l (xs : List PyData) : opB1 .tuple (.list xs) = some (.v (.tuple xs)) := rfl
theorem list_l (xs : List PyData) : opB1 .list (.list xs) = some (.n xs) := rfl
theorem repr_l (xs : List PyData) : opB1 .repr (.list xs) = shw (.list xs) := rfl
theorem repr_x (x : PyData) : opB1 .repr x = shw x := by cases x <;> rfl
theorem len_t (xs : List PyData) : opB1 .len (.tuple xs) = some (.v (.int xs.length)) := rfl
theorem all_t (xs : List PyData) : opB1 .all (.tuple xs) = (asTr xs).map fun bs => .v (.bool (bs.all id)) := rfl
theorem any_t (xs : List PyData) : opB1 .any (.tuple xs) = (asTr xs).map fun bs => .v (.bool (bs.any id)) := rfl
theorem sum_t (xs : List PyData) : opB1 .sum (.tuple xs) = (asInts xs).map fun is => .v (.int is.sum) := rfl
theorem min_t (xs : List PyData) : opB1 .min (.tuple xs) = minX xs := rfl
theorem max_t (xs : List PyData) : opB1 .max (.tuple xs) = (asInts xs).bind fun is => match is with | [] => none | i :: r => some (.v (.int (most i r))) := rfl
theorem tuple_t (xs : List PyData) : opB1 .tuple (.tuple xs) = some (.v (.tuple xs)) := rfl
theorem list_t (xs : List PyData) : opB1 .list (.tuple xs) = some (.n xs) := rfl
theorem repr_t (xs : List PyData) : opB1 .repr (.tuple xs) = shw (.tuple xs) := rfl
theorem sorted_l (xs : List PyData) : opB1 .sorted (.list xs) = (asInts xs).map fun is => .n ((isort is).map .int) := rfl
theorem abs_i (i : Int) : opB1 .abs (.int i) = some (.v (.int (if i < 0 then -i else i))) := rfl
theorem int_i (i : Int) : opB1 .int (.int i) = some (.v (.int i)) := rfl
theorem int_b (b : Bool) : opB1 .int (.bool b) = some (.v (.int (if b then 1 else 0))) := rfl
theorem len_s (a : Str) : opB1 .len (.str a) = if a.length ≤ sizeLine then some (.v (.int a.length)) else none := id rfl
theorem max_ii (i j : Int) : opB2 .max (.int i) (.int j) = some (.int (if j > i then j else i)) := rfl
theorem min_ii (i j : Int) : opB2 .min (.int i) (.int j) = some (.int (if j < i then j else i)) := rfl
theorem is_int_int (x : Int) : isTy .int (.int x) = some true := rfl
theorem is_int_bool (x : Bool) : isTy .int (.bool x) = some true := rfl
theorem is_int_none  : isTy .int .none = some false := rfl
theorem is_int_str (x : Str) : isTy .int (.str x) = some false := rfl
theorem is_int_list (x : List PyData) : isTy .int (.list x) = some false := rfl
theorem is_int_tuple (x : List PyData) : isTy .int (.tuple x) = some false := rfl
theorem is_bool_int (x : Int) : isTy .bool (.int x) = some false := rfl
theorem is_bool_bool (x : Bool) : isTy .bool (.bool x) = some true := rfl
theorem is_bool_none  : isTy .bool .none = some false := rfl
theorem is_bool_str (x : Str) : isTy .bool (.str x) = some false := rfl
theorem is_bool_list (x : List PyData) : isTy .bool (.list x) = some false := rfl
theorem is_bool_tuple (x : List PyData) : isTy .bool (.tuple x) = some false := rfl
theorem is_str_int (x : Int) : isTy .str (.int x) = some false := rfl
theorem is_str_bool (x : Bool) : isTy .str (.bool x) = some false := rfl
theorem is_str_none  : isTy .str .none = some false := rfl
theorem is_str_str (x : Str) : isTy .str (.str x) = some true := rfl
theorem is_str_list (x : List PyData) : isTy .str (.list x) = some false := rfl
theorem is_str_tuple (x : List PyData) : isTy .str (.tuple x) = some false := rfl
theorem is_tuple_int (x : Int) : isTy .tuple (.int x) = some false := rfl
theorem is_tuple_bool (x : Bool) : isTy .tuple (.bool x) = some false := rfl
theorem is_tuple_none  : isTy .tuple .none = some false := rfl
theorem is_tuple_str (x : Str) : isTy .tuple (.str x) = some false := rfl
theorem is_tuple_list (x : List PyData) : isTy .tuple (.list x) = some false := rfl
theorem is_tuple_tuple (x : List PyData) : isTy .tuple (.tuple x) = some true := rfl
theorem tru_b (b : Bool) : tru (.bool b) = some b := rfl
theorem tru_i (i : Int) : tru (.int i) = some (i != 0) := rfl
theorem tru_n  : tru .none = some false := rfl
theorem tru_l (xs : List PyData) : tru (.list xs) = some (!xs.isEmpty) := rfl
theorem tru_t (xs : List PyData) : tru (.tuple xs) = some (!xs.isEmpty) := rfl
theorem isN_n  : opCmp .isN .none .none = some true := rfl
theorem notN_n  : opCmp .notN .none .none = some false := rfl
theorem isN_int (x : Int) : opCmp .isN (.int x) .none = some false := rfl
theorem notN_int (x : Int) : opCmp .notN (.int x) .none = some true := rfl
theorem isN_bool (x : Bool) : opCmp .isN (.bool x) .none = some false := rfl
theorem notN_bool (x : Bool) : opCmp .notN (.bool x) .none = some true := rfl
theorem isN_str (x : Str) : opCmp .isN (.str x) .none = some false := rfl
theorem notN_str (x : Str) : opCmp .notN (.str x) .none = some true := rfl
theorem isN_list (x : List PyData) : opCmp .isN (.list x) .none = some false := rfl
theorem notN_list (x : List PyData) : opCmp .notN (.list x) .none = some true := rfl
theorem isN_tuple (x : List PyData) : opCmp .isN (.tuple x) .none = some false := rfl
theorem notN_tuple (x : List PyData) : opCmp .notN (.tuple x) .none = some true := rfl
theorem lock_l (env : Env) (xs : List PyData) : lockR env (.v (.list xs)) = some (env, xs, []) := rfl
theorem lock_t (env : Env) (xs : List PyData) : lockR env (.v (.tuple xs)) = some (env, xs, []) := rfl
theorem lock_n (env : Env) (xs : List PyData) : lockR env (.n xs) = some (env, xs, []) := rfl
theorem lock_r (env : Env) (xs : List PyData) : lockR env (.r xs) = some (env, xs, []) := rfl
theorem lock_p (env : Env) (i : Nat) : lockR env (.p i) = match env[i]? with
    | some (some (.l xs)) => some (env.set i (some (.k xs)), xs, [i])
    | some (some (.k xs)) => some (env, xs, [])
    | some (some (.d (.list xs))) => some (env, xs, [])
    | _ => none := rfl
theorem isLs_l (xs : List PyData) : isLs (.v (.list xs)) = true := rfl
theorem isLs_t (xs : List PyData) : isLs (.v (.tuple xs)) = false := rfl
theorem isLs_n (xs : List PyData) : isLs (.n xs) = true := rfl
theorem isLs_r (xs : List PyData) : isLs (.r xs) = true := rfl
theorem isLs_p (i : Nat) : isLs (.p i) = true := rfl
theorem asg_n (i : Nat) (x : PyData) (env : Env) : asgT (.n i) x env = if i < env.length then some (env.set i (some (.d x))) else none := rfl
theorem asg_t (ts : List Tgt) (xs : List PyData) (env : Env) : asgT (.t ts) (.tuple xs) env = asgTs ts xs env := rfl
theorem asgs_n (env : Env) : asgTs [] [] env = some env := rfl
theorem asgs_c (t : Tgt) (ts : List Tgt) (x : PyData) (xs : List PyData) (env : Env) : asgTs (t :: ts) (x :: xs) env = match asgT t x env with
    | some env' => asgTs ts xs env'
    | none => none := rfl
theorem minX_ints {xs : List PyData} {i : Int} {r : List Int} (h : asInts xs = some (i :: r)) : minX xs = some (.v (.int (least i r))) := by
  unfold minX minI
  rw [h]
  rfl
end Ev.D

local macro_rules
  | `(tactic| simp_arith! [$as,*] $[$l]?) => `(tactic| simp (config := {decide := true}) only [$as,*, Ev.D.bind_ok, Ev.D.bind_ex, Ev.D.of_ok, Ev.D.of_ex, Ev.D.ofO_some, Ev.D.ev_c, Ev.D.ofN_some, Ev.D.ev_v, Ev.D.ev_fn, Ev.D.ev_tup, Ev.D.ev_lst, Ev.D.tupC_p, Ev.D.lstC_p, Ev.D.ev_bin, Ev.D.binB_p, Ev.D.binC_p, Ev.D.ev_neg, Ev.D.negC_p, Ev.D.ev_cmp, Ev.D.cmpB_p, Ev.D.cmpC_p, Ev.D.ev_chn, Ev.D.chnB_p, Ev.D.chnC_p, Ev.D.chnE_t, Ev.D.chnE_f, Ev.D.chnD_p, Ev.D.ev_ch3, Ev.D.ch3B_p, Ev.D.ch3C_p, Ev.D.ch3E_t, Ev.D.ch3E_f, Ev.D.ev_and, Ev.D.andB_p, Ev.D.andD_t, Ev.D.andD_f, Ev.D.ev_or, Ev.D.orB_p, Ev.D.orD_t, Ev.D.orD_f, Ev.D.ev_not, Ev.D.notC_p, Ev.D.ev_ife, Ev.D.ifeB_p, Ev.D.ifeD_t, Ev.D.ifeD_f, Ev.D.ev_sub, Ev.D.subB_p, Ev.D.subC_p, Ev.D.ev_slc, Ev.D.slcB_p, Ev.D.slcC_p, Ev.D.slcD_p, Ev.D.evo_none, Ev.D.evo_some, Ev.D.evoC_p, Ev.D.ev_rev, Ev.D.ev_b1, Ev.D.b1C_v, Ev.D.b1C_n, Ev.D.b1C_q, Ev.D.b1D_some, Ev.D.b1C_lr, Ev.D.b1C_nr, Ev.D.ev_b2, Ev.D.b2B_p, Ev.D.b2C_p, Ev.D.ev_isi, Ev.D.isiC_p, Ev.D.ev_lrg, Ev.D.lrgB_p, Ev.D.lrgC_p, Ev.D.ev_app, Ev.D.appC_p, Ev.D.idxD_s, Ev.D.ev_idx, Ev.D.idxC_p, Ev.D.ev_ext, Ev.D.extC_p, Ev.D.callC_p, Ev.D.callE_some, Ev.D.callD_ok, Ev.D.callD_ex, Ev.D.callvA_some, Ev.D.callvL_some, Ev.D.callvB_f, Ev.D.ev_callv, Ev.D.evs_nil, Ev.D.evs_cons, Ev.D.evsB_p, Ev.D.evsC_p, Ev.D.evt_nil, Ev.D.evt_cons, Ev.D.evtB_p, Ev.D.evtD_t, Ev.D.evtD_f, Ev.D.ev_lc, Ev.D.lcA_p, Ev.D.lcB_some, Ev.D.lcC_some, Ev.D.lcD_t, Ev.D.lcD_f, Ev.D.lcE_p, Ev.D.exs_nil, Ev.D.exs_cons, Ev.D.seq_nx, Ev.D.seq_rt, Ev.D.seq_bk, Ev.D.seq_ct, Ev.D.seq_ex, Ev.D.exs_asg, Ev.D.asgC_p, Ev.D.exs_par, Ev.D.parC_p, Ev.D.exs_sets, Ev.D.setsC_p, Ev.D.exs_mix, Ev.D.mixC_p, Ev.D.exs_unp, Ev.D.unpC_p, Ev.D.exs_aug, Ev.D.augB_v, Ev.D.augC_p, Ev.D.augsE_p, Ev.D.augsD_some, Ev.D.augsC_l, Ev.D.augsB_p, Ev.D.exs_augs, Ev.D.exs_exp, Ev.D.expC_p, Ev.D.exs_ite, Ev.D.iteC_p, Ev.D.iteD_t, Ev.D.iteD_f, Ev.D.exs_ret, Ev.D.retC_p, Ev.D.exs_retN, Ev.D.forB_some, Ev.D.forA_some, Ev.D.forC_p, Ev.D.exs_for, Ev.D.exs_brk, Ev.D.exs_cnt, Ev.D.exs_pas, Ev.D.exs_rai, Ev.D.raiC_p, Ev.D.exs_tryf, Ev.D.exs_tryw, Ev.D.noOwn_nil, Ev.D.noOwn_d, Ev.D.noOwn_r, Ev.D.noOwn_f, Ev.D.noOwn_n, Ev.D.wordO_some, Ev.D.tryO_ex, Ev.D.tryF_ex, Ev.D.tryF_rt, Ev.D.tryF_nx, Ev.D.tryO_rt, Ev.D.tryO_nx, Ev.D.give_nx, Ev.D.give_rt, Ev.D.give_ex, Ev.noLent, Ev.setMix, Ev.rdName, Ev.dat, Ev.datW, Ev.keep, Ev.keepAll, Ev.bindN, Ev.bindAll, Ev.settle, Ev.lend, Ev.back, Ev.giveR, Ev.isL, Ev.truR, Ev.items, Ev.items0, Ev.items1, Ev.items2, Ev.items3, Ev.items4, Ev.items5, Ev.items6, Ev.unlock, Ev.unlock1, Ev.wipeE, Ev.restE, Ev.setAll, List.getElem?_cons_zero, List.getElem?_cons_succ, List.getElem?_nil, List.set_cons_zero, List.set_cons_succ, List.map_cons, List.map_nil, List.cons_append, List.nil_append, List.replicate_succ, List.replicate_zero, List.length_cons, List.length_nil, List.take_succ_cons, List.take_zero, List.take_nil, Nat.reduceSub, Nat.reduceAdd, Nat.reduceLT, Nat.reduceLeDiff, Nat.reduceEqDiff, Nat.zero_add, ite_true, ite_false, Option.bind_some, Option.map_some, reduceIte, Option.some.injEq, Option.getD_some, Option.getD_none, List.contains_cons, List.contains_nil, Bool.not_true, Bool.not_false, Bool.and_true, Bool.true_and, Bool.and_false, Bool.false_and, Nat.lt_add_one, Nat.not_lt_zero, if_true, if_false, not_true_eq_false, not_false_eq_true, and_self, and_true, true_and, List.length_map, Nat.reduceBEq, List.elem_cons, List.elem_nil, List.mem_cons, List.not_mem_nil, or_false, false_or, Nat.add_one_ne_zero, decide_true, decide_false, List.append_nil, Bool.false_eq_true, Bool.true_eq_false, Bool.not_eq_true, Bool.or_false, Bool.false_or, Bool.or_true, Bool.true_or, Int.ofNat_le, Int.ofNat_lt, Int.reduceAdd, Int.reduceSub, Int.reduceNeg, Int.reduceLE, Int.reduceLT, Int.reduceEq, Int.reduceMul, ne_eq, Bool.not_not, false_and, and_false, List.getD_cons_zero, List.getD_cons_succ, List.getD_nil, eq_self, Ev.D.atI_0, Ev.D.atI_1, Ev.D.atI_2, Ev.D.atI_3, Ev.D.ixN_0, Ev.D.ixN_1, Ev.D.ixN_2, Ev.D.ixN_3, Ev.D.cmp_eq_ii, Ev.D.cmp_ne_ii, Ev.D.cmp_lt_ii, Ev.D.cmp_le_ii, Ev.D.cmp_gt_ii, Ev.D.cmp_ge_ii, Ev.D.sub_l, Ev.D.sub_t, Ev.D.add_ii, Ev.D.sub_ii, Ev.D.mul_ii, Ev.D.fdiv_ii, Ev.D.mod_ii, Ev.D.pow_ii, Ev.D.add_tt, Ev.D.add_ll, Ev.D.add_ss, Ev.D.mul_ti, Ev.D.mul_li, Ev.D.slc_l, Ev.D.slc_t, Ev.D.len_l, Ev.D.all_l, Ev.D.any_l, Ev.D.sum_l, Ev.D.min_l, Ev.D.max_l, Ev.D.tuple_l, Ev.D.list_l, Ev.D.repr_l, Ev.D.repr_x, Ev.D.len_t, Ev.D.all_t, Ev.D.any_t, Ev.D.sum_t, Ev.D.min_t, Ev.D.max_t, Ev.D.tuple_t, Ev.D.list_t, Ev.D.repr_t, Ev.D.sorted_l, Ev.D.abs_i, Ev.D.int_i, Ev.D.int_b, Ev.D.len_s, Ev.D.max_ii, Ev.D.min_ii, Ev.D.is_int_int, Ev.D.is_int_bool, Ev.D.is_int_none, Ev.D.is_int_str, Ev.D.is_int_list, Ev.D.is_int_tuple, Ev.D.is_bool_int, Ev.D.is_bool_bool, Ev.D.is_bool_none, Ev.D.is_bool_str, Ev.D.is_bool_list, Ev.D.is_bool_tuple, Ev.D.is_str_int, Ev.D.is_str_bool, Ev.D.is_str_none, Ev.D.is_str_str, Ev.D.is_str_list, Ev.D.is_str_tuple, Ev.D.is_tuple_int, Ev.D.is_tuple_bool, Ev.D.is_tuple_none, Ev.D.is_tuple_str, Ev.D.is_tuple_list, Ev.D.is_tuple_tuple, Ev.D.tru_b, Ev.D.tru_i, Ev.D.tru_n, Ev.D.tru_l, Ev.D.tru_t, Ev.D.isN_n, Ev.D.notN_n, Ev.D.isN_int, Ev.D.notN_int, Ev.D.isN_bool, Ev.D.notN_bool, Ev.D.isN_str, Ev.D.notN_str, Ev.D.isN_list, Ev.D.notN_list, Ev.D.isN_tuple, Ev.D.notN_tuple, Ev.D.lock_l, Ev.D.lock_t, Ev.D.lock_n, Ev.D.lock_r, Ev.D.lock_p, Ev.D.isLs_l, Ev.D.isLs_t, Ev.D.isLs_n, Ev.D.isLs_r, Ev.D.isLs_p, Ev.D.asg_n, Ev.D.asg_t, Ev.D.asgs_n, Ev.D.asgs_c] $[$l]?)

set_option maxRecDepth 100000
/-! Ev, part DD: walks told as maps, loops by their invariants. -/
namespace Ev.D
open PySem
section
variable {α β : Type}
/-! ### comprehensions -/
theorem lcGo_map {turn : PyData → Env → Rs (Env × Option PyData)} {env : Env} {f g : α → PyData} : ∀ {xs : List α} {acc : List PyData}, (∀ x ∈ xs, turn (f x) env = .ok (env, some (g x))) → lcGo turn (xs.map f) env acc = .ok (env, acc ++ xs.map g)
  | [], acc, _ => by simp [lcGo]
  | x :: xs, acc, h => by
    show (match turn (f x) env with | .ok (env', some y) => lcGo turn (xs.map f) env' (acc ++ [y]) | .ok (env', none) => lcGo turn (xs.map f) env' acc | _ => .bad) = _
    rw [h x (by simp)]
    show lcGo turn (xs.map f) env (acc ++ [g x]) = _
    rw [lcGo_map fun y hy => h y (by simp [hy])]
    simp
theorem lcGo_sel {turn : PyData → Env → Rs (Env × Option PyData)} {env : Env} {f g : α → PyData} {p : α → Bool} : ∀ {xs : List α} {acc : List PyData}, (∀ x ∈ xs, turn (f x) env = .ok (env, if p x then some (g x) else none)) → lcGo turn (xs.map f) env acc = .ok (env, acc ++ (xs.filter p).map g)
  | [], acc, _ => by simp [lcGo]
  | x :: xs, acc, h => by
    have ih : ∀ acc, lcGo turn (xs.map f) env acc = .ok (env, acc ++ (xs.filter p).map g) := fun acc => lcGo_sel fun y hy => h y (by simp [hy])
    show (match turn (f x) env with | .ok (env', some y) => lcGo turn (xs.map f) env' (acc ++ [y]) | .ok (env', none) => lcGo turn (xs.map f) env' acc | _ => .bad) = _
    rw [h x (by simp)]
    cases hp : p x with
    | true =>
      show lcGo turn (xs.map f) env (acc ++ [g x]) = _
      rw [ih]
      simp [hp]
    | false =>
      show lcGo turn (xs.map f) env acc = _
      rw [ih]
      simp [hp]
/-- a comprehension whose turns change what they see -/
theorem lcGo_inv {turn : PyData → Env → Rs (Env × Option PyData)} {f : α → PyData} {I : Env → Prop} {Q : PyData → Prop} : ∀ {xs : List α} {env : Env} {acc : List PyData}, I env → (∀ x ∈ xs, ∀ e, I e → ∃ e' y, turn (f x) e = .ok (e', some y) ∧ I e' ∧ Q y) →
    ∃ e' ys, lcGo turn (xs.map f) env acc = .ok (e', acc ++ ys) ∧ I e' ∧ ys.length = xs.length ∧ ∀ y ∈ ys, Q y
  | [], env, acc, i, _ => ⟨env, [], by simp [lcGo], i, rfl, fun y h => by cases h⟩
  | x :: xs, env, acc, i, h => by
    obtain ⟨e', y, h1, i1, q1⟩ := h x (by simp) env i
    obtain ⟨e2, ys, h2, i2, l2, q2⟩ := lcGo_inv (xs := xs) (acc := acc ++ [y]) i1 fun z hz => h z (by simp [hz])
    refine ⟨e2, y :: ys, ?_, i2, by simp [l2], fun z hz => ?_⟩
    · show (match turn (f x) env with | .ok (env', some y) => lcGo turn (xs.map f) env' (acc ++ [y]) | .ok (env', none) => lcGo turn (xs.map f) env' acc | _ => .bad) = _
      rw [h1]
      show lcGo turn (xs.map f) e' (acc ++ [y]) = _
      rw [h2]
      simp
    · rcases List.mem_cons.mp hz with rfl | hz
      · exact q1
      · exact q2 z hz
theorem upto_eq : ∀ (n : Nat) (lo : Int), upto lo n = (List.range n).map fun k : Nat => PyData.int (lo + k)
  | 0, _ => rfl
  | n + 1, lo => by
    rw [List.range_succ_eq_map, List.map_cons, List.map_map]
    show PyData.int lo :: upto (lo + 1) n = _
    rw [upto_eq n (lo + 1)]
    congr 1
    · simp
    · refine List.map_congr_left fun k _ => ?_
      show PyData.int (lo + 1 + k) = PyData.int (lo + (k + 1 : Nat))
      congr 1; omega
theorem upto0 (n : Nat) : upto 0 n = (List.range n).map fun k : Nat => PyData.int k := by rw [upto_eq]; simp
theorem numd_eq : ∀ (xs : List PyData) (k : Nat), numd k xs = (xs.zipIdx k).map fun p => .tuple [.int p.2, p.1]
  | [], _ => rfl
  | x :: xs, k => by
    show PyData.tuple [.int k, x] :: numd ((k : Int) + 1) xs = _
    rw [show ((k : Int) + 1) = ((k + 1 : Nat) : Int) by omega, numd_eq xs (k + 1)]
    rfl
theorem numd_map (f : α → PyData) (xs : List α) : numd 0 (xs.map f) = xs.zipIdx.map fun p => .tuple [.int p.2, f p.1] := by
  rw [show (0 : Int) = ((0 : Nat) : Int) from rfl, numd_eq]
  rw [List.zipIdx_map, List.map_map]
  rfl
theorem pairs_map (f : α → PyData) (g : β → PyData) : ∀ (xs : List α) (ys : List β), pairs (xs.map f) (ys.map g) = (xs.zip ys).map fun p => .tuple [f p.1, g p.2]
  | [], _ => by simp [pairs]
  | _ :: _, [] => by simp [pairs]
  | x :: xs, y :: ys => by
    show PyData.tuple [f x, g y] :: pairs (xs.map f) (ys.map g) = _
    rw [pairs_map f g xs ys]; rfl
theorem triples_map {γ : Type} (f : α → PyData) (g : β → PyData) (h : γ → PyData) : ∀ (xs : List α) (ys : List β) (zs : List γ), triples (xs.map f) (ys.map g) (zs.map h) = (xs.zip (ys.zip zs)).map fun p => .tuple [f p.1, g p.2.1, h p.2.2]
  | [], _, _ => by simp [triples]
  | _ :: _, [], _ => by simp [triples]
  | _ :: _, _ :: _, [] => by simp [triples]
  | x :: xs, y :: ys, z :: zs => by
    show PyData.tuple [f x, g y, h z] :: triples (xs.map f) (ys.map g) (zs.map h) = _
    rw [triples_map f g h xs ys zs]; rfl
theorem asInts_map (f : α → Int) : ∀ xs : List α, asInts (xs.map fun x => .int (f x)) = some (xs.map f)
  | [] => rfl
  | x :: xs => by
    show (asInts (xs.map fun x => .int (f x))).map (f x :: ·) = _
    rw [asInts_map f xs]; rfl
theorem asInts_int (xs : List Int) : asInts (xs.map .int) = some xs := by
  have := asInts_map (fun x : Int => x) xs
  simpa using this
theorem asTr_map (f : α → Bool) : ∀ xs : List α, asTr (xs.map fun x => .bool (f x)) = some (xs.map f)
  | [] => rfl
  | x :: xs => by
    show (asTr (xs.map fun x => .bool (f x))).map (f x :: ·) = _
    rw [asTr_map f xs]; rfl
theorem asTr_int : ∀ xs : List Int, asTr (xs.map .int) = some (xs.map (· != 0))
  | [] => rfl
  | x :: xs => by
    show (asTr (xs.map .int)).map ((x != 0) :: ·) = _
    rw [asTr_int xs]; rfl
theorem all_id (f : α → Bool) (xs : List α) : (xs.map f).all id = xs.all f := by rw [List.all_map]; rfl
theorem any_id (f : α → Bool) (xs : List α) : (xs.map f).any id = xs.any f := by rw [List.any_map]; rfl
/-! ### slices -/
theorem cut_map (f : α → β) (xs : List α) (lo hi : Option Int) : cut (xs.map f) lo hi = (cut xs lo hi).map f := by
  unfold cut; rw [List.length_map, List.map_take, List.map_drop]
theorem cut_take (xs : List α) (k : Nat) : cut xs none (some (k : Int)) = xs.take k := by
  unfold cut; rw [HT.sIx_nat, HT.sIx_none]
  simp only [List.drop_zero, Nat.sub_zero]
  rcases Nat.le_total k xs.length with h | h
  · rw [Nat.min_eq_left h]
  · rw [Nat.min_eq_right h, List.take_of_length_le (Nat.le_refl _), List.take_of_length_le h]
theorem cut_drop (xs : List α) (k : Nat) : cut xs (some (k : Int)) none = xs.drop k := by
  unfold cut; rw [HT.sIx_nat, HT.sIx_none]
  rcases Nat.le_total k xs.length with h | h
  · rw [Nat.min_eq_left h, List.take_of_length_le (by simp)]
  · rw [Nat.min_eq_right h]; simp [List.drop_eq_nil_of_le h]
theorem cut_two (xs : List α) (i j : Nat) : cut xs (some (i : Int)) (some (j : Int)) = (xs.drop i).take (j - i) := by
  unfold cut; rw [HT.sIx_nat, HT.sIx_nat]
  rcases Nat.le_total i xs.length with h | h
  · rw [Nat.min_eq_left h]
    rcases Nat.le_total j xs.length with h' | h'
    · rw [Nat.min_eq_left h']
    · rw [Nat.min_eq_right h', List.take_of_length_le (by simp), List.take_of_length_le (by simp; omega)]
  · rw [Nat.min_eq_right h]
    simp [List.drop_eq_nil_of_le h]
/-! ### loops -/
/-- a loop that goes on: its invariant by the number of turns -/
theorem forGo_all {turn : PyData → Env → Ou} {f : α → PyData} {I : Nat → Env → Prop} : ∀ {xs : List α} {k : Nat} {env : Env}, I k env → (∀ i x e, xs[i]? = some x → I (k + i) e → ∃ e', turn (f x) e = .nx e' ∧ I (k + i + 1) e') → ∃ e', forGo turn (xs.map f) env = .nx e' ∧ I (k + xs.length) e'
  | [], k, env, i, _ => ⟨env, rfl, i⟩
  | x :: xs, k, env, i, h => by
    obtain ⟨e', h1, i1⟩ := h 0 x env rfl i
    obtain ⟨e2, h2, i2⟩ := forGo_all (xs := xs) (k := k + 1) i1 fun j y e hj ij => by
      have := h (j + 1) y e (by simpa using hj) (by rw [show k + (j + 1) = k + 1 + j by omega]; exact ij)
      rw [show k + (j + 1) + 1 = k + 1 + j + 1 by omega] at this
      exact this
    refine ⟨e2, ?_, by rw [List.length_cons, show k + (xs.length + 1) = k + 1 + xs.length by omega]; exact i2⟩
    show (match turn (f x) env with | .nx e => forGo turn (xs.map f) e | .ct e => forGo turn (xs.map f) e | .bk e => .bk e | o => o) = _
    rw [h1]
    exact h2
/-- a search: the first that is found is handed back -/
theorem forGo_find {turn : PyData → Env → Ou} {f : α → PyData} {I : Env → Prop} {p : α → Bool} {ans : α → Rv} {J : Env → Prop} : ∀ {xs : List α} {env : Env}, I env →
    (∀ x ∈ xs, ∀ e, I e → p x = false → ∃ e', turn (f x) e = .nx e' ∧ I e') → (∀ x ∈ xs, ∀ e, I e → p x = true → ∃ e', turn (f x) e = .rt e' (ans x) ∧ J e') →
    (∃ x, xs.find? p = some x ∧ ∃ e', forGo turn (xs.map f) env = .rt e' (ans x) ∧ J e') ∨ (xs.find? p = none ∧ ∃ e', forGo turn (xs.map f) env = .nx e' ∧ I e')
  | [], env, i, _, _ => .inr ⟨rfl, env, rfl, i⟩
  | x :: xs, env, i, h1, h2 => by
    have go : forGo turn ((x :: xs).map f) env = match turn (f x) env with | .nx e => forGo turn (xs.map f) e | .ct e => forGo turn (xs.map f) e | .bk e => .bk e | o => o := rfl
    cases hp : p x with
    | true =>
      obtain ⟨e', h3, j⟩ := h2 x (by simp) env i hp
      refine .inl ⟨x, by simp [hp], e', ?_, j⟩
      rw [go, h3]
    | false =>
      obtain ⟨e', h3, i'⟩ := h1 x (by simp) env i hp
      rw [go, h3]
      dsimp only
      rcases forGo_find (xs := xs) i' (fun y hy => h1 y (by simp [hy])) (fun y hy => h2 y (by simp [hy])) with ⟨y, q1, q2⟩ | ⟨q1, q2⟩
      · exact .inl ⟨y, by rw [List.find?_cons, hp]; exact q1, q2⟩
      · exact .inr ⟨by rw [List.find?_cons, hp]; exact q1, q2⟩
end
end Ev.D

set_option maxRecDepth 100000
/-! Ev, part DF: more tools of the plain laws. -/
namespace Ev.D
open PySem
section
variable {α β γ : Type}
/-! ### loops over told items -/
def forS (o : Ou) (k : Env → Ou) : Ou := match o with
  | .nx e => k e
  | .ct e => k e
  | .bk e => .bk e
  | o => o
theorem forS_nx {e : Env} {k : Env → Ou} : forS (.nx e) k = k e := rfl
theorem forS_ct {e : Env} {k : Env → Ou} : forS (.ct e) k = k e := rfl
theorem forS_rt {e : Env} {r : Rv} {k : Env → Ou} : forS (.rt e r) k = .rt e r := rfl
theorem forS_ex {c : Nat} {a : PyData} {k : Env → Ou} : forS (.ex c a) k = .ex c a := rfl
theorem op_ex (ls : List Nat) (c : Nat) (a : PyData) : opened ls (.ex c a) = .ex c a := rfl
theorem forGo_nil (turn : PyData → Env → Ou) (env : Env) : forGo turn [] env = .nx env := rfl
theorem forGo_cons (turn : PyData → Env → Ou) (x : PyData) (xs : List PyData) (env : Env) : forGo turn (x :: xs) env = forS (turn x env) (forGo turn xs) := by
  show (match turn x env with | .nx e => forGo turn xs e | .ct e => forGo turn xs e | .bk e => .bk e | o => o) = _
  unfold forS
  cases turn x env <;> rfl
theorem op_nx (e : Env) : opened [] (.nx e) = .nx e := rfl
theorem op_rt (e : Env) (r : Rv) : opened [] (.rt e r) = .rt e r := rfl
/-- a search: the first that is found is handed back -/
theorem forGo_fs {turn : PyData → Env → Ou} {f : α → PyData} {I : Env → Prop} {g : α → Option β} {ans : β → Rv} {J : Env → Prop} : ∀ {xs : List α} {env : Env}, I env →
    (∀ x ∈ xs, ∀ e, I e → (g x = none → ∃ e', turn (f x) e = .nx e' ∧ I e') ∧ (∀ a, g x = some a → ∃ e', turn (f x) e = .rt e' (ans a) ∧ J e')) →
    (xs.findSome? g = none → ∃ e', forGo turn (xs.map f) env = .nx e' ∧ I e') ∧ (∀ a, xs.findSome? g = some a → ∃ e', forGo turn (xs.map f) env = .rt e' (ans a) ∧ J e')
  | [], env, i, _ => ⟨fun _ => ⟨env, rfl, i⟩, fun a h => by cases h⟩
  | x :: xs, env, i, h => by
    rw [List.map_cons, forGo_cons, List.findSome?_cons]
    obtain ⟨h1, h2⟩ := h x (by simp) env i
    cases hp : g x with
    | some a =>
      obtain ⟨e', h3, j⟩ := h2 a hp
      rw [h3, forS_rt]
      refine ⟨fun q => by simp at q, fun b q => ?_⟩
      have q : a = b := by simpa using q
      subst q
      exact ⟨e', rfl, j⟩
    | none =>
      obtain ⟨e', h3, i'⟩ := h1 hp
      rw [h3, forS_nx]
      exact forGo_fs (xs := xs) i' fun y hy => h y (by simp [hy])
theorem stepto_eq : ∀ (n : Nat) (lo c : Int), stepto lo c n = (List.range n).map fun k : Nat => PyData.int (lo + k * c)
  | 0, _, _ => rfl
  | n + 1, lo, c => by
    rw [List.range_succ_eq_map, List.map_cons, List.map_map]
    show PyData.int lo :: stepto (lo + c) c n = _
    rw [stepto_eq n (lo + c) c]
    congr 1
    · simp
    · refine List.map_congr_left fun k _ => ?_
      show PyData.int (lo + c + k * c) = PyData.int (lo + (k + 1 : Nat) * c)
      congr 1
      rw [show ((k + 1 : Nat) : Int) = k + 1 by omega, Int.add_mul]; omega
theorem cut_1 (x : α) (xs : List α) : cut (x :: xs) (some 1) none = xs := by
  rw [show (1 : Int) = ((1 : Nat) : Int) from rfl, cut_drop]; rfl
theorem all_true (xs : List α) : (xs.map fun _ => true).all id = true := by simp
theorem fil_false (xs : List α) : xs.filter (fun _ => false) = [] := by simp
theorem rep1 (x : α) (n : Nat) : rep n [x] = List.replicate n x := by
  unfold rep
  induction n with
  | zero => rfl
  | succ n ih => rw [List.replicate_succ, List.flatten_cons, ih, List.replicate_succ]; rfl
theorem sml_of {i : Int} (h1 : -1000000000000000000 ≤ i) (h2 : i ≤ 1000000000000000000) : sml i = true := by
  unfold sml
  rw [decide_eq_true (by omega), decide_eq_true (by omega)]; rfl
theorem sml_nat {k : Nat} (h : k ≤ 1000000) : sml ((k : Int) + 1) = true := sml_of (by omega) (by omega)
theorem mul_s {i x : Int} (h : sml i = true) : opBin .mul (.int i) (.int x) = some (.v (.int (i * x))) := by rw [mul_ii, if_pos (by rw [h]; rfl)]
theorem mul_k {k : Nat} (h : k ≤ 1000000) (x : Int) : opBin .mul (.int ((k : Int) + 1)) (.int x) = some (.v (.int (((k : Int) + 1) * x))) := mul_s (sml_nat h)
theorem line {n : Nat} (h : n ≤ 1000000) : n ≤ sizeLine := Nat.le_trans h (by decide)
theorem zip_self {f : α → β} : ∀ (xs : List α), xs.zip (xs.map f) = xs.map fun x => (x, f x)
  | [] => rfl
  | x :: xs => by simp [zip_self xs]
end
end Ev.D

set_option maxRecDepth 100000
/-! Ev, part DG: texts that are told are texts. -/
namespace Ev.D
open PySem StrLaws
def okS (x : Str) : Prop := ∀ c ∈ x.cps.toList, c < 0x110000
theorem okS_iff (x : Str) : PyData.strOk x = true ↔ okS x := by
  unfold PyData.strOk okS
  rw [Array.all_eq_true_iff_forall_mem]
  simp
theorem okS_app {a b : Str} (h1 : okS a) (h2 : okS b) : okS (a ++ b) := by
  intro c hc
  have hc : c ∈ (a.cps ++ b.cps).toList := hc
  rw [Array.toList_append, List.mem_append] at hc
  exact hc.elim (h1 c) (h2 c)
theorem okS_lit (s : String) : okS (Str.ofString s) := by
  intro c hc
  rw [Str.ofString_eq_toList] at hc
  have hc : c ∈ s.toList.map Char.toNat := by simpa using hc
  obtain ⟨d, _, rfl⟩ := List.mem_map.mp hc
  have := d.valid
  rcases this with h | ⟨_, h⟩
  · show d.val.toNat < _
    have h : d.val.toNat < 0xD800 := h
    omega
  · exact h
theorem okS_from : ∀ (ts : List Str) (k : Nat) (acc : Str), okS acc → (∀ t ∈ ts, okS t) → okS (textFrom k acc ts)
  | [], _, acc, h, _ => h
  | t :: ts, k, acc, h, h2 => okS_from ts (k + 1) _ (okS_app (okS_app h (okS_lit _)) (h2 t (by simp))) fun u hu => h2 u (by simp [hu])
theorem okS_list {ts : List Str} (h : ∀ t ∈ ts, okS t) : okS (listText ts) := okS_app (okS_from ts 0 _ (okS_lit _) h) (okS_lit _)
theorem okS_join {sep : Str} (hs : okS sep) : ∀ ts : List Str, (∀ t ∈ ts, okS t) → okS (Str.join sep ts)
  | [], _ => fun c hc => by cases hc
  | [x], h => h x (by simp)
  | x :: y :: r, h => okS_app (okS_app (h x (by simp)) hs) (okS_join hs (y :: r) fun u hu => h u (by simp [hu]))
theorem okS_tuple {ts : List Str} (h : ∀ t ∈ ts, okS t) : okS (tupleText ts) := okS_app (okS_app (okS_lit _) (okS_join (okS_lit _) ts h)) (okS_lit _)
theorem digs (n : Nat) : ∀ x ∈ (Nat.toDigits 16 n).map Char.toNat, x < 0x110000 := by
  intro x hx
  obtain ⟨d, _, rfl⟩ := List.mem_map.mp hx
  rcases d.valid with h | ⟨_, h⟩
  · show d.val.toNat < _
    have h : d.val.toNat < 0xD800 := h
    omega
  · exact h
theorem okC (q c : Nat) (hc : c < 0x110000) : ∀ x ∈ Builtin.Str.reprChar q c, x < 0x110000 := by
  have dg := digs c
  intro x hx
  unfold Builtin.Str.reprChar at hx
  dsimp only at hx
  have hr : ∀ k : Nat, x ∈ List.replicate k 48 → x < 0x110000 := fun k h => by rw [(List.mem_replicate.mp h).2]; omega
  repeat' split at hx
  all_goals simp only [List.mem_append, List.mem_cons, List.not_mem_nil, or_false] at hx
  · omega
  · omega
  · omega
  · omega
  · omega
  · rcases hx with (h | h) | h | h
    · omega
    · omega
    · exact hr _ h
    · exact dg x h
  · rcases hx with (h | h) | h | h
    · omega
    · omega
    · exact hr _ h
    · exact dg x h
  · rcases hx with (h | h) | h | h
    · omega
    · omega
    · exact hr _ h
    · exact dg x h
theorem okF (q : Nat) : ∀ (l : List Nat) (acc : Array Nat), (∀ c ∈ l, c < 0x110000) → (∀ c ∈ acc.toList, c < 0x110000) → ∀ c ∈ (l.foldl (fun out c => out ++ (Builtin.Str.reprChar q c).toArray) acc).toList, c < 0x110000
  | [], acc, _, h => h
  | c :: r, acc, h1, h2 => by
    refine okF q r _ (fun d hd => h1 d (by simp [hd])) ?_
    intro d hd
    simp only [Array.toList_append, List.mem_append] at hd
    rcases hd with hd | hd
    · exact h2 d hd
    · exact okC q c (h1 c (by simp)) d hd
theorem okS_repr {x : Str} (h : okS x) : okS (reprText x) := by
  have hq : reprQuote x < 0x110000 := by unfold reprQuote; split <;> omega
  intro c hc
  unfold reprText at hc
  simp only [Array.toList_push, List.mem_append, List.mem_singleton, ← Array.foldl_toList] at hc
  rcases hc with hc | rfl
  · exact okF (reprQuote x) x.cps.toList #[reprQuote x] h (by simpa using hq) c hc
  · exact hq
mutual
theorem okS_shown : ∀ d : PyData, nic d = true → okS d.shown
  | .none, _ => by simp only [PyData.shown]; exact okS_lit _
  | .bool b, _ => by cases b <;> (simp only [PyData.shown]; exact okS_lit _)
  | .int i, h => by simp only [PyData.shown]; exact okS_lit _
  | .str x, h => by simp only [PyData.shown]; exact okS_repr ((okS_iff x).mp (by simpa [nic] using h))
  | .list xs, h => by simp only [PyData.shown]; exact okS_list (okS_shownAll xs (by simpa [nic] using h))
  | .tuple xs, h => by simp only [PyData.shown]; exact okS_tuple (okS_shownAll xs (by simpa [nic] using h))
  | .dict _, h => by simp [nic] at h
theorem okS_shownAll : ∀ xs : List PyData, nics xs = true → ∀ t ∈ PyData.shownAll xs, okS t
  | [], _ => by simp [PyData.shownAll]
  | x :: xs, h => by
    have h : nic x = true ∧ nics xs = true := by simpa [nics] using h
    intro t ht
    simp only [PyData.shownAll, List.mem_cons] at ht
    rcases ht with rfl | ht
    · exact okS_shown x h.1
    · exact okS_shownAll xs h.2 t ht
end
theorem shp_str {x : Str} (h : okS x) : shp (.str x) = true := by
  show ((PyData.str x).canLay0 && decide ((PyData.str x).depth ≤ 64)) = true
  rw [show (PyData.str x).canLay0 = true by simpa [PyData.canLay0] using (okS_iff x).mpr h]
  rfl
theorem shp_lit (s : String) : shp (.str (Str.ofString s)) = true := shp_str (okS_lit s)
theorem Fit.shs {k n : Nat} {d : PyData} (h : Fit k n d) : Ev.shp (PyData.str d.shown) = true := shp_str (okS_shown d h.nic)
theorem eqv_str (x : Str) : PyData.eqv (.str x) (.str x) = true := by simp [PyData.eqv]
end Ev.D

set_option maxRecDepth 100000
/-! Ev, part DH: tools of the plain laws: whiles, least ones, places. -/
namespace Ev
open PySem
namespace D
section
variable (G : Tab)
def whC (p : Env × Rv) : Rs (Env × Bool) := match truR p.1 p.2 with
  | some b => .ok (p.1, b)
  | none => .bad
def whT (t : ME) (e : Env) : Rs (Env × Bool) := (ev G t e).bind whC
theorem whT_p (t : ME) (e : Env) : whT G t e = (ev G t e).bind whC := rfl
def whD (e : Env) : Option Bool → Rs (Env × Bool)
  | some b => .ok (e, b)
  | none => .bad
theorem whC_p (e : Env) (r : Rv) : whC (e, r) = whD e (truR e r) := rfl
theorem whD_s (e : Env) (b : Bool) : whD e (some b) = .ok (e, b) := rfl
theorem exs_whl (t : ME) (body : List MS) (env : Env) : exs1 G (.whl t body) env = whlGo (whT G t) (exs G body) turns env := by
  show whlGo _ _ _ _ = _
  congr 1
theorem wh_on {T : Env → Rs (Env × Bool)} {B : Env → Ou} {n : Nat} {env e e' : Env} (h : T env = .ok (e, true)) (h2 : B e = .nx e') : whlGo T B (n + 1) env = whlGo T B n e' := by
  show (match T env with | .ok (e, true) => _ | .ok (e, false) => _ | .ex c a => _ | .bad => _) = _
  rw [h]
  show (match B e with | .nx e' => _ | .ct e' => _ | .bk e' => _ | o => _) = _
  rw [h2]
theorem wh_off {T : Env → Rs (Env × Bool)} {B : Env → Ou} {n : Nat} {env e : Env} (h : T env = .ok (e, false)) : whlGo T B (n + 1) env = .nx e := by
  show (match T env with | .ok (e, true) => _ | .ok (e, false) => _ | .ex c a => _ | .bad => _) = _
  rw [h]
end
def I (r : List Int) : PyData := .tuple (r.map .int)
theorem line4 {n : Nat} (h : n ≤ 100000) : n ≤ sizeLine := Nat.le_trans h (by decide)
theorem lt4 {n : Nat} (h : n < 100000) : n < sizeLine := Nat.lt_of_lt_of_le h (by decide)
theorem fin_lit {n : Int} (hn : 0 < n) (hn2 : n < 2 ^ 64) : n.natAbs.log2 < 9000 := by
  by_cases z : n.natAbs = 0
  · rw [z]; decide
  · refine (Nat.log2_lt z).mpr (Nat.lt_of_lt_of_le (m := 2 ^ 64) (by omega) (Nat.pow_le_pow_right (by decide) (by decide)))
theorem mulL {i j : Int} (h0 : -1000000000000000 ≤ i) (h1 : i ≤ 1000000000000000) : opBin .mul (.int i) (.int j) = some (.v (.int (i * j))) := mul_s (sml_of (by omega) (by omega))
theorem mulR {i j : Int} (h0 : -1000000000000000 ≤ j) (h1 : j ≤ 1000000000000000) : opBin .mul (.int i) (.int j) = some (.v (.int (i * j))) := by
  rw [mul_ii, if_pos]
  rw [sml_of (show -1000000000000000000 ≤ j by omega) (by omega), Bool.or_true, Bool.true_or]
theorem mul_w {i j : Int} (hi : i.natAbs < 2 ^ 1000) (hj : j.natAbs < 2 ^ 1000) : opBin .mul (.int i) (.int j) = some (.v (.int (i * j))) := by
  have h := L2.wide_mul hi hj (by decide) (by decide) (by decide)
  rw [mul_ii, if_pos]
  rw [decide_eq_true (show i.natAbs.log2 + j.natAbs.log2 < 1000000 from h), Bool.or_true]
theorem fs_head {α : Type} (p : α → Bool) : ∀ l : List α, l.findSome? (fun x => if p x = true then some x else none) = (l.filter p).head?
  | [] => rfl
  | x :: l => by
    rw [List.findSome?_cons]
    by_cases h : p x = true
    · rw [if_pos h, List.filter_cons_of_pos h]
      rfl
    · rw [if_neg h, List.filter_cons_of_neg h]
      exact fs_head p l
theorem getD_end {α : Type} (xs : List α) (x d : α) (n : Nat) (h : xs.length = n) : (xs ++ [x]).getD n d = x := by
  subst h
  simp [List.getD_eq_getElem?_getD]
theorem atI_neg1 {α : Type} (xs : List α) (h : 1 ≤ xs.length) : L2.atI xs (-1) = xs[xs.length - 1]? := by
  unfold L2.atI L2.ixN
  rw [if_neg (by omega), if_pos (by omega)]
  have e : ((xs.length : Int) + -1).toNat = xs.length - 1 := by omega
  rw [Int.add_comm] at e
  simp [e]
theorem of3 (a b c : Int) {i : Nat} (h : (i : Int) < 3) : ∃ v, L2.atI [PyData.int a, .int b, .int c] (i : Nat) = some (.int v) ∧ (v = a ∨ v = b ∨ v = c) := by
  match i, h with
  | 0, _ => exact ⟨a, rfl, .inl rfl⟩
  | 1, _ => exact ⟨b, rfl, .inr (.inl rfl)⟩
  | 2, _ => exact ⟨c, rfl, .inr (.inr rfl)⟩
  | i + 3, h => exact absurd h (by omega)
theorem of2 (a b : Int) {i : Nat} (h : (i : Int) < 2) : ∃ v, L2.atI [PyData.int a, .int b] (i : Nat) = some (.int v) ∧ (v = a ∨ v = b) := by
  match i, h with
  | 0, _ => exact ⟨a, rfl, .inl rfl⟩
  | 1, _ => exact ⟨b, rfl, .inr rfl⟩
  | i + 2, h => exact absurd h (by omega)
def lxLe : List Int → List Int → Prop
  | [], _ => True
  | _ :: _, [] => False
  | a :: as, b :: bs => a < b ∨ (a = b ∧ lxLe as bs)
theorem lx_refl : ∀ a : List Int, lxLe a a
  | [] => trivial
  | a :: as => .inr ⟨rfl, lx_refl as⟩
theorem lx_trans : ∀ {a b c : List Int}, lxLe a b → lxLe b c → lxLe a c
  | [], _, _, _, _ => trivial
  | _ :: _, [], _, h, _ => h.elim
  | _ :: _, _ :: _, [], _, h => h.elim
  | a :: as, b :: bs, c :: cs, h1, h2 => by
    rcases h1 with h1 | ⟨rfl, h1⟩ <;> rcases h2 with h2 | ⟨rfl, h2⟩
    · exact .inl (by omega)
    · exact .inl h1
    · exact .inl h2
    · exact .inr ⟨rfl, lx_trans h1 h2⟩
theorem lx_anti : ∀ {a b : List Int}, lxLe a b → lxLe b a → a = b
  | [], [], _, _ => rfl
  | [], _ :: _, _, h => h.elim
  | _ :: _, [], h, _ => h.elim
  | a :: as, b :: bs, h1, h2 => by
    rcases h1 with h1 | ⟨rfl, h1⟩ <;> rcases h2 with h2 | ⟨h3, h2⟩
    · omega
    · omega
    · omega
    · rw [lx_anti h1 h2]
theorem lx_lt : ∀ {a b : List Int}, W.listLt a b = true → lxLe a b
  | [], _, _ => trivial
  | _ :: _, [], h => by simp [W.listLt] at h
  | a :: as, b :: bs, h => by
    unfold W.listLt at h
    by_cases e : a = b
    · rw [if_pos e] at h
      exact .inr ⟨e, lx_lt h⟩
    · rw [if_neg e] at h
      exact .inl (of_decide_eq_true h)
theorem lx_nlt : ∀ {a b : List Int}, W.listLt a b = false → lxLe b a
  | _, [], _ => trivial
  | [], _ :: _, h => by simp [W.listLt] at h
  | a :: as, b :: bs, h => by
    unfold W.listLt at h
    by_cases e : a = b
    · rw [if_pos e] at h
      exact .inr ⟨e.symm, lx_nlt h⟩
    · rw [if_neg e] at h
      have := of_decide_eq_false h
      exact .inl (by omega)
abbrev Rw := Int × List Int
def ent (r : Rw) : PyData := .tuple [.int r.1, I r.2]
def toT (r : Rw) : Int × W.Tup Int := (r.1, ⟨r.2⟩)
def ltR (p q : Rw) : Bool := if p.1 = q.1 then W.listLt p.2 q.2 else decide (p.1 < q.1)
def best (x : Rw) (xs : List Rw) : Rw := xs.foldl (fun a y => if ltR y a = true then y else a) x
def leR (p q : Rw) : Prop := lxLe (p.1 :: p.2) (q.1 :: q.2)
theorem leR_of (p q : Rw) (h : ltR p q = true) : leR p q := by
  unfold ltR at h
  by_cases e : p.1 = q.1
  · rw [if_pos e] at h; exact .inr ⟨e, lx_lt h⟩
  · rw [if_neg e] at h; exact .inl (of_decide_eq_true h)
theorem leR_not (p q : Rw) (h : ¬ ltR p q = true) : leR q p := by
  unfold ltR at h
  by_cases e : p.1 = q.1
  · rw [if_pos e] at h; exact .inr ⟨e.symm, lx_nlt (by simpa using h)⟩
  · rw [if_neg e, decide_eq_true_eq] at h; exact .inl (by omega)
theorem best_spec (x : Rw) (xs : List Rw) : best x xs ∈ x :: xs ∧ ∀ y ∈ x :: xs, leR (best x xs) y := by
  induction xs generalizing x with
  | nil => exact ⟨by simp [best], fun y hy => by simp at hy; subst hy; exact lx_refl _⟩
  | cons z zs ih =>
    have e : best x (z :: zs) = best (if ltR z x = true then z else x) zs := rfl
    rw [e]
    by_cases c : ltR z x = true
    · rw [if_pos c]
      obtain ⟨h1, h2⟩ := ih z
      refine ⟨List.mem_cons_of_mem _ h1, fun y hy => ?_⟩
      rcases List.mem_cons.mp hy with rfl | hy
      · exact lx_trans (h2 z (by simp)) (leR_of _ _ c)
      · exact h2 y hy
    · rw [if_neg c]
      obtain ⟨h1, h2⟩ := ih x
      refine ⟨?_, fun y hy => ?_⟩
      · rcases List.mem_cons.mp h1 with h1 | h1
        · rw [h1]; simp
        · exact List.mem_cons_of_mem _ (List.mem_cons_of_mem _ h1)
      · rcases List.mem_cons.mp hy with rfl | hy
        · exact h2 _ (by simp)
        rcases List.mem_cons.mp hy with rfl | hy
        · exact lx_trans (h2 x (by simp)) (leR_not _ _ c)
        · exact h2 y (by simp [hy])
theorem toT_D (r : Rw) : W.Datum.toD (toT r) = ent r := rfl
theorem lt_ent (p q : Rw) : W.dataLt (ent p) (ent q) = ltR p q := by
  rw [← toT_D, ← toT_D, W.DatumOrd.lt_eq]
  rfl
theorem al_ent (p q : Rw) : W.alike (ent p) (ent q) = true := W.DatumOrd.alike (toT p) (toT q)
theorem minD_ent (x : Rw) (xs : List Rw) : W.minD (ent x) (xs.map ent) = ent (best x xs) := by
  induction xs generalizing x with
  | nil => rfl
  | cons y ys ih =>
    show W.minD (if W.dataLt (ent y) (ent x) = true then ent y else ent x) (ys.map ent) = ent (best (if ltR y x = true then y else x) ys)
    rw [lt_ent]
    by_cases c : ltR y x = true
    · rw [if_pos c, if_pos c]; exact ih y
    · rw [if_neg c, if_neg c]; exact ih x
theorem ints_dep : ∀ r : List Int, PyData.depthAll (r.map .int) = 0
  | [] => rfl
  | x :: r => by
    show max 0 (PyData.depthAll (r.map .int)) = 0
    rw [ints_dep r]; rfl
theorem ent_dep (r : Rw) : (ent r).depth ≤ 2 := by
  show max 0 (max (PyData.depthAll (r.2.map .int) + 1) 0) + 1 ≤ 2
  rw [ints_dep]
  decide
theorem hd_ints : ∀ r : List Int, PyData.hasDictAll (r.map .int) = false
  | [] => by simp [PyData.hasDictAll]
  | i :: r => by simp [PyData.hasDictAll, PyData.hasDict, hd_ints r]
theorem hd_map {α : Type} {f : α → PyData} (h : ∀ a, (f a).hasDict = false) : ∀ l : List α, PyData.hasDictAll (l.map f) = false
  | [] => by simp [PyData.hasDictAll]
  | a :: l => by simp [PyData.hasDictAll, h a, hd_map h l]
theorem hd_ent (p : Rw) : (ent p).hasDict = false := by simp [ent, PyData.hasDict, PyData.hasDictAll, I, hd_ints]
theorem minX_ents (x : Rw) (xs : List Rw) : minX ((x :: xs).map ent) = some (.v (ent (best x xs))) := by
  have h0 : minI ((x :: xs).map ent) = none := rfl
  unfold minX
  rw [h0]
  show (if _ then _ else _) = _
  rw [if_pos, minD_ent]
  rw [← List.map_cons]
  have h1 : (((x :: xs).map ent).all fun a => ((x :: xs).map ent).all fun b => W.alike a b) = true := by
    simp only [List.all_eq_true, List.mem_map]
    rintro _ ⟨p, _, rfl⟩ _ ⟨q, _, rfl⟩
    exact al_ent p q
  have h2 : (((x :: xs).map ent).all fun a => match a with | .none => false | _ => true) = true := by
    simp only [List.all_eq_true, List.mem_map]
    rintro _ ⟨p, _, rfl⟩
    rfl
  have h3 : PyData.depthAll ((x :: xs).map ent) ≤ 60 := D.depths_le fun y hy => by
    obtain ⟨p, _, rfl⟩ := List.mem_map.mp hy
    exact Nat.le_trans (ent_dep p) (by decide)
  rw [h1, decide_eq_true h3, Bool.true_and, Bool.and_true]
  exact (Bool.and_eq_true _ _).mpr ⟨h2, by rw [hd_map hd_ent]; rfl⟩
theorem lx_head1 {a b : Int} {as bs : List Int} (h : lxLe (a :: as) (b :: bs)) : a ≤ b := by
  rcases h with h | ⟨rfl, _⟩ <;> omega
theorem lx_tail2 {a b : Int} {as bs : List Int} (h : lxLe (a :: as) (b :: bs)) (e : b ≤ a) : lxLe as bs := by
  rcases h with h | ⟨_, h⟩
  · omega
  · exact h
theorem lx_tail1 {a : Int} {as bs : List Int} (h : lxLe (a :: as) (a :: bs)) : lxLe as bs := lx_tail2 h (Int.le_refl _)
/-! ### pairs -/
abbrev Pr := Int × Int
def pr (r : Pr) : PyData := .tuple [.int r.1, .int r.2]
def ltP (p q : Pr) : Bool := if p.1 = q.1 then decide (p.2 < q.2) else decide (p.1 < q.1)
def leP (p q : Pr) : Prop := p.1 < q.1 ∨ (p.1 = q.1 ∧ p.2 ≤ q.2)
def bestP (x : Pr) (xs : List Pr) : Pr := xs.foldl (fun a y => if ltP y a = true then y else a) x
theorem ltP_yes {p q : Pr} (h : ltP p q = true) : leP p q := by
  unfold ltP at h
  by_cases e : p.1 = q.1
  · rw [if_pos e] at h; exact .inr ⟨e, by have := of_decide_eq_true h; omega⟩
  · rw [if_neg e] at h; exact .inl (of_decide_eq_true h)
theorem ltP_no {p q : Pr} (h : ¬ ltP p q = true) : leP q p := by
  unfold ltP at h
  by_cases e : p.1 = q.1
  · rw [if_pos e, decide_eq_true_eq] at h; exact .inr ⟨e.symm, by omega⟩
  · rw [if_neg e, decide_eq_true_eq] at h; exact .inl (by omega)
theorem leP_trans {p q r : Pr} (h1 : leP p q) (h2 : leP q r) : leP p r := by
  rcases h1 with h1 | ⟨h1, h1'⟩ <;> rcases h2 with h2 | ⟨h2, h2'⟩
  · exact .inl (by omega)
  · exact .inl (by omega)
  · exact .inl (by omega)
  · exact .inr ⟨by omega, by omega⟩
theorem bestP_spec (x : Pr) (xs : List Pr) : bestP x xs ∈ x :: xs ∧ ∀ y ∈ x :: xs, leP (bestP x xs) y := by
  induction xs generalizing x with
  | nil => exact ⟨by simp [bestP], fun y hy => by simp at hy; subst hy; exact .inr ⟨rfl, Int.le_refl _⟩⟩
  | cons z zs ih =>
    have e : bestP x (z :: zs) = bestP (if ltP z x = true then z else x) zs := rfl
    rw [e]
    by_cases c : ltP z x = true
    · rw [if_pos c]
      obtain ⟨h1, h2⟩ := ih z
      refine ⟨List.mem_cons_of_mem _ h1, fun y hy => ?_⟩
      rcases List.mem_cons.mp hy with rfl | hy
      · exact leP_trans (h2 z (by simp)) (ltP_yes c)
      · exact h2 y hy
    · rw [if_neg c]
      obtain ⟨h1, h2⟩ := ih x
      refine ⟨?_, fun y hy => ?_⟩
      · rcases List.mem_cons.mp h1 with h1 | h1
        · rw [h1]; simp
        · exact List.mem_cons_of_mem _ (List.mem_cons_of_mem _ h1)
      · rcases List.mem_cons.mp hy with rfl | hy
        · exact h2 _ (by simp)
        rcases List.mem_cons.mp hy with rfl | hy
        · exact leP_trans (h2 x (by simp)) (ltP_no c)
        · exact h2 y (by simp [hy])
theorem pr_D (r : Pr) : W.Datum.toD r = pr r := rfl
theorem lt_pr (p q : Pr) : W.dataLt (pr p) (pr q) = ltP p q := by
  rw [← pr_D, ← pr_D, W.DatumOrd.lt_eq]
  rfl
theorem minD_pr (x : Pr) (xs : List Pr) : W.minD (pr x) (xs.map pr) = pr (bestP x xs) := by
  induction xs generalizing x with
  | nil => rfl
  | cons y ys ih =>
    show W.minD (if W.dataLt (pr y) (pr x) = true then pr y else pr x) (ys.map pr) = pr (bestP (if ltP y x = true then y else x) ys)
    rw [lt_pr]
    by_cases c : ltP y x = true
    · rw [if_pos c, if_pos c]; exact ih y
    · rw [if_neg c, if_neg c]; exact ih x
theorem hd_pr (p : Pr) : (pr p).hasDict = false := by simp [pr, PyData.hasDict, PyData.hasDictAll]
theorem minX_prs (x : Pr) (xs : List Pr) : minX ((x :: xs).map pr) = some (.v (pr (bestP x xs))) := by
  have h0 : minI ((x :: xs).map pr) = none := rfl
  unfold minX
  rw [h0]
  show (if _ then _ else _) = _
  rw [if_pos, minD_pr]
  rw [← List.map_cons]
  have h1 : (((x :: xs).map pr).all fun a => ((x :: xs).map pr).all fun b => W.alike a b) = true := by
    simp only [List.all_eq_true, List.mem_map]
    rintro _ ⟨p, _, rfl⟩ _ ⟨q, _, rfl⟩
    exact W.DatumOrd.alike p q
  have h2 : (((x :: xs).map pr).all fun a => match a with | .none => false | _ => true) = true := by
    simp only [List.all_eq_true, List.mem_map]
    rintro _ ⟨p, _, rfl⟩
    rfl
  have h3 : PyData.depthAll ((x :: xs).map pr) ≤ 60 := depths_le fun y hy => by
    obtain ⟨p, _, rfl⟩ := List.mem_map.mp hy
    show max 0 (max 0 0) + 1 ≤ 60
    decide
  rw [h1, decide_eq_true h3, Bool.true_and, Bool.and_true]
  exact (Bool.and_eq_true _ _).mpr ⟨h2, by rw [hd_map hd_pr]; rfl⟩
/-! ### the least of ints, places -/
theorem least_spec (r : List Int) : ∀ i : Int, (least i r = i ∨ least i r ∈ r) ∧ least i r ≤ i ∧ ∀ j ∈ r, least i r ≤ j := by
  induction r with
  | nil => intro i; exact ⟨.inl rfl, Int.le_refl _, fun j h => by cases h⟩
  | cons k r ih =>
    intro i
    have e : least i (k :: r) = least (if k < i then k else i) r := rfl
    rw [e]
    obtain ⟨h1, h2, h3⟩ := ih (if k < i then k else i)
    by_cases c : k < i
    · rw [if_pos c] at h1 h2 h3 ⊢
      refine ⟨.inr ?_, by omega, fun j hj => ?_⟩
      · rcases h1 with h1 | h1
        · rw [h1]; simp
        · simp [h1]
      · rcases List.mem_cons.mp hj with rfl | hj
        · exact h2
        · exact h3 j hj
    · rw [if_neg c] at h1 h2 h3 ⊢
      refine ⟨?_, h2, fun j hj => ?_⟩
      · rcases h1 with h1 | h1
        · exact .inl h1
        · exact .inr (by simp [h1])
      · rcases List.mem_cons.mp hj with rfl | hj
        · omega
        · exact h3 j hj
/-- the least of a list that is not empty -/
theorem min_ints {l : List Int} (h : l ≠ []) : ∃ m, minX (l.map .int) = some (.v (.int m)) ∧ m ∈ l ∧ ∀ x ∈ l, m ≤ x := by
  cases l with
  | nil => exact absurd rfl h
  | cons i r =>
    obtain ⟨h1, h2, h3⟩ := least_spec r i
    refine ⟨least i r, minX_ints (by rw [asInts_int]), ?_, fun x hx => ?_⟩
    · rcases h1 with h1 | h1
      · rw [h1]; simp
      · simp [h1]
    · rcases List.mem_cons.mp hx with rfl | hx
      · exact h2
      · exact h3 x hx
theorem ints_lay (l : List Int) : PyData.canLayAll0 (l.map .int) = true := by
  induction l with
  | nil => simp only [List.map_nil, PyData.canLayAll0]
  | cons x l ih => simp only [List.map_cons, PyData.canLayAll0, PyData.canLay0, ih, Bool.and_self]
theorem ints_dep' (l : List Int) : PyData.depthAll (l.map .int) = 0 := ints_dep l
theorem shp_ints (l : List Int) : shp (.list (l.map .int)) = true := by
  show ((PyData.list (l.map .int)).canLay0 && decide ((PyData.list (l.map .int)).depth ≤ 64)) = true
  have e : (PyData.list (l.map PyData.int)).depth = 1 := by
    show PyData.depthAll (l.map .int) + 1 = 1
    rw [ints_dep']
  rw [e]
  simp only [PyData.canLay0, ints_lay]
  rfl
theorem plc_ints {l : List Int} {v : Int} {j : Nat} (hj : j < l.length) (h1 : l[j] = v) (h2 : ∀ (m : Nat) (hm : m < j), l[m]'(by omega) ≠ v) : plc (l.map .int) (.int v) = some j := by
  unfold plc
  have s1 : shp (.int v) = true := rfl
  rw [shp_ints, s1]
  show (if (true && true) = true then _ else _) = _
  rw [if_pos (show (true && true) = true from rfl), List.findIdx?_eq_some_iff_getElem]
  refine ⟨by simpa using hj, ?_, fun m hm => ?_⟩
  · simp [PyData.eqv, h1]
  · have := h2 m hm
    simpa [PyData.eqv] using this
end D
end Ev

set_option maxRecDepth 100000
/-! Ev, part DI: the tools anew: side conditions that are found, loops told by what they meet, draws. -/
namespace Ev
open PySem
namespace D
theorem szl {n : Nat} (h : n ≤ 16000000) : n ≤ sizeLine := Nat.le_trans h (by decide)
theorem szt {n : Nat} (h : n < 16000000) : n < sizeLine := Nat.lt_of_lt_of_le h (by decide)
theorem cap {α : Type} {n : Nat} {a b : α} {i : Decidable (n ≤ sizeLine)} (h : n ≤ 16000000) : @ite α (n ≤ sizeLine) i a b = a := if_pos (szl h)
theorem capt {α : Type} {n : Nat} {a b : α} {i : Decidable (n < sizeLine)} (h : n < 16000000) : @ite α (n < sizeLine) i a b = a := if_pos (szt h)
theorem lcF_cap (own : List Nat) (env1 env2 : Env) (ls : List Nat) (acc : List PyData) (l : acc.length ≤ 16000000) : lcF own env1 ls (.ok (env2, acc)) = match unlock (restE env1 env2 own) ls with
            | some env3 => .ok (env3, .n acc)
            | none => .bad := if_pos (szl l)
theorem it1 (env : Env) (b : Int) (h : -1000000000000000 ≤ b ∧ b ≤ 1000000000000000) : items1 env [.v (.int b)] = some (env, (List.range b.toNat).map fun k : Nat => .int k, []) := by
  show (if _ then _ else _) = _
  rw [if_pos h, upto0]
theorem it2 (env : Env) (a b : Int) (h : -1000000000000000 ≤ a ∧ a ≤ 1000000000000000 ∧ b ≤ 1000000000000000 ∧ -1000000000000000 ≤ b) : items2 env [.v (.int a), .v (.int b)] = some (env, (List.range (b - a).toNat).map fun k : Nat => .int (a + k), []) := by
  show (if _ then _ else _) = _
  rw [if_pos h, upto_eq]
theorem mul_d {i j : Int} (h : (-1000000000000000 ≤ i ∧ i ≤ 1000000000000000) ∨ (-1000000000000000 ≤ j ∧ j ≤ 1000000000000000)) : opBin .mul (.int i) (.int j) = some (.v (.int (i * j))) := by
  rcases h with ⟨a, b⟩ | ⟨a, b⟩
  · exact mulL a b
  · exact mulR a b
theorem fdiv_d {i j : Int} (h : 0 < j ∧ j ≤ 1000000000000000) : opBin .fdiv (.int i) (.int j) = some (.v (.int (i / j))) := by
  rw [fdiv_ii, if_pos ⟨by omega, fin_lit h.1 (by have := h.2; omega)⟩, Int.fdiv_eq_ediv_of_nonneg _ (by omega)]
theorem mod_d {i j : Int} (h : 0 < j) : opBin .mod (.int i) (.int j) = some (.v (.int (i % j))) := by
  rw [mod_ii, if_pos (by omega), Int.fmod_eq_emod_of_nonneg _ (by omega)]
theorem pow_d {i j : Int} (h : (0 ≤ j ∧ j ≤ 1000) ∧ -1000000000000000 ≤ i ∧ i ≤ 1000000000000000) : opBin .pow (.int i) (.int j) = some (.v (.int (i ^ j.toNat))) := by
  rw [pow_ii, if_pos ⟨h.1.1, h.1.2, sml_of (by omega) (by omega)⟩]
theorem tn1 (n : Nat) : ((n : Int) + 1).toNat = n + 1 := by omega
theorem tn2 (n : Nat) : (1 + (n : Int)).toNat = n + 1 := by omega
theorem tn_2 (n : Nat) : ((n : Int) + 2).toNat = n + 2 := by omega
theorem tn_3 (n : Nat) : ((n : Int) + 3).toNat = n + 3 := by omega
theorem tm_1 (n : Nat) : ((n : Int) - 1).toNat = n - 1 := by omega
theorem tn4 (n k : Nat) : ((n : Int) + (k : Int)).toNat = n + k := by omega
theorem tn5 (n k : Nat) : ((n : Int) - (k : Int)).toNat = n - k := by omega
theorem atI_last {α : Type} (xs : List α) (x : α) : L2.atI (xs ++ [x]) (-1) = some x := by
  rw [atI_neg1 _ (by simp)]; simp
theorem snoc_ne {α : Type} (xs : List α) (x : α) : (xs ++ [x]).isEmpty = false := by cases xs <;> rfl
theorem atI_map {α β : Type} (f : α → β) (xs : List α) (k : Nat) : L2.atI (xs.map f) (k : Int) = xs[k]?.map f := by rw [atI_n, List.getElem?_map]
/-- the last one of those that are chosen -/
theorem fil_last {p : Nat → Bool} : ∀ n, ((List.range n).filter p = [] ∧ ∀ h, h < n → p h = false) ∨ ∃ L l, (List.range n).filter p = L ++ [l] ∧ l < n ∧ p l = true ∧ ∀ h, l < h → h < n → p h = false
  | 0 => .inl ⟨rfl, fun h q => absurd q (Nat.not_lt_zero _)⟩
  | n + 1 => by
    rw [List.range_succ, List.filter_append]
    cases hp : p n with
    | true => exact .inr ⟨_, n, by rw [List.filter_cons_of_pos (by simpa using hp), List.filter_nil], by omega, hp, fun h h1 h2 => by omega⟩
    | false =>
      rw [List.filter_cons_of_neg (by simp [hp]), List.filter_nil, List.append_nil]
      rcases fil_last (p := p) n with ⟨h1, h2⟩ | ⟨L, l, h1, h2, h3, h4⟩
      · exact .inl ⟨h1, fun h q => by
          rcases Nat.lt_succ_iff_lt_or_eq.mp q with q | rfl
          · exact h2 h q
          · exact hp⟩
      · exact .inr ⟨L, l, h1, by omega, h3, fun h q1 q2 => by
          rcases Nat.lt_succ_iff_lt_or_eq.mp q2 with q | rfl
          · exact h4 h q1 q
          · exact hp⟩
/-- the least of a row of numbers, its first place -/
theorem min_idx (f : Nat → Nat) {n : Nat} (h : 0 < n) : ∃ j, j < n ∧ minX ((List.range n).map fun k => .int (f k)) = some (.v (.int (f j))) ∧ plc ((List.range n).map fun k => .int (f k)) (.int (f j)) = some j ∧ (∀ m, m < n → f j ≤ f m) ∧ ∀ m, m < j → f m ≠ f j := by
  obtain ⟨v, mv, vm, vl⟩ := min_ints (l := (List.range n).map fun k => (f k : Int)) (by intro e; have := congrArg List.length e; rw [List.length_map, List.length_range] at this; simp at this; omega)
  obtain ⟨k0, hk0, rfl⟩ := List.mem_map.mp vm
  have hk0 := List.mem_range.mp hk0
  have key : ∀ m, m ≤ n → (∃ i, i < m ∧ f i = f k0) → ∃ i, i < m ∧ f i = f k0 ∧ ∀ q, q < i → f q ≠ f k0 := by
    intro m
    induction m with
    | zero => rintro _ ⟨i, hi, _⟩; omega
    | succ m ih =>
      rintro hm ⟨i, hi, ei⟩
      by_cases q : ∃ i, i < m ∧ f i = f k0
      · obtain ⟨i, a, b, c⟩ := ih (by omega) q
        exact ⟨i, by omega, b, c⟩
      · refine ⟨i, hi, ei, fun r hr er => q ⟨r, by omega, er⟩⟩
  obtain ⟨j, hj, ej, fj⟩ := key n (Nat.le_refl _) ⟨k0, hk0, rfl⟩
  have vl' : ∀ m, m < n → f k0 ≤ f m := fun m hm => by
    have := vl (f m : Int) (List.mem_map.mpr ⟨m, List.mem_range.mpr hm, rfl⟩)
    omega
  refine ⟨j, hj, ?_, ?_, fun m hm => by rw [ej]; exact vl' m hm, fun m hm => by rw [ej]; exact fj m hm⟩
  · rw [ej, ← mv, List.map_map]; rfl
  · rw [ej]
    have := plc_ints (l := (List.range n).map fun k => (f k : Int)) (v := (f k0 : Int)) (j := j) (by simpa using hj) (by simp [ej]) fun m hm q => by
      simp at q
      exact fj m hm (by omega)
    rw [List.map_map] at this
    exact this
section
variable {α β : Type}
/-! ### loops told by what they meet -/
def Step (J : Env → Prop) (R : Ou → Prop) : Ou → Prop
  | .nx e => J e
  | .ct e => J e
  | o => R o
theorem st_nx (J : Env → Prop) (R : Ou → Prop) (e : Env) : Step J R (.nx e) = J e := rfl
theorem st_ct (J : Env → Prop) (R : Ou → Prop) (e : Env) : Step J R (.ct e) = J e := rfl
theorem st_rt (J : Env → Prop) (R : Ou → Prop) (e : Env) (r : Rv) : Step J R (.rt e r) = R (.rt e r) := rfl
theorem st_bk (J : Env → Prop) (R : Ou → Prop) (e : Env) : Step J R (.bk e) = R (.bk e) := rfl
theorem st_ex (J : Env → Prop) (R : Ou → Prop) (c : Nat) (a : PyData) : Step J R (.ex c a) = R (.ex c a) := rfl
/-- a loop whose turns go on (I), or end it (R) -/
theorem loopX {turn : PyData → Env → Ou} {f : α → PyData} {xs : List α} {env : Env} {o : Ou} (hg : forGo turn (xs.map f) env = o) (I : Nat → Env → Prop) (R : Ou → Prop) (h0 : I 0 env)
    (hs : ∀ i x e, xs[i]? = some x → I i e → ∀ (J : Env → Prop) (R' : Ou → Prop), (∀ e', I (i + 1) e' → J e') → (∀ o, R o → R' o) → Step J R' (turn (f x) e)) : (∃ e', o = .nx e' ∧ I xs.length e') ∨ R o := by
  subst hg
  have key : ∀ (ys : List α) (k : Nat) (e : Env), I k e → (∀ i x e, ys[i]? = some x → I (k + i) e → Step (I (k + i + 1)) R (turn (f x) e)) → (∃ e', forGo turn (ys.map f) e = .nx e' ∧ I (k + ys.length) e') ∨ R (forGo turn (ys.map f) e) := by
    intro ys
    induction ys with
    | nil => intro k e i _; exact .inl ⟨e, rfl, i⟩
    | cons y ys ih =>
      intro k e ik st
      have h2 := st 0 y e rfl ik
      rw [List.map_cons, forGo_cons]
      have rest : ∀ e', I (k + 1) e' → (∃ e2, forGo turn (ys.map f) e' = .nx e2 ∧ I (k + (y :: ys).length) e2) ∨ R (forGo turn (ys.map f) e') := fun e' i' => by
        have := ih (k + 1) e' i' fun i x e hx hi => by
          have := st (i + 1) x e (by simpa using hx) (by rw [show k + (i + 1) = k + 1 + i by omega]; exact hi)
          rw [show k + (i + 1) + 1 = k + 1 + i + 1 by omega] at this
          exact this
        rw [List.length_cons, show k + (ys.length + 1) = k + 1 + ys.length by omega]
        exact this
      cases ho : turn (f y) e with
      | nx e' => rw [ho] at h2; rw [forS_nx]; exact rest e' h2
      | ct e' => rw [ho] at h2; rw [forS_ct]; exact rest e' h2
      | rt _ _ => rw [ho] at h2; exact .inr h2
      | bk _ => rw [ho] at h2; exact .inr h2
      | ex _ _ => rw [ho] at h2; exact .inr h2
      | bad => rw [ho] at h2; exact .inr h2
  have := key xs 0 env h0 fun i x e hx hi => by rw [Nat.zero_add] at hi ⊢; exact hs i x e hx hi _ _ (fun _ h => h) fun _ h => h
  rw [Nat.zero_add] at this
  exact this
theorem loop {turn : PyData → Env → Ou} {f : α → PyData} {xs : List α} {env : Env} {o : Ou} (hg : forGo turn (xs.map f) env = o) (I : Nat → Env → Prop) (h0 : I 0 env)
    (hs : ∀ i x e, xs[i]? = some x → I i e → ∀ (J : Env → Prop) (R : Ou → Prop), (∀ e', I (i + 1) e' → J e') → Step J R (turn (f x) e)) : ∃ e', o = .nx e' ∧ I xs.length e' := by
  rcases loopX hg I (fun _ => False) h0 fun i x e hx hi J R hJ _ => hs i x e hx hi J R hJ with h | h
  · exact h
  · exact h.elim
theorem rng_get {n i k : Nat} (h : (List.range n)[i]? = some k) : k = i ∧ i < n := by
  obtain ⟨h1, h2⟩ := List.getElem?_eq_some_iff.mp h
  rw [List.length_range] at h1
  rw [List.getElem_range] at h2
  exact ⟨h2.symm, h1⟩
theorem loopXR {turn : PyData → Env → Ou} {f : Nat → PyData} {n : Nat} {env : Env} {o : Ou} (hg : forGo turn ((List.range n).map f) env = o) (I : Nat → Env → Prop) (R : Ou → Prop) (h0 : I 0 env)
    (hs : ∀ k e, k < n → I k e → ∀ (J : Env → Prop) (R' : Ou → Prop), (∀ e', I (k + 1) e' → J e') → (∀ o, R o → R' o) → Step J R' (turn (f k) e)) : (∃ e', o = .nx e' ∧ I n e') ∨ R o := by
  have := loopX hg I R h0 fun i x e hx hi => by
    obtain ⟨rfl, l⟩ := rng_get hx
    exact hs _ e l hi
  rwa [List.length_range] at this
theorem loopR {turn : PyData → Env → Ou} {f : Nat → PyData} {n : Nat} {env : Env} {o : Ou} (hg : forGo turn ((List.range n).map f) env = o) (I : Nat → Env → Prop) (h0 : I 0 env)
    (hs : ∀ k e, k < n → I k e → ∀ (J : Env → Prop) (R : Ou → Prop), (∀ e', I (k + 1) e' → J e') → Step J R (turn (f k) e)) : ∃ e', o = .nx e' ∧ I n e' := by
  have := loop hg I h0 fun i x e hx hi => by
    obtain ⟨rfl, l⟩ := rng_get hx
    exact hs _ e l hi
  rwa [List.length_range] at this
/-- a search: the first that is found ends the loop -/
theorem loopF {turn : PyData → Env → Ou} {f : α → PyData} {xs : List α} {env : Env} {o : Ou} (hg : forGo turn (xs.map f) env = o) (p : α → Bool) (I : Env → Prop) (R : α → Ou → Prop) (h0 : I env)
    (hs : ∀ x ∈ xs, ∀ e, I e → ∀ (J : Env → Prop) (R' : Ou → Prop), (∀ e', p x = false → I e' → J e') → (∀ o, p x = true → R x o → R' o) → Step J R' (turn (f x) e)) :
    (xs.find? p = none ∧ ∃ e', o = .nx e' ∧ I e') ∨ ∃ x ∈ xs, xs.find? p = some x ∧ R x o := by
  subst hg
  induction xs generalizing env with
  | nil => exact .inl ⟨rfl, env, rfl, h0⟩
  | cons x xs ih =>
    have st := hs x (by simp) env h0 (fun e' => p x = false ∧ I e') (fun o => p x = true ∧ R x o) (fun e' a b => ⟨a, b⟩) fun o a b => ⟨a, b⟩
    rw [List.map_cons, forGo_cons, List.find?_cons]
    have rest : ∀ e', p x = false ∧ I e' → (((match p x with | true => some x | false => xs.find? p) = none ∧ ∃ e2, forGo turn (xs.map f) e' = .nx e2 ∧ I e2) ∨ ∃ y ∈ x :: xs, (match p x with | true => some x | false => xs.find? p) = some y ∧ R y (forGo turn (xs.map f) e')) := by
      rintro e' ⟨hp, i⟩
      rw [hp]
      rcases ih i fun y hy => hs y (by simp [hy]) with h | ⟨y, hy, h⟩
      · exact .inl h
      · exact .inr ⟨y, by simp [hy], h⟩
    have fin : ∀ o, p x = true ∧ R x o → (((match p x with | true => some x | false => xs.find? p) = none ∧ ∃ e2, o = .nx e2 ∧ I e2) ∨ ∃ y ∈ x :: xs, (match p x with | true => some x | false => xs.find? p) = some y ∧ R y o) := by
      rintro o ⟨hp, i⟩
      rw [hp]
      exact .inr ⟨x, by simp, rfl, i⟩
    cases ho : turn (f x) env with
    | nx e' => rw [ho] at st; rw [forS_nx]; exact rest e' st
    | ct e' => rw [ho] at st; rw [forS_ct]; exact rest e' st
    | rt _ _ => rw [ho] at st; exact fin _ st
    | bk _ => rw [ho] at st; exact fin _ st
    | ex _ _ => rw [ho] at st; exact fin _ st
    | bad => rw [ho] at st; exact fin _ st
/-! ### comprehensions -/
theorem lcm {turn : PyData → Env → Rs (Env × Option PyData)} {f : α → PyData} {xs : List α} {env : Env} {acc : List PyData} {o : Rs (Env × List PyData)} (hg : lcGo turn (xs.map f) env acc = o) (g : α → PyData)
    (h : ∀ x ∈ xs, turn (f x) env = .ok (env, some (g x))) : o = .ok (env, acc ++ xs.map g) := by rw [← hg]; exact lcGo_map h
theorem lcs {turn : PyData → Env → Rs (Env × Option PyData)} {f : α → PyData} {xs : List α} {env : Env} {acc : List PyData} {o : Rs (Env × List PyData)} (hg : lcGo turn (xs.map f) env acc = o) (p : α → Bool) (g : α → PyData)
    (h : ∀ x ∈ xs, turn (f x) env = .ok (env, if p x = true then some (g x) else none)) : o = .ok (env, acc ++ (xs.filter p).map g) := by rw [← hg]; exact lcGo_sel h
def Lx (J : Env → PyData → Prop) : Rs (Env × Option PyData) → Prop
  | .ok (e, some y) => J e y
  | _ => False
theorem lx_p (J : Env → PyData → Prop) (e : Env) (y : PyData) : Lx J (.ok (e, some y)) = J e y := rfl
/-- a comprehension whose turns change what they see -/
theorem lci {turn : PyData → Env → Rs (Env × Option PyData)} {f : α → PyData} {xs : List α} {env : Env} {o : Rs (Env × List PyData)} (hg : lcGo turn (xs.map f) env [] = o) (I : Nat → Env → List PyData → Prop) (h0 : I 0 env [])
    (hs : ∀ i x e ys, xs[i]? = some x → I i e ys → ∀ J : Env → PyData → Prop, (∀ e' y, I (i + 1) e' (ys ++ [y]) → J e' y) → Lx J (turn (f x) e)) : ∃ e' ys, o = .ok (e', ys) ∧ I xs.length e' ys := by
  subst hg
  have key : ∀ (zs : List α) (k : Nat) (e : Env) (acc : List PyData), I k e acc → (∀ i x e ys, zs[i]? = some x → I (k + i) e ys → Lx (fun e' y => I (k + i + 1) e' (ys ++ [y])) (turn (f x) e)) → ∃ e' ys, lcGo turn (zs.map f) e acc = .ok (e', ys) ∧ I (k + zs.length) e' ys := by
    intro zs
    induction zs with
    | nil => intro k e acc i _; exact ⟨e, acc, rfl, i⟩
    | cons z zs ih =>
      intro k e acc ik st
      have h2 := st 0 z e acc rfl ik
      have go : lcGo turn ((z :: zs).map f) e acc = match turn (f z) e with | .ok (env', some y) => lcGo turn (zs.map f) env' (acc ++ [y]) | .ok (env', none) => lcGo turn (zs.map f) env' acc | _ => .bad := rfl
      cases ho : turn (f z) e with
      | ok p =>
        obtain ⟨e', q⟩ := p
        cases q with
        | none => rw [ho] at h2; exact h2.elim
        | some y =>
          rw [ho] at h2
          have h2 : I (k + 0 + 1) e' (acc ++ [y]) := h2
          obtain ⟨e2, ys, h3, h4⟩ := ih (k + 1) e' (acc ++ [y]) h2 fun i x e ys hx hi => by
            have := st (i + 1) x e ys (by simpa using hx) (by rw [show k + (i + 1) = k + 1 + i by omega]; exact hi)
            rw [show k + (i + 1) + 1 = k + 1 + i + 1 by omega] at this
            exact this
          refine ⟨e2, ys, ?_, by rw [List.length_cons, show k + (zs.length + 1) = k + 1 + zs.length by omega]; exact h4⟩
          rw [go, ho]
          exact h3
      | ex _ _ => rw [ho] at h2; exact h2.elim
      | bad => rw [ho] at h2; exact h2.elim
  have := key xs 0 env [] h0 fun i x e ys hx hi => by rw [Nat.zero_add] at hi ⊢; exact hs i x e ys hx hi _ fun _ _ h => h
  rw [Nat.zero_add] at this
  exact this
theorem lciR {turn : PyData → Env → Rs (Env × Option PyData)} {f : Nat → PyData} {n : Nat} {env : Env} {o : Rs (Env × List PyData)} (hg : lcGo turn ((List.range n).map f) env [] = o) (I : Nat → Env → List PyData → Prop) (h0 : I 0 env [])
    (hs : ∀ k e ys, k < n → I k e ys → ∀ J : Env → PyData → Prop, (∀ e' y, I (k + 1) e' (ys ++ [y]) → J e' y) → Lx J (turn (f k) e)) : ∃ e' ys, o = .ok (e', ys) ∧ I n e' ys := by
  have := lci hg I h0 fun i x e ys hx hi => by
    obtain ⟨rfl, l⟩ := rng_get hx
    exact hs _ e ys l hi
  rwa [List.length_range] at this
/-! ### whiles -/
def WStep (J : Env → Prop) (Q : Ou → Prop) : Ou → Prop
  | .nx e => J e
  | .ct e => J e
  | .bk e => Q (.nx e)
  | o => Q o
def WTest (J : Env → Prop) (Q : Ou → Prop) (B : Env → Ou) : Rs (Env × Bool) → Prop
  | .ok (e, true) => WStep J Q (B e)
  | .ok (e, false) => Q (.nx e)
  | .ex c a => Q (.ex c a)
  | .bad => False
theorem ws_nx (J : Env → Prop) (Q : Ou → Prop) (e : Env) : WStep J Q (.nx e) = J e := rfl
theorem ws_ct (J : Env → Prop) (Q : Ou → Prop) (e : Env) : WStep J Q (.ct e) = J e := rfl
theorem ws_bk (J : Env → Prop) (Q : Ou → Prop) (e : Env) : WStep J Q (.bk e) = Q (.nx e) := rfl
theorem ws_rt (J : Env → Prop) (Q : Ou → Prop) (e : Env) (r : Rv) : WStep J Q (.rt e r) = Q (.rt e r) := rfl
theorem ws_ex (J : Env → Prop) (Q : Ou → Prop) (c : Nat) (a : PyData) : WStep J Q (.ex c a) = Q (.ex c a) := rfl
theorem wt_t (J : Env → Prop) (Q : Ou → Prop) (B : Env → Ou) (e : Env) : WTest J Q B (.ok (e, true)) = WStep J Q (B e) := rfl
theorem wt_f (J : Env → Prop) (Q : Ou → Prop) (B : Env → Ou) (e : Env) : WTest J Q B (.ok (e, false)) = Q (.nx e) := rfl
theorem whX {T : Env → Rs (Env × Bool)} {B : Env → Ou} {n : Nat} {env : Env} {o : Ou} (hg : whlGo T B n env = o) (I : Nat → Env → Prop) (Q : Ou → Prop) {k : Nat} (hk : k < n) (h0 : I k env)
    (hs : ∀ m e, I m e → ∀ (J : Env → Prop) (Q' : Ou → Prop), (∀ m' e', m' < m → I m' e' → J e') → (∀ o, Q o → Q' o) → WTest J Q' B (T e)) : Q o := by
  subst hg
  have key : ∀ k n e, k < n → I k e → Q (whlGo T B n e) := by
    intro k
    induction k using Nat.strongRecOn with
    | _ k ih =>
      intro n e hk hi
      obtain ⟨n, rfl⟩ : ∃ n', n = n' + 1 := ⟨n - 1, by omega⟩
      have go : whlGo T B (n + 1) e = match T e with
        | .ok (e, true) => match B e with
          | .nx e' => whlGo T B n e'
          | .ct e' => whlGo T B n e'
          | .bk e' => .nx e'
          | o => o
        | .ok (e, false) => .nx e
        | .ex c a => .ex c a
        | .bad => .bad := rfl
      have st := hs k e hi (fun e' => ∃ m', m' < k ∧ I m' e') Q (fun m' e' h1 h2 => ⟨m', h1, h2⟩) fun _ h => h
      rw [go]
      cases ht : T e with
      | ok p =>
        obtain ⟨e1, b⟩ := p
        rw [ht] at st
        cases b with
        | false => exact st
        | true =>
          have st : WStep _ _ (B e1) := st
          dsimp only
          cases hb : B e1 with
          | nx e2 => rw [hb] at st; obtain ⟨m', h1, h2⟩ := st; exact ih m' h1 n e2 (by omega) h2
          | ct e2 => rw [hb] at st; obtain ⟨m', h1, h2⟩ := st; exact ih m' h1 n e2 (by omega) h2
          | bk e2 => rw [hb] at st; exact st
          | rt e2 r => rw [hb] at st; exact st
          | ex c a => rw [hb] at st; exact st
          | bad => rw [hb] at st; exact st
      | ex c a => rw [ht] at st; exact st
      | bad => rw [ht] at st; exact st.elim
  exact key k n env hk h0
/-! ### defs -/
theorem lent_all {st : List Nat} : ∀ {ws : List W} {k : Nat}, (∀ i, k ≤ i → i < k + ws.length → st.contains i = false) → lentOk st k ws = true
  | [], _, _ => rfl
  | w :: ws, k, h => by
    have ih : lentOk st (k + 1) ws = true := lent_all fun i h1 h2 => h i (by omega) (by rw [List.length_cons]; omega)
    have h0 := h k (Nat.le_refl _) (by rw [List.length_cons]; omega)
    cases w <;> first | exact ih | (show (!st.contains k && lentOk st (k + 1) ws) = true; rw [h0, ih]; rfl)
theorem run_all {G : Tab} {ar many : Nat} {body : List MS} {ws : List W} (h : ws.length = ar) (h2 : (List.range ar).all (fun i => !(stos body).contains i) = true) : runDef G ar many body ws = give ar (exs G body (ws.map some ++ List.replicate (many - ar) none)) := by
  refine run_ok G ar many body ws h (lent_all fun i _ h3 => ?_)
  have := List.all_eq_true.mp h2 i (List.mem_range.mpr (by omega))
  simpa using this
end
end D
end Ev

local macro_rules
  | `(tactic| simp_arith [$as,*] $[$l]?) => `(tactic| simp (config := {decide := true}) (disch := first | omega | ((try simp only [List.length_map, List.length_append, List.length_cons, List.length_nil, List.length_range, List.length_reverse, List.length_zipIdx, List.length_replicate, List.length_take, List.length_drop, List.length_zip]) <;> omega) | fail) only [$as,*, Ev.D.bind_ok, Ev.D.bind_ex, Ev.D.of_ok, Ev.D.of_ex, Ev.D.ofO_some, Ev.D.ev_c, Ev.D.ofN_some, Ev.D.ev_v, Ev.D.ev_fn, Ev.D.ev_tup, Ev.D.ev_lst, Ev.D.tupC_p, Ev.D.lstC_p, Ev.D.ev_bin, Ev.D.binB_p, Ev.D.binC_p, Ev.D.ev_neg, Ev.D.negC_p, Ev.D.ev_cmp, Ev.D.cmpB_p, Ev.D.cmpC_p, Ev.D.ev_chn, Ev.D.chnB_p, Ev.D.chnC_p, Ev.D.chnE_t, Ev.D.chnE_f, Ev.D.chnD_p, Ev.D.ev_ch3, Ev.D.ch3B_p, Ev.D.ch3C_p, Ev.D.ch3E_t, Ev.D.ch3E_f, Ev.D.ev_and, Ev.D.andB_p, Ev.D.andD_t, Ev.D.andD_f, Ev.D.ev_or, Ev.D.orB_p, Ev.D.orD_t, Ev.D.orD_f, Ev.D.ev_not, Ev.D.notC_p, Ev.D.ev_ife, Ev.D.ifeB_p, Ev.D.ifeD_t, Ev.D.ifeD_f, Ev.D.ev_sub, Ev.D.subB_p, Ev.D.subC_p, Ev.D.ev_slc, Ev.D.slcB_p, Ev.D.slcC_p, Ev.D.slcD_p, Ev.D.evo_none, Ev.D.evo_some, Ev.D.evoC_p, Ev.D.ev_rev, Ev.D.ev_b1, Ev.D.b1C_v, Ev.D.b1C_n, Ev.D.b1C_q, Ev.D.b1D_some, Ev.D.b1C_lr, Ev.D.b1C_nr, Ev.D.ev_b2, Ev.D.b2B_p, Ev.D.b2C_p, Ev.D.ev_isi, Ev.D.isiC_p, Ev.D.ev_lrg, Ev.D.lrgB_p, Ev.D.lrgC_p, Ev.D.ev_app, Ev.D.appC_p, Ev.D.idxD_s, Ev.D.ev_idx, Ev.D.idxC_p, Ev.D.ev_ext, Ev.D.extC_p, Ev.D.callC_p, Ev.D.callE_some, Ev.D.callD_ok, Ev.D.callD_ex, Ev.D.callvA_some, Ev.D.callvL_some, Ev.D.callvB_f, Ev.D.ev_callv, Ev.D.evs_nil, Ev.D.evs_cons, Ev.D.evsB_p, Ev.D.evsC_p, Ev.D.evt_nil, Ev.D.evt_cons, Ev.D.evtB_p, Ev.D.evtD_t, Ev.D.evtD_f, Ev.D.ev_lc, Ev.D.lcA_p, Ev.D.lcB_some, Ev.D.lcC_some, Ev.D.lcD_t, Ev.D.lcD_f, Ev.D.lcE_p, Ev.D.exs_nil, Ev.D.exs_cons, Ev.D.seq_nx, Ev.D.seq_rt, Ev.D.seq_bk, Ev.D.seq_ct, Ev.D.seq_ex, Ev.D.exs_asg, Ev.D.asgC_p, Ev.D.exs_par, Ev.D.parC_p, Ev.D.exs_sets, Ev.D.setsC_p, Ev.D.exs_mix, Ev.D.mixC_p, Ev.D.exs_unp, Ev.D.unpC_p, Ev.D.exs_aug, Ev.D.augB_v, Ev.D.augC_p, Ev.D.augsE_p, Ev.D.augsD_some, Ev.D.augsC_l, Ev.D.augsB_p, Ev.D.exs_augs, Ev.D.exs_exp, Ev.D.expC_p, Ev.D.exs_ite, Ev.D.iteC_p, Ev.D.iteD_t, Ev.D.iteD_f, Ev.D.exs_ret, Ev.D.retC_p, Ev.D.exs_retN, Ev.D.forB_some, Ev.D.forA_some, Ev.D.forC_p, Ev.D.exs_for, Ev.D.exs_brk, Ev.D.exs_cnt, Ev.D.exs_pas, Ev.D.exs_rai, Ev.D.raiC_p, Ev.D.exs_tryf, Ev.D.exs_tryw, Ev.D.noOwn_nil, Ev.D.noOwn_d, Ev.D.noOwn_r, Ev.D.noOwn_f, Ev.D.noOwn_n, Ev.D.wordO_some, Ev.D.tryO_ex, Ev.D.tryF_ex, Ev.D.tryF_rt, Ev.D.tryF_nx, Ev.D.tryO_rt, Ev.D.tryO_nx, Ev.D.give_nx, Ev.D.give_rt, Ev.D.give_ex, Ev.noLent, Ev.setMix, Ev.rdName, Ev.dat, Ev.datW, Ev.keep, Ev.keepAll, Ev.bindN, Ev.bindAll, Ev.settle, Ev.lend, Ev.back, Ev.giveR, Ev.isL, Ev.truR, Ev.items, Ev.items0, Ev.items3, Ev.items4, Ev.items5, Ev.items6, Ev.unlock, Ev.unlock1, Ev.wipeE, Ev.restE, Ev.setAll, List.getElem?_cons_zero, List.getElem?_cons_succ, List.getElem?_nil, List.set_cons_zero, List.set_cons_succ, List.map_cons, List.map_nil, List.cons_append, List.nil_append, List.replicate_succ, List.replicate_zero, List.length_cons, List.length_nil, List.take_succ_cons, List.take_zero, List.take_nil, Nat.reduceSub, Nat.reduceAdd, Nat.reduceLT, Nat.reduceLeDiff, Nat.reduceEqDiff, Nat.zero_add, ite_true, ite_false, Option.bind_some, Option.map_some, reduceIte, Option.some.injEq, Option.getD_some, Option.getD_none, List.contains_cons, List.contains_nil, Bool.not_true, Bool.not_false, Bool.and_true, Bool.true_and, Bool.and_false, Bool.false_and, Nat.lt_add_one, Nat.not_lt_zero, if_true, if_false, not_true_eq_false, not_false_eq_true, and_self, and_true, true_and, List.length_map, Nat.reduceBEq, List.elem_cons, List.elem_nil, List.mem_cons, List.not_mem_nil, or_false, false_or, Nat.add_one_ne_zero, decide_true, decide_false, List.append_nil, Bool.false_eq_true, Bool.true_eq_false, Bool.not_eq_true, Bool.or_false, Bool.false_or, Bool.or_true, Bool.true_or, Int.ofNat_le, Int.ofNat_lt, Int.reduceAdd, Int.reduceSub, Int.reduceNeg, Int.reduceLE, Int.reduceLT, Int.reduceEq, Int.reduceMul, ne_eq, Bool.not_not, false_and, and_false, List.getD_cons_zero, List.getD_cons_succ, List.getD_nil, eq_self, Ev.D.atI_0, Ev.D.atI_1, Ev.D.atI_2, Ev.D.atI_3, Ev.D.ixN_0, Ev.D.ixN_1, Ev.D.ixN_2, Ev.D.ixN_3, Ev.D.cmp_eq_ii, Ev.D.cmp_ne_ii, Ev.D.cmp_lt_ii, Ev.D.cmp_le_ii, Ev.D.cmp_gt_ii, Ev.D.cmp_ge_ii, Ev.D.sub_l, Ev.D.sub_t, Ev.D.add_ii, Ev.D.sub_ii, Ev.D.add_tt, Ev.D.add_ll, Ev.D.add_ss, Ev.D.mul_ti, Ev.D.mul_li, Ev.D.slc_l, Ev.D.slc_t, Ev.D.len_l, Ev.D.all_l, Ev.D.any_l, Ev.D.sum_l, Ev.D.min_l, Ev.D.max_l, Ev.D.tuple_l, Ev.D.list_l, Ev.D.repr_l, Ev.D.repr_x, Ev.D.len_t, Ev.D.all_t, Ev.D.any_t, Ev.D.sum_t, Ev.D.min_t, Ev.D.max_t, Ev.D.tuple_t, Ev.D.list_t, Ev.D.repr_t, Ev.D.sorted_l, Ev.D.abs_i, Ev.D.int_i, Ev.D.int_b, Ev.D.len_s, Ev.D.max_ii, Ev.D.min_ii, Ev.D.is_int_int, Ev.D.is_int_bool, Ev.D.is_int_none, Ev.D.is_int_str, Ev.D.is_int_list, Ev.D.is_int_tuple, Ev.D.is_bool_int, Ev.D.is_bool_bool, Ev.D.is_bool_none, Ev.D.is_bool_str, Ev.D.is_bool_list, Ev.D.is_bool_tuple, Ev.D.is_str_int, Ev.D.is_str_bool, Ev.D.is_str_none, Ev.D.is_str_str, Ev.D.is_str_list, Ev.D.is_str_tuple, Ev.D.is_tuple_int, Ev.D.is_tuple_bool, Ev.D.is_tuple_none, Ev.D.is_tuple_str, Ev.D.is_tuple_list, Ev.D.is_tuple_tuple, Ev.D.tru_b, Ev.D.tru_i, Ev.D.tru_n, Ev.D.tru_l, Ev.D.tru_t, Ev.D.isN_n, Ev.D.notN_n, Ev.D.isN_int, Ev.D.notN_int, Ev.D.isN_bool, Ev.D.notN_bool, Ev.D.isN_str, Ev.D.notN_str, Ev.D.isN_list, Ev.D.notN_list, Ev.D.isN_tuple, Ev.D.notN_tuple, Ev.D.lock_l, Ev.D.lock_t, Ev.D.lock_n, Ev.D.lock_r, Ev.D.lock_p, Ev.D.isLs_l, Ev.D.isLs_t, Ev.D.isLs_n, Ev.D.isLs_r, Ev.D.isLs_p, Ev.D.asg_n, Ev.D.asg_t, Ev.D.asgs_n, Ev.D.asgs_c, Ev.D.cap, Ev.D.capt, Ev.D.lcF_cap, Ev.D.it1, Ev.D.it2, Ev.D.mul_d, Ev.D.fdiv_d, Ev.D.mod_d, Ev.D.pow_d, Ev.D.numd_map, Ev.D.pairs_map, Ev.D.triples_map, Ev.D.asInts_map, Ev.D.asInts_int, Ev.D.asTr_map, Ev.D.all_id, Ev.D.any_id, Ev.D.op_nx, Ev.D.op_rt, Ev.D.op_ex, Ev.D.forS_ex, Ev.D.forGo_nil, Ev.D.forT_p, Ev.D.lcT_p, Int.toNat_natCast, Ev.D.tn1, Ev.D.tn2, Ev.D.tn4, Ev.D.tn5, Ev.D.whT_p, Ev.D.whC_p, Ev.D.whD_s, Ev.D.exs_whl, List.length_range, List.length_zipIdx, List.isEmpty_nil, List.isEmpty_cons, List.isEmpty_map, Int.reduceToNat, Ev.D.forS_nx, Ev.D.forS_rt, Ev.D.cut_take, Ev.D.cut_drop, Ev.D.cut_two, Ev.D.cut_map, Ev.D.atI_last, Ev.D.snoc_ne, Nat.lt_irrefl, Int.lt_irrefl, Int.cast_ofNat_Int, Ev.D.st_nx, Ev.D.st_ct, Ev.D.st_rt, Ev.D.st_bk, Ev.D.st_ex, Ev.D.lx_p, Ev.D.ws_nx, Ev.D.ws_ct, Ev.D.ws_bk, Ev.D.ws_rt, Ev.D.ws_ex, Ev.D.wt_t, Ev.D.wt_f, Ev.D.tn_2, Ev.D.tn_3, Ev.D.tm_1, Ev.D.whD, Ev.D.revC, List.length_reverse] $[$l]?)

set_option maxRecDepth 100000
namespace Ev.K57
open PySem PySem.Spec L2 PyProof.Rows
def topS (i : Nat) : Stmt := PySem.Challenge.pw_cardspunched_k57_papers_and_arguments_of.main.body.getD i (.Pass ⟨0, 0, 0, 0⟩)
def cs : List (Str × PyData) := [("MAX_SIZE", (.int 1000000000000)), ("MAX_ROWS", (.int 60)), ("MAX_PERCENT", (.int 1000)), ("MAX_MACHINES", (.int 6)), ("MAX_HOURS", (.int 120)), ("MAX_SHIFTS", (.int 6))]
def xs : List (Str × Nat) := [("DeckError", 1), ("ArgumentError", 2), ("PaperError", 3)]
def tw : Bool := false
abbrev fs0 : List (Str × Nat × Nat) := []
def G0 : Tab := fun _ => none
/-- 0 _law_start: 0=script 1=seed 2=cell -/
def N_law_start : List Str := ["script", "seed", "cell"]
def f_law_start_0 : List MS := [(.par [1] [(.bin .add (.bin .mod (.b1 .int (.bin .add (.bin .mul (.v 1) (.c (.int 48271))) (.v 2))) (.c (.int 2147483629))) (.c (.int 1)))])]
def s_law_start_0 : MS := (.par [1] [(.c (.int 7))])
def s_law_start_1 : MS := (.for_ (.n 2) 0 [(.v 0)] f_law_start_0)
def s_law_start_2 : MS := (.ret (.lst [(.b1 .list (.v 0)), (.c (.int 0)), (.c (.int 0)), (.v 1)]))
def b_law_start : List MS := [s_law_start_0, s_law_start_1, s_law_start_2]
def m_law_start : Sem := runDef G0 1 3 b_law_start
theorem h_law_start : trS N_law_start fs0 cs xs tw 60 (defScope (topS 34)) (fun _ => true) (defBody (topS 34)) = b_law_start := by kernel_rfl
theorem r_law_start (w0 : W) : m_law_start [w0] = D.give 1 (exs G0 b_law_start ([some w0, none, none])) := D.run_all rfl (by decide +kernel)
theorem sc_law_start : FnScope N_law_start ["script"] (defScope (topS 34)) := ⟨rfl, rfl, rfl, by decide +kernel, rfl, by decide +kernel, by decide +kernel⟩
abbrev fs1 : List (Str × Nat × Nat) := ("_law_start", 0, 1) :: fs0
def G1 : Tab := fun i => if i = 0 then some m_law_start else G0 i
/-- 1 _law_draw: 0=state 1=many 2=value -/
def N_law_draw : List Str := ["state", "many", "value"]
def s_law_draw_0 : MS := (.ite (.and (.cmp .eq (.sub (.v 0) (.c (.int 1))) (.c (.int 0))) (.cmp .ge (.sub (.v 0) (.c (.int 2))) (.b1 .len (.sub (.v 0) (.c (.int 0)))))) [(.sets [(0, (.c (.int 3)))] [(.bin .mod (.b1 .int (.bin .add (.bin .mul (.sub (.v 0) (.c (.int 3))) (.c (.int 48271))) (.c (.int 69621)))) (.c (.int 2147483629)))]), (.ret (.bin .mod (.b1 .int (.bin .fdiv (.sub (.v 0) (.c (.int 3))) (.c (.int 13)))) (.v 1)))] [])
def s_law_draw_1 : MS := (.ite (.cmp .eq (.sub (.v 0) (.c (.int 1))) (.c (.int 0))) [(.sets [(0, (.c (.int 1)))] [(.b1 .abs (.sub (.sub (.v 0) (.c (.int 0))) (.sub (.v 0) (.c (.int 2)))))]), (.sets [(0, (.c (.int 2)))] [(.bin .add (.sub (.v 0) (.c (.int 2))) (.c (.int 1)))])] [])
def s_law_draw_2 : MS := (.par [2] [(.bin .mod (.b1 .int (.sub (.v 0) (.c (.int 1)))) (.v 1))])
def s_law_draw_3 : MS := (.sets [(0, (.c (.int 1)))] [(.bin .fdiv (.sub (.v 0) (.c (.int 1))) (.v 1))])
def s_law_draw_4 : MS := (.ret (.v 2))
def b_law_draw : List MS := [s_law_draw_0, s_law_draw_1, s_law_draw_2, s_law_draw_3, s_law_draw_4]
def m_law_draw : Sem := runDef G1 2 3 b_law_draw
theorem h_law_draw : trS N_law_draw fs1 cs xs tw 60 (defScope (topS 35)) (fun _ => true) (defBody (topS 35)) = b_law_draw := by kernel_rfl
theorem r_law_draw (w0 w1 : W) : m_law_draw [w0, w1] = D.give 2 (exs G1 b_law_draw ([some w0, some w1, none])) := D.run_all rfl (by decide +kernel)
theorem sc_law_draw : FnScope N_law_draw ["state", "many"] (defScope (topS 35)) := ⟨rfl, rfl, rfl, by decide +kernel, rfl, by decide +kernel, by decide +kernel⟩
abbrev fs2 : List (Str × Nat × Nat) := ("_law_draw", 1, 2) :: fs1
def G2 : Tab := fun i => if i = 1 then some m_law_draw else G1 i
/-- 2 is_integer: 0=value -/
def N_is_integer : List Str := ["value"]
def s_is_integer_0 : MS := (.ret (.and (.isi (.v 0) .int) (.not (.isi (.v 0) .bool))))
def b_is_integer : List MS := [s_is_integer_0]
def m_is_integer : Sem := runDef G2 1 1 b_is_integer
theorem h_is_integer : trS N_is_integer fs2 cs xs tw 60 (defScope (topS 6)) (fun _ => true) (defBody (topS 6)) = b_is_integer := by kernel_rfl
theorem r_is_integer (w0 : W) : m_is_integer [w0] = D.give 1 (exs G2 b_is_integer ([some w0])) := D.run_all rfl (by decide +kernel)
theorem sc_is_integer : FnScope N_is_integer ["value"] (defScope (topS 6)) := ⟨rfl, rfl, rfl, by decide +kernel, rfl, by decide +kernel, by decide +kernel⟩
abbrev fs3 : List (Str × Nat × Nat) := ("is_integer", 2, 1) :: fs2
def G3 : Tab := fun i => if i = 2 then some m_is_integer else G2 i
/-- 3 is_money: 0=value -/
def N_is_money : List Str := ["value"]
def s_is_money_0 : MS := (.ret (.and (.call 2 [(.v 0)]) (.chn .le .le (.c (.int 0)) (.v 0) (.c (.int 1000000000000)))))
def b_is_money : List MS := [s_is_money_0]
def m_is_money : Sem := runDef G3 1 1 b_is_money
theorem h_is_money : trS N_is_money fs3 cs xs tw 60 (defScope (topS 14)) (fun _ => true) (defBody (topS 14)) = b_is_money := by kernel_rfl
theorem c_is_money : ∀ as env, ev G3 (.call 2 as) env = (evs G3 as env).bind (D.callC m_is_integer) := fun _ _ => D.ev_call _ _ _ _ _ rfl
theorem r_is_money (w0 : W) : m_is_money [w0] = D.give 1 (exs G3 b_is_money ([some w0])) := D.run_all rfl (by decide +kernel)
theorem sc_is_money : FnScope N_is_money ["value"] (defScope (topS 14)) := ⟨rfl, rfl, rfl, by decide +kernel, rfl, by decide +kernel, by decide +kernel⟩
abbrev fs4 : List (Str × Nat × Nat) := ("is_money", 3, 1) :: fs3
def G4 : Tab := fun i => if i = 3 then some m_is_money else G3 i
/-- 4 check_machines: 0=machines 1=row 2=own -/
def N_check_machines : List Str := ["machines", "row", "own"]
def f_check_machines_0 : List MS := [(.ite (.or (.not (.isi (.v 1) .tuple)) (.or (.cmp .ne (.b1 .len (.v 1)) (.c (.int 4))) (.not (.b1 .all (.lc [2] (.n 2) 0 [(.v 1)] [] (.call 3 [(.v 2)])))))) [(.rai 1 (.c (.str (PySem.Str.ofString "machines"))))] []), (.ite (.not (.chn .le .le (.sub (.v 1) (.c (.int 1))) (.sub (.v 1) (.c (.int 3))) (.c (.int 120)))) [(.rai 1 (.c (.str (PySem.Str.ofString "machines"))))] [])]
def s_check_machines_0 : MS := (.ite (.or (.not (.isi (.v 0) .tuple)) (.not (.chn .le .le (.c (.int 1)) (.b1 .len (.v 0)) (.c (.int 6))))) [(.rai 1 (.c (.str (PySem.Str.ofString "machines"))))] [])
def s_check_machines_1 : MS := (.for_ (.n 1) 0 [(.v 0)] f_check_machines_0)
def b_check_machines : List MS := [s_check_machines_0, s_check_machines_1]
def m_check_machines : Sem := runDef G4 1 3 b_check_machines
theorem h_check_machines : trS N_check_machines fs4 cs xs tw 60 (defScope (topS 15)) (fun _ => true) (defBody (topS 15)) = b_check_machines := by kernel_rfl
theorem c_check_machines : ∀ as env, ev G4 (.call 3 as) env = (evs G4 as env).bind (D.callC m_is_money) := fun _ _ => D.ev_call _ _ _ _ _ rfl
theorem r_check_machines (w0 : W) : m_check_machines [w0] = D.give 1 (exs G4 b_check_machines ([some w0, none, none])) := D.run_all rfl (by decide +kernel)
theorem sc_check_machines : FnScope N_check_machines ["machines"] (defScope (topS 15)) := ⟨rfl, rfl, rfl, by decide +kernel, rfl, by decide +kernel, by decide +kernel⟩
abbrev fs5 : List (Str × Nat × Nat) := ("check_machines", 4, 1) :: fs4
def G5 : Tab := fun i => if i = 4 then some m_check_machines else G4 i
/-- 5 check_hours: 0=hours -/
def N_check_hours : List Str := ["hours"]
def s_check_hours_0 : MS := (.ite (.or (.not (.call 2 [(.v 0)])) (.not (.chn .le .le (.c (.int 0)) (.v 0) (.c (.int 120))))) [(.rai 2 (.c (.str (PySem.Str.ofString "hours"))))] [])
def b_check_hours : List MS := [s_check_hours_0]
def m_check_hours : Sem := runDef G5 1 1 b_check_hours
theorem h_check_hours : trS N_check_hours fs5 cs xs tw 60 (defScope (topS 16)) (fun _ => true) (defBody (topS 16)) = b_check_hours := by kernel_rfl
theorem c_check_hours : ∀ as env, ev G5 (.call 2 as) env = (evs G5 as env).bind (D.callC m_is_integer) := fun _ _ => D.ev_call _ _ _ _ _ rfl
theorem r_check_hours (w0 : W) : m_check_hours [w0] = D.give 1 (exs G5 b_check_hours ([some w0])) := D.run_all rfl (by decide +kernel)
theorem sc_check_hours : FnScope N_check_hours ["hours"] (defScope (topS 16)) := ⟨rfl, rfl, rfl, by decide +kernel, rfl, by decide +kernel, by decide +kernel⟩
abbrev fs6 : List (Str × Nat × Nat) := ("check_hours", 5, 1) :: fs5
def G6 : Tab := fun i => if i = 5 then some m_check_hours else G5 i
/-- 6 cost_of: 0=machine 1=hours 2=rent 3=free 4=price 5=most -/
def N_cost_of : List Str := ["machine", "hours", "rent", "free", "price", "most"]
def s_cost_of_0 : MS := (.ite (.cmp .isN (.v 1) (.c .none)) [(.ret (.c (.int 0)))] [])
def s_cost_of_1 : MS := (.asg (.t [(.n 2), (.n 3), (.n 4), (.n 5)]) (.v 0))
def s_cost_of_2 : MS := (.ret (.ife (.cmp .gt (.v 1) (.v 5)) (.c .none) (.bin .add (.v 2) (.bin .mul (.b2 .max (.c (.int 0)) (.bin .sub (.v 1) (.v 3))) (.v 4)))))
def b_cost_of : List MS := [s_cost_of_0, s_cost_of_1, s_cost_of_2]
def m_cost_of : Sem := runDef G6 2 6 b_cost_of
theorem h_cost_of : trS N_cost_of fs6 cs xs tw 60 (defScope (topS 17)) (fun _ => true) (defBody (topS 17)) = b_cost_of := by kernel_rfl
theorem r_cost_of (w0 w1 : W) : m_cost_of [w0, w1] = D.give 2 (exs G6 b_cost_of ([some w0, some w1, none, none, none, none])) := D.run_all rfl (by decide +kernel)
theorem sc_cost_of : FnScope N_cost_of ["machine", "hours"] (defScope (topS 17)) := ⟨rfl, rfl, rfl, by decide +kernel, rfl, by decide +kernel, by decide +kernel⟩
abbrev fs7 : List (Str × Nat × Nat) := ("cost_of", 6, 2) :: fs6
def G7 : Tab := fun i => if i = 6 then some m_cost_of else G6 i
/-- 7 accept_hours: 0=machines 1=hours 2=rows 3=cost 4=costs 5=machine 6=own -/
def N_accept_hours : List Str := ["machines", "hours", "rows", "cost", "costs", "machine", "own"]
def s_accept_hours_0 : MS := (.exp (.call 4 [(.v 0)]))
def s_accept_hours_1 : MS := (.exp (.call 5 [(.v 1)]))
def s_accept_hours_2 : MS := (.ite (.or (.not (.isi (.v 2) .tuple)) (.or (.cmp .ne (.b1 .len (.v 2)) (.b1 .len (.v 0))) (.not (.call 2 [(.v 3)])))) [(.rai 3 (.c (.str (PySem.Str.ofString "form"))))] [])
def s_accept_hours_3 : MS := (.ite (.not (.b1 .all (.lc [6] (.n 6) 0 [(.v 2)] [] (.or (.cmp .isN (.v 6) (.c .none)) (.and (.call 2 [(.v 6)]) (.cmp .ge (.v 6) (.c (.int 0)))))))) [(.rai 3 (.c (.str (PySem.Str.ofString "form"))))] [])
def s_accept_hours_4 : MS := (.par [4] [(.lc [5, 6] (.t [(.n 5), (.n 6)]) 5 [(.v 0), (.v 2)] [] (.call 6 [(.v 5), (.v 6)]))])
def s_accept_hours_5 : MS := (.ite (.cmp .inn (.c .none) (.v 4)) [(.rai 3 (.c (.str (PySem.Str.ofString "most"))))] [])
def s_accept_hours_6 : MS := (.ite (.cmp .ne (.b1 .sum (.lc [6] (.n 6) 0 [(.v 2)] [(.cmp .notN (.v 6) (.c .none))] (.v 6))) (.v 1)) [(.rai 3 (.c (.str (PySem.Str.ofString "hours"))))] [])
def s_accept_hours_7 : MS := (.ite (.cmp .gt (.b1 .sum (.v 4)) (.v 3)) [(.rai 3 (.c (.str (PySem.Str.ofString "cost"))))] [])
def b_accept_hours : List MS := [s_accept_hours_0, s_accept_hours_1, s_accept_hours_2, s_accept_hours_3, s_accept_hours_4, s_accept_hours_5, s_accept_hours_6, s_accept_hours_7]
def m_accept_hours : Sem := runDef G7 4 7 b_accept_hours
theorem h_accept_hours : trS N_accept_hours fs7 cs xs tw 60 (defScope (topS 23)) (fun _ => true) (defBody (topS 23)) = b_accept_hours := by kernel_rfl
theorem c_accept_hours : (∀ as env, ev G7 (.call 2 as) env = (evs G7 as env).bind (D.callC m_is_integer)) ∧ (∀ as env, ev G7 (.call 4 as) env = (evs G7 as env).bind (D.callC m_check_machines)) ∧ (∀ as env, ev G7 (.call 5 as) env = (evs G7 as env).bind (D.callC m_check_hours)) ∧ (∀ as env, ev G7 (.call 6 as) env = (evs G7 as env).bind (D.callC m_cost_of)) :=
  ⟨fun _ _ => D.ev_call _ _ _ _ _ rfl, fun _ _ => D.ev_call _ _ _ _ _ rfl, fun _ _ => D.ev_call _ _ _ _ _ rfl, fun _ _ => D.ev_call _ _ _ _ _ rfl⟩
theorem r_accept_hours (w0 w1 w2 w3 : W) : m_accept_hours [w0, w1, w2, w3] = D.give 4 (exs G7 b_accept_hours ([some w0, some w1, some w2, some w3, none, none, none])) := D.run_all rfl (by decide +kernel)
theorem sc_accept_hours : FnScope N_accept_hours ["machines", "hours", "rows", "cost"] (defScope (topS 23)) := ⟨rfl, rfl, rfl, by decide +kernel, rfl, by decide +kernel, by decide +kernel⟩
abbrev fs8 : List (Str × Nat × Nat) := ("accept_hours", 7, 4) :: fs7
def G8 : Tab := fun i => if i = 7 then some m_accept_hours else G7 i
/-- 8 machine_cost: 0=machines 1=number 2=hours -/
def N_machine_cost : List Str := ["machines", "number", "hours"]
def s_machine_cost_0 : MS := (.exp (.call 4 [(.v 0)]))
def s_machine_cost_1 : MS := (.ite (.or (.not (.call 2 [(.v 1)])) (.not (.chn .le .lt (.c (.int 0)) (.v 1) (.b1 .len (.v 0))))) [(.rai 2 (.c (.str (PySem.Str.ofString "number"))))] [])
def s_machine_cost_2 : MS := (.ite (.cmp .notN (.v 2) (.c .none)) [(.exp (.call 5 [(.v 2)]))] [])
def s_machine_cost_3 : MS := (.ret (.call 6 [(.sub (.v 0) (.v 1)), (.v 2)]))
def b_machine_cost : List MS := [s_machine_cost_0, s_machine_cost_1, s_machine_cost_2, s_machine_cost_3]
def m_machine_cost : Sem := runDef G8 3 3 b_machine_cost
theorem h_machine_cost : trS N_machine_cost fs8 cs xs tw 60 (defScope (topS 18)) (fun _ => true) (defBody (topS 18)) = b_machine_cost := by kernel_rfl
theorem c_machine_cost : (∀ as env, ev G8 (.call 2 as) env = (evs G8 as env).bind (D.callC m_is_integer)) ∧ (∀ as env, ev G8 (.call 4 as) env = (evs G8 as env).bind (D.callC m_check_machines)) ∧ (∀ as env, ev G8 (.call 5 as) env = (evs G8 as env).bind (D.callC m_check_hours)) ∧ (∀ as env, ev G8 (.call 6 as) env = (evs G8 as env).bind (D.callC m_cost_of)) :=
  ⟨fun _ _ => D.ev_call _ _ _ _ _ rfl, fun _ _ => D.ev_call _ _ _ _ _ rfl, fun _ _ => D.ev_call _ _ _ _ _ rfl, fun _ _ => D.ev_call _ _ _ _ _ rfl⟩
theorem r_machine_cost (w0 w1 w2 : W) : m_machine_cost [w0, w1, w2] = D.give 3 (exs G8 b_machine_cost ([some w0, some w1, some w2])) := D.run_all rfl (by decide +kernel)
theorem sc_machine_cost : FnScope N_machine_cost ["machines", "number", "hours"] (defScope (topS 18)) := ⟨rfl, rfl, rfl, by decide +kernel, rfl, by decide +kernel, by decide +kernel⟩
abbrev fs9 : List (Str × Nat × Nat) := ("machine_cost", 8, 3) :: fs8
def G9 : Tab := fun i => if i = 8 then some m_machine_cost else G8 i
/-- 9 next_costs: 0=row 1=machine 2=found 3=hours 4=ways 5=own -/
def N_next_costs : List Str := ["row", "machine", "found", "hours", "ways", "own"]
def f_next_costs_0 : List MS := [(.ite (.cmp .notN (.sub (.v 0) (.bin .sub (.v 3) (.v 5))) (.c .none)) [(.exp (.app 4 (.bin .add (.sub (.v 0) (.bin .sub (.v 3) (.v 5))) (.call 6 [(.v 1), (.v 5)]))))] [])]
def f_next_costs_1 : List MS := [(.par [4] [(.ife (.cmp .isN (.sub (.v 0) (.v 3)) (.c .none)) (.lst []) (.lst [(.sub (.v 0) (.v 3))]))]), (.for_ (.n 5) 1 [(.bin .add (.b2 .min (.v 3) (.sub (.v 1) (.c (.int 3)))) (.c (.int 1)))] f_next_costs_0), (.exp (.app 2 (.ife (.v 4) (.b1 .min (.v 4)) (.c .none))))]
def s_next_costs_0 : MS := (.par [2] [(.lst [])])
def s_next_costs_1 : MS := (.for_ (.n 3) 1 [(.b1 .len (.v 0))] f_next_costs_1)
def s_next_costs_2 : MS := (.ret (.v 2))
def b_next_costs : List MS := [s_next_costs_0, s_next_costs_1, s_next_costs_2]
def m_next_costs : Sem := runDef G9 2 6 b_next_costs
theorem h_next_costs : trS N_next_costs fs9 cs xs tw 60 (defScope (topS 19)) (fun _ => true) (defBody (topS 19)) = b_next_costs := by kernel_rfl
theorem c_next_costs : ∀ as env, ev G9 (.call 6 as) env = (evs G9 as env).bind (D.callC m_cost_of) := fun _ _ => D.ev_call _ _ _ _ _ rfl
theorem r_next_costs (w0 w1 : W) : m_next_costs [w0, w1] = D.give 2 (exs G9 b_next_costs ([some w0, some w1, none, none, none, none])) := D.run_all rfl (by decide +kernel)
theorem sc_next_costs : FnScope N_next_costs ["row", "machine"] (defScope (topS 19)) := ⟨rfl, rfl, rfl, by decide +kernel, rfl, by decide +kernel, by decide +kernel⟩
abbrev fs10 : List (Str × Nat × Nat) := ("next_costs", 9, 2) :: fs9
def G10 : Tab := fun i => if i = 9 then some m_next_costs else G9 i
/-- 10 accept_costs: 0=machines 1=hours 2=table 3=cost 4=row 5=last 6=number 7=machine 8=due 9=told 10=own -/
def N_accept_costs : List Str := ["machines", "hours", "table", "cost", "row", "last", "number", "machine", "due", "told", "own"]
def f_accept_costs_0 : List MS := [(.ite (.or (.not (.isi (.v 4) .tuple)) (.cmp .ne (.b1 .len (.v 4)) (.bin .add (.v 1) (.c (.int 1))))) [(.rai 3 (.c (.str (PySem.Str.ofString "form"))))] []), (.ite (.not (.b1 .all (.lc [10] (.n 10) 0 [(.v 4)] [] (.or (.cmp .isN (.v 10) (.c .none)) (.call 2 [(.v 10)]))))) [(.rai 3 (.c (.str (PySem.Str.ofString "form"))))] [])]
def f_accept_costs_1 : List MS := [(.ite (.and (.cmp .notN (.v 10) (.c .none)) (.or (.cmp .isN (.v 9) (.c .none)) (.cmp .gt (.v 9) (.v 10)))) [(.rai 3 (.c (.str (PySem.Str.ofString "row"))))] [])]
def f_accept_costs_2 : List MS := [(.par [8] [(.call 9 [(.b1 .list (.sub (.v 2) (.v 6))), (.v 7)])]), (.for_ (.t [(.n 9), (.n 10)]) 5 [(.sub (.v 2) (.bin .add (.v 6) (.c (.int 1)))), (.v 8)] f_accept_costs_1)]
def s_accept_costs_0 : MS := (.exp (.call 4 [(.v 0)]))
def s_accept_costs_1 : MS := (.exp (.call 5 [(.v 1)]))
def s_accept_costs_2 : MS := (.ite (.or (.not (.isi (.v 2) .tuple)) (.or (.cmp .ne (.b1 .len (.v 2)) (.bin .add (.b1 .len (.v 0)) (.c (.int 1)))) (.and (.cmp .notN (.v 3) (.c .none)) (.not (.call 2 [(.v 3)]))))) [(.rai 3 (.c (.str (PySem.Str.ofString "form"))))] [])
def s_accept_costs_3 : MS := (.for_ (.n 4) 0 [(.v 2)] f_accept_costs_0)
def s_accept_costs_4 : MS := (.ite (.or (.cmp .isN (.sub (.sub (.v 2) (.c (.int 0))) (.c (.int 0))) (.c .none)) (.cmp .gt (.sub (.sub (.v 2) (.c (.int 0))) (.c (.int 0))) (.c (.int 0)))) [(.rai 3 (.c (.str (PySem.Str.ofString "begin"))))] [])
def s_accept_costs_5 : MS := (.for_ (.t [(.n 6), (.n 7)]) 4 [(.v 0)] f_accept_costs_2)
def s_accept_costs_6 : MS := (.par [5] [(.sub (.sub (.v 2) (.neg (.c (.int 1)))) (.v 1))])
def s_accept_costs_7 : MS := (.ite (.and (.cmp .notN (.v 5) (.c .none)) (.or (.cmp .isN (.v 3) (.c .none)) (.cmp .lt (.v 5) (.v 3)))) [(.rai 3 (.c (.str (PySem.Str.ofString "cost"))))] [])
def b_accept_costs : List MS := [s_accept_costs_0, s_accept_costs_1, s_accept_costs_2, s_accept_costs_3, s_accept_costs_4, s_accept_costs_5, s_accept_costs_6, s_accept_costs_7]
def m_accept_costs : Sem := runDef G10 4 11 b_accept_costs
theorem h_accept_costs : trS N_accept_costs fs10 cs xs tw 60 (defScope (topS 24)) (fun _ => true) (defBody (topS 24)) = b_accept_costs := by kernel_rfl
theorem c_accept_costs : (∀ as env, ev G10 (.call 2 as) env = (evs G10 as env).bind (D.callC m_is_integer)) ∧ (∀ as env, ev G10 (.call 4 as) env = (evs G10 as env).bind (D.callC m_check_machines)) ∧ (∀ as env, ev G10 (.call 5 as) env = (evs G10 as env).bind (D.callC m_check_hours)) ∧ (∀ as env, ev G10 (.call 9 as) env = (evs G10 as env).bind (D.callC m_next_costs)) :=
  ⟨fun _ _ => D.ev_call _ _ _ _ _ rfl, fun _ _ => D.ev_call _ _ _ _ _ rfl, fun _ _ => D.ev_call _ _ _ _ _ rfl, fun _ _ => D.ev_call _ _ _ _ _ rfl⟩
theorem r_accept_costs (w0 w1 w2 w3 : W) : m_accept_costs [w0, w1, w2, w3] = D.give 4 (exs G10 b_accept_costs ([some w0, some w1, some w2, some w3, none, none, none, none, none, none, none])) := D.run_all rfl (by decide +kernel)
theorem sc_accept_costs : FnScope N_accept_costs ["machines", "hours", "table", "cost"] (defScope (topS 24)) := ⟨rfl, rfl, rfl, by decide +kernel, rfl, by decide +kernel, by decide +kernel⟩
abbrev fs11 : List (Str × Nat × Nat) := ("accept_costs", 10, 4) :: fs10
def G11 : Tab := fun i => if i = 10 then some m_accept_costs else G10 i
/-- 11 costs_in: 0=machines 1=hours 2=rows 3=machine -/
def N_costs_in : List Str := ["machines", "hours", "rows", "machine"]
def f_costs_in_0 : List MS := [(.exp (.app 2 (.call 9 [(.sub (.v 2) (.neg (.c (.int 1)))), (.v 3)])))]
def s_costs_in_0 : MS := (.par [2] [(.lst [(.bin .add (.lst [(.c (.int 0))]) (.bin .mul (.lst [(.c .none)]) (.v 1)))])])
def s_costs_in_1 : MS := (.for_ (.n 3) 0 [(.v 0)] f_costs_in_0)
def s_costs_in_2 : MS := (.ret (.v 2))
def b_costs_in : List MS := [s_costs_in_0, s_costs_in_1, s_costs_in_2]
def m_costs_in : Sem := runDef G11 2 4 b_costs_in
theorem h_costs_in : trS N_costs_in fs11 cs xs tw 60 (defScope (topS 20)) (fun _ => true) (defBody (topS 20)) = b_costs_in := by kernel_rfl
theorem c_costs_in : ∀ as env, ev G11 (.call 9 as) env = (evs G11 as env).bind (D.callC m_next_costs) := fun _ _ => D.ev_call _ _ _ _ _ rfl
theorem r_costs_in (w0 w1 : W) : m_costs_in [w0, w1] = D.give 2 (exs G11 b_costs_in ([some w0, some w1, none, none])) := D.run_all rfl (by decide +kernel)
theorem sc_costs_in : FnScope N_costs_in ["machines", "hours"] (defScope (topS 20)) := ⟨rfl, rfl, rfl, by decide +kernel, rfl, by decide +kernel, by decide +kernel⟩
abbrev fs12 : List (Str × Nat × Nat) := ("costs_in", 11, 2) :: fs11
def G12 : Tab := fun i => if i = 11 then some m_costs_in else G11 i
/-- 12 least_costs: 0=machines 1=hours 2=row -/
def N_least_costs : List Str := ["machines", "hours", "row"]
def s_least_costs_0 : MS := (.exp (.call 4 [(.v 0)]))
def s_least_costs_1 : MS := (.exp (.call 5 [(.v 1)]))
def s_least_costs_2 : MS := (.ret (.b1 .tuple (.lc [2] (.n 2) 0 [(.call 11 [(.v 0), (.v 1)])] [] (.b1 .tuple (.v 2)))))
def b_least_costs : List MS := [s_least_costs_0, s_least_costs_1, s_least_costs_2]
def m_least_costs : Sem := runDef G12 2 3 b_least_costs
theorem h_least_costs : trS N_least_costs fs12 cs xs tw 60 (defScope (topS 21)) (fun _ => true) (defBody (topS 21)) = b_least_costs := by kernel_rfl
theorem c_least_costs : (∀ as env, ev G12 (.call 4 as) env = (evs G12 as env).bind (D.callC m_check_machines)) ∧ (∀ as env, ev G12 (.call 5 as) env = (evs G12 as env).bind (D.callC m_check_hours)) ∧ (∀ as env, ev G12 (.call 11 as) env = (evs G12 as env).bind (D.callC m_costs_in)) :=
  ⟨fun _ _ => D.ev_call _ _ _ _ _ rfl, fun _ _ => D.ev_call _ _ _ _ _ rfl, fun _ _ => D.ev_call _ _ _ _ _ rfl⟩
theorem r_least_costs (w0 w1 : W) : m_least_costs [w0, w1] = D.give 2 (exs G12 b_least_costs ([some w0, some w1, none])) := D.run_all rfl (by decide +kernel)
theorem sc_least_costs : FnScope N_least_costs ["machines", "hours"] (defScope (topS 21)) := ⟨rfl, rfl, rfl, by decide +kernel, rfl, by decide +kernel, by decide +kernel⟩
abbrev fs13 : List (Str × Nat × Nat) := ("least_costs", 12, 2) :: fs12
def G13 : Tab := fun i => if i = 12 then some m_least_costs else G12 i
/-- 13 best_hours: 0=machines 1=hours 2=rows 3=found 4=left 5=number 6=due 7=good 8=own -/
def N_best_hours : List Str := ["machines", "hours", "rows", "found", "left", "number", "due", "good", "own"]
def f_best_hours_0 : List MS := [(.par [6] [(.sub (.sub (.v 2) (.bin .add (.v 5) (.c (.int 1)))) (.v 4))]), (.ite (.cmp .eq (.sub (.sub (.v 2) (.v 5)) (.v 4)) (.v 6)) [(.exp (.app 3 (.c .none)))] [(.par [7] [(.lc [8] (.n 8) 1 [(.bin .add (.b2 .min (.v 4) (.sub (.sub (.v 0) (.v 5)) (.c (.int 3)))) (.c (.int 1)))] [(.cmp .notN (.sub (.sub (.v 2) (.v 5)) (.bin .sub (.v 4) (.v 8))) (.c .none))] (.v 8))]), (.par [7] [(.lc [8] (.n 8) 0 [(.v 7)] [(.cmp .eq (.bin .add (.sub (.sub (.v 2) (.v 5)) (.bin .sub (.v 4) (.v 8))) (.call 6 [(.sub (.v 0) (.v 5)), (.v 8)])) (.v 6))] (.v 8))]), (.exp (.app 3 (.sub (.v 7) (.c (.int 0))))), (.aug 4 .sub (.sub (.v 7) (.c (.int 0))))])]
def s_best_hours_0 : MS := (.exp (.call 4 [(.v 0)]))
def s_best_hours_1 : MS := (.exp (.call 5 [(.v 1)]))
def s_best_hours_2 : MS := (.par [2] [(.call 11 [(.v 0), (.v 1)])])
def s_best_hours_3 : MS := (.ite (.cmp .isN (.sub (.sub (.v 2) (.neg (.c (.int 1)))) (.v 1)) (.c .none)) [(.ret (.c .none))] [])
def s_best_hours_4 : MS := (.par [3] [(.lst [])])
def s_best_hours_5 : MS := (.par [4] [(.v 1)])
def s_best_hours_6 : MS := (.for_ (.n 5) 3 [(.bin .sub (.b1 .len (.v 0)) (.c (.int 1))), (.neg (.c (.int 1))), (.neg (.c (.int 1)))] f_best_hours_0)
def s_best_hours_7 : MS := (.ret (.tup [(.sub (.sub (.v 2) (.neg (.c (.int 1)))) (.v 1)), (.b1 .tuple (.rev (.v 3)))]))
def b_best_hours : List MS := [s_best_hours_0, s_best_hours_1, s_best_hours_2, s_best_hours_3, s_best_hours_4, s_best_hours_5, s_best_hours_6, s_best_hours_7]
def m_best_hours : Sem := runDef G13 2 9 b_best_hours
theorem h_best_hours : trS N_best_hours fs13 cs xs tw 60 (defScope (topS 22)) (fun _ => true) (defBody (topS 22)) = b_best_hours := by kernel_rfl
theorem c_best_hours : (∀ as env, ev G13 (.call 4 as) env = (evs G13 as env).bind (D.callC m_check_machines)) ∧ (∀ as env, ev G13 (.call 5 as) env = (evs G13 as env).bind (D.callC m_check_hours)) ∧ (∀ as env, ev G13 (.call 6 as) env = (evs G13 as env).bind (D.callC m_cost_of)) ∧ (∀ as env, ev G13 (.call 11 as) env = (evs G13 as env).bind (D.callC m_costs_in)) :=
  ⟨fun _ _ => D.ev_call _ _ _ _ _ rfl, fun _ _ => D.ev_call _ _ _ _ _ rfl, fun _ _ => D.ev_call _ _ _ _ _ rfl, fun _ _ => D.ev_call _ _ _ _ _ rfl⟩
theorem r_best_hours (w0 w1 : W) : m_best_hours [w0, w1] = D.give 2 (exs G13 b_best_hours ([some w0, some w1, none, none, none, none, none, none, none])) := D.run_all rfl (by decide +kernel)
theorem sc_best_hours : FnScope N_best_hours ["machines", "hours"] (defScope (topS 22)) := ⟨rfl, rfl, rfl, by decide +kernel, rfl, by decide +kernel, by decide +kernel⟩
abbrev fs14 : List (Str × Nat × Nat) := ("best_hours", 13, 2) :: fs13
def G14 : Tab := fun i => if i = 13 then some m_best_hours else G13 i
/-- 14 check_plan: 0=plan 1=reason 2=own -/
def N_check_plan : List Str := ["plan", "reason", "own"]
def s_check_plan_0 : MS := (.ite (.or (.not (.isi (.v 0) .tuple)) (.or (.cmp .ne (.b1 .len (.v 0)) (.c (.int 2))) (.not (.b1 .all (.lc [2] (.n 2) 0 [(.v 0)] [] (.call 3 [(.v 2)])))))) [(.rai 2 (.v 1))] [])
def b_check_plan : List MS := [s_check_plan_0]
def m_check_plan : Sem := runDef G14 2 3 b_check_plan
theorem h_check_plan : trS N_check_plan fs14 cs xs tw 60 (defScope (topS 25)) (fun _ => true) (defBody (topS 25)) = b_check_plan := by kernel_rfl
theorem c_check_plan : ∀ as env, ev G14 (.call 3 as) env = (evs G14 as env).bind (D.callC m_is_money) := fun _ _ => D.ev_call _ _ _ _ _ rfl
theorem r_check_plan (w0 w1 : W) : m_check_plan [w0, w1] = D.give 2 (exs G14 b_check_plan ([some w0, some w1, none])) := D.run_all rfl (by decide +kernel)
theorem sc_check_plan : FnScope N_check_plan ["plan", "reason"] (defScope (topS 25)) := ⟨rfl, rfl, rfl, by decide +kernel, rfl, by decide +kernel, by decide +kernel⟩
abbrev fs15 : List (Str × Nat × Nat) := ("check_plan", 14, 2) :: fs14
def G15 : Tab := fun i => if i = 14 then some m_check_plan else G14 i
/-- 15 even_from: 0=one 1=other -/
def N_even_from : List Str := ["one", "other"]
def s_even_from_0 : MS := (.exp (.call 14 [(.v 0), (.c (.str (PySem.Str.ofString "one")))]))
def s_even_from_1 : MS := (.exp (.call 14 [(.v 1), (.c (.str (PySem.Str.ofString "other")))]))
def s_even_from_2 : MS := (.ite (.or (.cmp .gt (.sub (.v 0) (.c (.int 1))) (.sub (.v 1) (.c (.int 1)))) (.and (.cmp .eq (.sub (.v 0) (.c (.int 1))) (.sub (.v 1) (.c (.int 1)))) (.cmp .gt (.sub (.v 0) (.c (.int 0))) (.sub (.v 1) (.c (.int 0)))))) [(.ret (.c .none))] [])
def s_even_from_3 : MS := (.ite (.cmp .le (.sub (.v 0) (.c (.int 0))) (.sub (.v 1) (.c (.int 0)))) [(.ret (.c (.int 0)))] [])
def s_even_from_4 : MS := (.ret (.neg (.bin .fdiv (.neg (.bin .sub (.sub (.v 0) (.c (.int 0))) (.sub (.v 1) (.c (.int 0))))) (.bin .sub (.sub (.v 1) (.c (.int 1))) (.sub (.v 0) (.c (.int 1)))))))
def b_even_from : List MS := [s_even_from_0, s_even_from_1, s_even_from_2, s_even_from_3, s_even_from_4]
def m_even_from : Sem := runDef G15 2 2 b_even_from
theorem h_even_from : trS N_even_from fs15 cs xs tw 60 (defScope (topS 26)) (fun _ => true) (defBody (topS 26)) = b_even_from := by kernel_rfl
theorem c_even_from : ∀ as env, ev G15 (.call 14 as) env = (evs G15 as env).bind (D.callC m_check_plan) := fun _ _ => D.ev_call _ _ _ _ _ rfl
theorem r_even_from (w0 w1 : W) : m_even_from [w0, w1] = D.give 2 (exs G15 b_even_from ([some w0, some w1])) := D.run_all rfl (by decide +kernel)
theorem sc_even_from : FnScope N_even_from ["one", "other"] (defScope (topS 26)) := ⟨rfl, rfl, rfl, by decide +kernel, rfl, by decide +kernel, by decide +kernel⟩
abbrev fs16 : List (Str × Nat × Nat) := ("even_from", 15, 2) :: fs15
def G16 : Tab := fun i => if i = 15 then some m_even_from else G15 i
/-- 16 first_less: 0=plan 1=other 2=ahead 3=gap 4=step -/
def N_first_less : List Str := ["plan", "other", "ahead", "gap", "step"]
def s_first_less_0 : MS := (.ite (.cmp .ge (.sub (.v 0) (.c (.int 1))) (.sub (.v 1) (.c (.int 1)))) [(.ret (.c .none))] [])
def s_first_less_1 : MS := (.par [3] [(.bin .sub (.sub (.v 0) (.c (.int 0))) (.sub (.v 1) (.c (.int 0))))])
def s_first_less_2 : MS := (.par [4] [(.bin .sub (.sub (.v 1) (.c (.int 1))) (.sub (.v 0) (.c (.int 1))))])
def s_first_less_3 : MS := (.ret (.ife (.v 2) (.b2 .max (.c (.int 0)) (.neg (.bin .fdiv (.neg (.v 3)) (.v 4)))) (.b2 .max (.c (.int 0)) (.bin .add (.bin .fdiv (.v 3) (.v 4)) (.c (.int 1))))))
def b_first_less : List MS := [s_first_less_0, s_first_less_1, s_first_less_2, s_first_less_3]
def m_first_less : Sem := runDef G16 3 5 b_first_less
theorem h_first_less : trS N_first_less fs16 cs xs tw 60 (defScope (topS 28)) (fun _ => true) (defBody (topS 28)) = b_first_less := by kernel_rfl
theorem r_first_less (w0 w1 w2 : W) : m_first_less [w0, w1, w2] = D.give 3 (exs G16 b_first_less ([some w0, some w1, some w2, none, none])) := D.run_all rfl (by decide +kernel)
theorem sc_first_less : FnScope N_first_less ["plan", "other", "ahead"] (defScope (topS 28)) := ⟨rfl, rfl, rfl, by decide +kernel, rfl, by decide +kernel, by decide +kernel⟩
abbrev fs17 : List (Str × Nat × Nat) := ("first_less", 16, 3) :: fs16
def G17 : Tab := fun i => if i = 16 then some m_first_less else G16 i
/-- 17 best_plans: 0=plans 1=plan 2=best 3=found 4=rows 5=first 6=costs 7=here 8=own 9=at 10=hours -/
def N_best_plans : List Str := ["plans", "plan", "best", "found", "rows", "first", "costs", "here", "own", "at", "hours"]
def f_best_plans_0 : List MS := [(.exp (.call 14 [(.v 1), (.c (.str (PySem.Str.ofString "plans")))]))]
def f_best_plans_1 : List MS := [(.par [10] [(.call 16 [(.v 1), (.sub (.v 0) (.v 8)), (.cmp .lt (.v 9) (.v 8))])]), (.ite (.and (.cmp .notN (.v 10) (.c .none)) (.cmp .gt (.v 10) (.v 7))) [(.exp (.app 4 (.tup [(.v 10), (.v 9)])))] [])]
def f_best_plans_2_0 : MS := (.asg (.t [(.n 7), (.n 8)]) (.sub (.v 3) (.neg (.c (.int 1)))))
def f_best_plans_2_1 : MS := (.par [4] [(.lst [])])
def f_best_plans_2_2 : MS := (.for_ (.t [(.n 9), (.n 1)]) 4 [(.v 0)] f_best_plans_1)
def f_best_plans_2_3 : MS := (.ite (.not (.v 4)) [(.ret (.b1 .tuple (.v 3)))] [])
def f_best_plans_2_4 : MS := (.par [5] [(.sub (.b1 .min (.v 4)) (.c (.int 0)))])
def f_best_plans_2_5 : MS := (.par [6] [(.lc [9, 1] (.t [(.n 9), (.n 1)]) 4 [(.v 0)] [] (.tup [(.bin .add (.sub (.v 1) (.c (.int 0))) (.bin .mul (.sub (.v 1) (.c (.int 1))) (.v 5))), (.v 9)]))])
def f_best_plans_2_6 : MS := (.exp (.app 3 (.tup [(.v 5), (.sub (.b1 .min (.v 6)) (.c (.int 1)))])))
def f_best_plans_2 : List MS := [f_best_plans_2_0, f_best_plans_2_1, f_best_plans_2_2, f_best_plans_2_3, f_best_plans_2_4, f_best_plans_2_5, f_best_plans_2_6]
def s_best_plans_0 : MS := (.ite (.or (.not (.isi (.v 0) .tuple)) (.not (.chn .le .le (.c (.int 1)) (.b1 .len (.v 0)) (.c (.int 60))))) [(.rai 2 (.c (.str (PySem.Str.ofString "plans"))))] [])
def s_best_plans_1 : MS := (.for_ (.n 1) 0 [(.v 0)] f_best_plans_0)
def s_best_plans_2 : MS := (.par [2] [(.sub (.b1 .min (.lc [9, 1] (.t [(.n 9), (.n 1)]) 4 [(.v 0)] [] (.tup [(.sub (.v 1) (.c (.int 0))), (.v 9)]))) (.c (.int 1)))])
def s_best_plans_3 : MS := (.par [3] [(.lst [(.tup [(.c (.int 0)), (.v 2)])])])
def s_best_plans_4 : MS := (.whl (.c (.bool true)) f_best_plans_2)
def b_best_plans : List MS := [s_best_plans_0, s_best_plans_1, s_best_plans_2, s_best_plans_3, s_best_plans_4]
def m_best_plans : Sem := runDef G17 1 11 b_best_plans
theorem h_best_plans : trS N_best_plans fs17 cs xs tw 60 (defScope (topS 27)) (fun _ => true) (defBody (topS 27)) = b_best_plans := by kernel_rfl
theorem c_best_plans : (∀ as env, ev G17 (.call 14 as) env = (evs G17 as env).bind (D.callC m_check_plan)) ∧ (∀ as env, ev G17 (.call 16 as) env = (evs G17 as env).bind (D.callC m_first_less)) :=
  ⟨fun _ _ => D.ev_call _ _ _ _ _ rfl, fun _ _ => D.ev_call _ _ _ _ _ rfl⟩
theorem r_best_plans (w0 : W) : m_best_plans [w0] = D.give 1 (exs G17 b_best_plans ([some w0, none, none, none, none, none, none, none, none, none, none])) := D.run_all rfl (by decide +kernel)
theorem sc_best_plans : FnScope N_best_plans ["plans"] (defScope (topS 27)) := ⟨rfl, rfl, rfl, by decide +kernel, rfl, by decide +kernel, by decide +kernel⟩
abbrev fs18 : List (Str × Nat × Nat) := ("best_plans", 17, 1) :: fs17
def G18 : Tab := fun i => if i = 17 then some m_best_plans else G17 i
/-- 18 check_shifts: 0=shifts 1=last 2=row 3=own -/
def N_check_shifts : List Str := ["shifts", "last", "row", "own"]
def f_check_shifts_0 : List MS := [(.ite (.or (.not (.isi (.v 2) .tuple)) (.or (.cmp .ne (.b1 .len (.v 2)) (.c (.int 3))) (.not (.b1 .all (.lc [3] (.n 3) 0 [(.v 2)] [] (.call 2 [(.v 3)])))))) [(.rai 2 (.c (.str (PySem.Str.ofString "shifts"))))] []), (.ite (.or (.not (.ch3 .le .lt .le (.v 1) (.sub (.v 2) (.c (.int 0))) (.sub (.v 2) (.c (.int 1))) (.c (.int 24)))) (.not (.chn .le .le (.c (.int 0)) (.sub (.v 2) (.c (.int 2))) (.c (.int 1000))))) [(.rai 2 (.c (.str (PySem.Str.ofString "shifts"))))] []), (.par [1] [(.sub (.v 2) (.c (.int 1)))])]
def s_check_shifts_0 : MS := (.ite (.or (.not (.isi (.v 0) .tuple)) (.cmp .gt (.b1 .len (.v 0)) (.c (.int 6)))) [(.rai 2 (.c (.str (PySem.Str.ofString "shifts"))))] [])
def s_check_shifts_1 : MS := (.par [1] [(.c (.int 0))])
def s_check_shifts_2 : MS := (.for_ (.n 2) 0 [(.v 0)] f_check_shifts_0)
def b_check_shifts : List MS := [s_check_shifts_0, s_check_shifts_1, s_check_shifts_2]
def m_check_shifts : Sem := runDef G18 1 4 b_check_shifts
theorem h_check_shifts : trS N_check_shifts fs18 cs xs tw 60 (defScope (topS 29)) (fun _ => true) (defBody (topS 29)) = b_check_shifts := by kernel_rfl
theorem c_check_shifts : ∀ as env, ev G18 (.call 2 as) env = (evs G18 as env).bind (D.callC m_is_integer) := fun _ _ => D.ev_call _ _ _ _ _ rfl
theorem r_check_shifts (w0 : W) : m_check_shifts [w0] = D.give 1 (exs G18 b_check_shifts ([some w0, none, none, none])) := D.run_all rfl (by decide +kernel)
theorem sc_check_shifts : FnScope N_check_shifts ["shifts"] (defScope (topS 29)) := ⟨rfl, rfl, rfl, by decide +kernel, rfl, by decide +kernel, by decide +kernel⟩
abbrev fs19 : List (Str × Nat × Nat) := ("check_shifts", 18, 1) :: fs18
def G19 : Tab := fun i => if i = 18 then some m_check_shifts else G18 i
/-- 19 more_at: 0=shifts 1=hour 2=begin 3=end 4=more -/
def N_more_at : List Str := ["shifts", "hour", "begin", "end", "more"]
def f_more_at_0 : List MS := [(.ite (.chn .le .lt (.v 2) (.bin .mod (.v 1) (.c (.int 24))) (.v 3)) [(.ret (.v 4))] [])]
def s_more_at_0 : MS := (.for_ (.t [(.n 2), (.n 3), (.n 4)]) 0 [(.v 0)] f_more_at_0)
def s_more_at_1 : MS := (.ret (.c (.int 0)))
def b_more_at : List MS := [s_more_at_0, s_more_at_1]
def m_more_at : Sem := runDef G19 2 5 b_more_at
theorem h_more_at : trS N_more_at fs19 cs xs tw 60 (defScope (topS 30)) (fun _ => true) (defBody (topS 30)) = b_more_at := by kernel_rfl
theorem r_more_at (w0 w1 : W) : m_more_at [w0, w1] = D.give 2 (exs G19 b_more_at ([some w0, some w1, none, none, none])) := D.run_all rfl (by decide +kernel)
theorem sc_more_at : FnScope N_more_at ["shifts", "hour"] (defScope (topS 30)) := ⟨rfl, rfl, rfl, by decide +kernel, rfl, by decide +kernel, by decide +kernel⟩
abbrev fs20 : List (Str × Nat × Nat) := ("more_at", 19, 2) :: fs19
def G20 : Tab := fun i => if i = 19 then some m_more_at else G19 i
/-- 20 shift_cost: 0=shifts 1=price 2=begin 3=many 4=at -/
def N_shift_cost : List Str := ["shifts", "price", "begin", "many", "at"]
def s_shift_cost_0 : MS := (.exp (.call 18 [(.v 0)]))
def s_shift_cost_1 : MS := (.ite (.not (.call 3 [(.v 1)])) [(.rai 2 (.c (.str (PySem.Str.ofString "price"))))] [])
def s_shift_cost_2 : MS := (.ite (.or (.not (.call 2 [(.v 2)])) (.not (.chn .le .le (.c (.int 0)) (.v 2) (.c (.int 120))))) [(.rai 2 (.c (.str (PySem.Str.ofString "begin"))))] [])
def s_shift_cost_3 : MS := (.ite (.or (.not (.call 2 [(.v 3)])) (.not (.chn .le .le (.c (.int 0)) (.v 3) (.c (.int 120))))) [(.rai 2 (.c (.str (PySem.Str.ofString "many"))))] [])
def s_shift_cost_4 : MS := (.ret (.b1 .sum (.lc [4] (.n 4) 1 [(.v 3)] [] (.bin .mul (.v 1) (.bin .add (.c (.int 100)) (.call 19 [(.v 0), (.bin .add (.v 2) (.v 4))]))))))
def b_shift_cost : List MS := [s_shift_cost_0, s_shift_cost_1, s_shift_cost_2, s_shift_cost_3, s_shift_cost_4]
def m_shift_cost : Sem := runDef G20 4 5 b_shift_cost
theorem h_shift_cost : trS N_shift_cost fs20 cs xs tw 60 (defScope (topS 31)) (fun _ => true) (defBody (topS 31)) = b_shift_cost := by kernel_rfl
theorem c_shift_cost : (∀ as env, ev G20 (.call 2 as) env = (evs G20 as env).bind (D.callC m_is_integer)) ∧ (∀ as env, ev G20 (.call 3 as) env = (evs G20 as env).bind (D.callC m_is_money)) ∧ (∀ as env, ev G20 (.call 18 as) env = (evs G20 as env).bind (D.callC m_check_shifts)) ∧ (∀ as env, ev G20 (.call 19 as) env = (evs G20 as env).bind (D.callC m_more_at)) :=
  ⟨fun _ _ => D.ev_call _ _ _ _ _ rfl, fun _ _ => D.ev_call _ _ _ _ _ rfl, fun _ _ => D.ev_call _ _ _ _ _ rfl, fun _ _ => D.ev_call _ _ _ _ _ rfl⟩
theorem r_shift_cost (w0 w1 w2 w3 : W) : m_shift_cost [w0, w1, w2, w3] = D.give 4 (exs G20 b_shift_cost ([some w0, some w1, some w2, some w3, none])) := D.run_all rfl (by decide +kernel)
theorem sc_shift_cost : FnScope N_shift_cost ["shifts", "price", "begin", "many"] (defScope (topS 31)) := ⟨rfl, rfl, rfl, by decide +kernel, rfl, by decide +kernel, by decide +kernel⟩
abbrev fs21 : List (Str × Nat × Nat) := ("shift_cost", 20, 4) :: fs20
def G21 : Tab := fun i => if i = 20 then some m_shift_cost else G20 i
/-- 21 cheapest_begin: 0=shifts 1=price 2=many 3=last 4=costs 5=begin -/
def N_cheapest_begin : List Str := ["shifts", "price", "many", "last", "costs", "begin"]
def s_cheapest_begin_0 : MS := (.exp (.call 18 [(.v 0)]))
def s_cheapest_begin_1 : MS := (.ite (.not (.call 3 [(.v 1)])) [(.rai 2 (.c (.str (PySem.Str.ofString "price"))))] [])
def s_cheapest_begin_2 : MS := (.ite (.or (.not (.call 2 [(.v 2)])) (.not (.chn .le .le (.c (.int 0)) (.v 2) (.c (.int 120))))) [(.rai 2 (.c (.str (PySem.Str.ofString "many"))))] [])
def s_cheapest_begin_3 : MS := (.ite (.or (.not (.call 2 [(.v 3)])) (.not (.chn .le .le (.c (.int 0)) (.v 3) (.c (.int 120))))) [(.rai 2 (.c (.str (PySem.Str.ofString "last"))))] [])
def s_cheapest_begin_4 : MS := (.par [4] [(.lc [5] (.n 5) 1 [(.bin .add (.b2 .min (.v 3) (.c (.int 23))) (.c (.int 1)))] [] (.call 20 [(.v 0), (.v 1), (.v 5), (.v 2)]))])
def s_cheapest_begin_5 : MS := (.ret (.tup [(.b1 .min (.v 4)), (.idx 4 (.b1 .min (.v 4)))]))
def b_cheapest_begin : List MS := [s_cheapest_begin_0, s_cheapest_begin_1, s_cheapest_begin_2, s_cheapest_begin_3, s_cheapest_begin_4, s_cheapest_begin_5]
def m_cheapest_begin : Sem := runDef G21 4 6 b_cheapest_begin
theorem h_cheapest_begin : trS N_cheapest_begin fs21 cs xs tw 60 (defScope (topS 32)) (fun _ => true) (defBody (topS 32)) = b_cheapest_begin := by kernel_rfl
theorem c_cheapest_begin : (∀ as env, ev G21 (.call 2 as) env = (evs G21 as env).bind (D.callC m_is_integer)) ∧ (∀ as env, ev G21 (.call 3 as) env = (evs G21 as env).bind (D.callC m_is_money)) ∧ (∀ as env, ev G21 (.call 18 as) env = (evs G21 as env).bind (D.callC m_check_shifts)) ∧ (∀ as env, ev G21 (.call 20 as) env = (evs G21 as env).bind (D.callC m_shift_cost)) :=
  ⟨fun _ _ => D.ev_call _ _ _ _ _ rfl, fun _ _ => D.ev_call _ _ _ _ _ rfl, fun _ _ => D.ev_call _ _ _ _ _ rfl, fun _ _ => D.ev_call _ _ _ _ _ rfl⟩
theorem r_cheapest_begin (w0 w1 w2 w3 : W) : m_cheapest_begin [w0, w1, w2, w3] = D.give 4 (exs G21 b_cheapest_begin ([some w0, some w1, some w2, some w3, none, none])) := D.run_all rfl (by decide +kernel)
theorem sc_cheapest_begin : FnScope N_cheapest_begin ["shifts", "price", "many", "last"] (defScope (topS 32)) := ⟨rfl, rfl, rfl, by decide +kernel, rfl, by decide +kernel, by decide +kernel⟩
abbrev fs22 : List (Str × Nat × Nat) := ("cheapest_begin", 21, 4) :: fs21
def G22 : Tab := fun i => if i = 21 then some m_cheapest_begin else G21 i
/-- 22 _law_told: 0=which 1=a 2=b 3=c 4=d 5=error 6=found -/
def N_law_told : List Str := ["which", "a", "b", "c", "d", "error", "found"]
def f_law_told_0 : List MS := [(.ite (.cmp .eq (.v 0) (.c (.int 0))) [(.ret (.ife (.cmp .isN (.call 7 [(.v 1), (.v 2), (.v 3), (.v 4)]) (.c .none)) (.c .none) (.c (.str (PySem.Str.ofString "value")))))] [(.ite (.cmp .eq (.v 0) (.c (.int 1))) [(.ret (.ife (.cmp .isN (.call 10 [(.v 1), (.v 2), (.v 3), (.v 4)]) (.c .none)) (.c .none) (.c (.str (PySem.Str.ofString "value")))))] [(.ite (.cmp .eq (.v 0) (.c (.int 2))) [(.exp (.call 8 [(.v 1), (.v 3), (.v 2)]))] [(.ite (.cmp .eq (.v 0) (.c (.int 3))) [(.exp (.call 12 [(.v 1), (.v 2)]))] [(.ite (.cmp .eq (.v 0) (.c (.int 4))) [(.exp (.call 13 [(.v 1), (.v 2)]))] [(.ite (.cmp .eq (.v 0) (.c (.int 5))) [(.exp (.call 15 [(.v 1), (.v 2)]))] [(.ite (.cmp .eq (.v 0) (.c (.int 6))) [(.exp (.call 17 [(.v 1)]))] [(.ite (.cmp .eq (.v 0) (.c (.int 7))) [(.exp (.call 20 [(.v 1), (.v 2), (.v 3), (.v 4)]))] [(.exp (.call 21 [(.v 1), (.v 2), (.v 3), (.v 4)]))])])])])])])])])]
def s_law_told_0 : MS := (.tryf false f_law_told_0)
def s_law_told_1 : MS := (.ret (.c .none))
def b_law_told : List MS := [s_law_told_0, s_law_told_1]
def m_law_told : Sem := runDef G22 5 7 b_law_told
theorem h_law_told : trS N_law_told fs22 cs xs tw 60 (defScope (topS 38)) (fun _ => true) (defBody (topS 38)) = b_law_told := by kernel_rfl
theorem c_law_told : (∀ as env, ev G22 (.call 7 as) env = (evs G22 as env).bind (D.callC m_accept_hours)) ∧ (∀ as env, ev G22 (.call 8 as) env = (evs G22 as env).bind (D.callC m_machine_cost)) ∧ (∀ as env, ev G22 (.call 10 as) env = (evs G22 as env).bind (D.callC m_accept_costs)) ∧ (∀ as env, ev G22 (.call 12 as) env = (evs G22 as env).bind (D.callC m_least_costs)) ∧ (∀ as env, ev G22 (.call 13 as) env = (evs G22 as env).bind (D.callC m_best_hours)) ∧ (∀ as env, ev G22 (.call 15 as) env = (evs G22 as env).bind (D.callC m_even_from)) ∧ (∀ as env, ev G22 (.call 17 as) env = (evs G22 as env).bind (D.callC m_best_plans)) ∧ (∀ as env, ev G22 (.call 20 as) env = (evs G22 as env).bind (D.callC m_shift_cost)) ∧ (∀ as env, ev G22 (.call 21 as) env = (evs G22 as env).bind (D.callC m_cheapest_begin)) :=
  ⟨fun _ _ => D.ev_call _ _ _ _ _ rfl, fun _ _ => D.ev_call _ _ _ _ _ rfl, fun _ _ => D.ev_call _ _ _ _ _ rfl, fun _ _ => D.ev_call _ _ _ _ _ rfl, fun _ _ => D.ev_call _ _ _ _ _ rfl, fun _ _ => D.ev_call _ _ _ _ _ rfl, fun _ _ => D.ev_call _ _ _ _ _ rfl, fun _ _ => D.ev_call _ _ _ _ _ rfl, fun _ _ => D.ev_call _ _ _ _ _ rfl⟩
theorem r_law_told (w0 w1 w2 w3 w4 : W) : m_law_told [w0, w1, w2, w3, w4] = D.give 5 (exs G22 b_law_told ([some w0, some w1, some w2, some w3, some w4, none, none])) := D.run_all rfl (by decide +kernel)
theorem sc_law_told : FnScope N_law_told ["which", "a", "b", "c", "d"] (defScope (topS 38)) := ⟨rfl, rfl, rfl, by decide +kernel, rfl, by decide +kernel, by decide +kernel⟩
abbrev fs23 : List (Str × Nat × Nat) := ("_law_told", 22, 5) :: fs22
def G23 : Tab := fun i => if i = 22 then some m_law_told else G22 i
/-- 23 _law_cost: 0=machine 1=hours -/
def N_law_cost : List Str := ["machine", "hours"]
def s_law_cost_0 : MS := (.ite (.cmp .isN (.v 1) (.c .none)) [(.ret (.c (.int 0)))] [])
def s_law_cost_1 : MS := (.ret (.ife (.cmp .gt (.v 1) (.sub (.v 0) (.c (.int 3)))) (.c .none) (.bin .add (.sub (.v 0) (.c (.int 0))) (.bin .mul (.b1 .max (.lst [(.c (.int 0)), (.bin .sub (.v 1) (.sub (.v 0) (.c (.int 1))))])) (.sub (.v 0) (.c (.int 2)))))))
def b_law_cost : List MS := [s_law_cost_0, s_law_cost_1]
def m_law_cost : Sem := runDef G23 2 2 b_law_cost
theorem h_law_cost : trS N_law_cost fs23 cs xs tw 60 (defScope (topS 39)) (fun _ => true) (defBody (topS 39)) = b_law_cost := by kernel_rfl
theorem r_law_cost (w0 w1 : W) : m_law_cost [w0, w1] = D.give 2 (exs G23 b_law_cost ([some w0, some w1])) := D.run_all rfl (by decide +kernel)
theorem sc_law_cost : FnScope N_law_cost ["machine", "hours"] (defScope (topS 39)) := ⟨rfl, rfl, rfl, by decide +kernel, rfl, by decide +kernel, by decide +kernel⟩
abbrev fs24 : List (Str × Nat × Nat) := ("_law_cost", 23, 2) :: fs23
def G24 : Tab := fun i => if i = 23 then some m_law_cost else G23 i
/-- 24 _law_next: 0=row 1=machine 2=found 3=hours 4=ways 5=own -/
def N_law_next : List Str := ["row", "machine", "found", "hours", "ways", "own"]
def f_law_next_0 : List MS := [(.par [4] [(.bin .add (.lst [(.sub (.v 0) (.v 3))]) (.lc [5] (.n 5) 1 [(.bin .add (.b1 .min (.lst [(.v 3), (.sub (.v 1) (.c (.int 3)))])) (.c (.int 1)))] [] (.ife (.cmp .notN (.sub (.v 0) (.bin .sub (.v 3) (.v 5))) (.c .none)) (.bin .add (.sub (.v 0) (.bin .sub (.v 3) (.v 5))) (.call 23 [(.v 1), (.v 5)])) (.c .none))))]), (.par [4] [(.lc [5] (.n 5) 0 [(.v 4)] [(.cmp .notN (.v 5) (.c .none))] (.v 5))]), (.exp (.app 2 (.ife (.v 4) (.b1 .min (.v 4)) (.c .none))))]
def s_law_next_0 : MS := (.par [2] [(.lst [])])
def s_law_next_1 : MS := (.for_ (.n 3) 1 [(.b1 .len (.v 0))] f_law_next_0)
def s_law_next_2 : MS := (.ret (.b1 .tuple (.v 2)))
def b_law_next : List MS := [s_law_next_0, s_law_next_1, s_law_next_2]
def m_law_next : Sem := runDef G24 2 6 b_law_next
theorem h_law_next : trS N_law_next fs24 cs xs tw 60 (defScope (topS 40)) (fun _ => true) (defBody (topS 40)) = b_law_next := by kernel_rfl
theorem c_law_next : ∀ as env, ev G24 (.call 23 as) env = (evs G24 as env).bind (D.callC m_law_cost) := fun _ _ => D.ev_call _ _ _ _ _ rfl
theorem r_law_next (w0 w1 : W) : m_law_next [w0, w1] = D.give 2 (exs G24 b_law_next ([some w0, some w1, none, none, none, none])) := D.run_all rfl (by decide +kernel)
theorem sc_law_next : FnScope N_law_next ["row", "machine"] (defScope (topS 40)) := ⟨rfl, rfl, rfl, by decide +kernel, rfl, by decide +kernel, by decide +kernel⟩
abbrev fs25 : List (Str × Nat × Nat) := ("_law_next", 24, 2) :: fs24
def G25 : Tab := fun i => if i = 24 then some m_law_next else G24 i
/-- 25 _law_whole: 0=value -/
def N_law_whole : List Str := ["value"]
def s_law_whole_0 : MS := (.ret (.and (.isi (.v 0) .int) (.not (.isi (.v 0) .bool))))
def b_law_whole : List MS := [s_law_whole_0]
def m_law_whole : Sem := runDef G25 1 1 b_law_whole
theorem h_law_whole : trS N_law_whole fs25 cs xs tw 60 (defScope (topS 36)) (fun _ => true) (defBody (topS 36)) = b_law_whole := by kernel_rfl
theorem r_law_whole (w0 : W) : m_law_whole [w0] = D.give 1 (exs G25 b_law_whole ([some w0])) := D.run_all rfl (by decide +kernel)
theorem sc_law_whole : FnScope N_law_whole ["value"] (defScope (topS 36)) := ⟨rfl, rfl, rfl, by decide +kernel, rfl, by decide +kernel, by decide +kernel⟩
abbrev fs26 : List (Str × Nat × Nat) := ("_law_whole", 25, 1) :: fs25
def G26 : Tab := fun i => if i = 25 then some m_law_whole else G25 i
/-- 26 _law_costs_due: 0=machines 1=hours 2=table 3=cost 4=k 5=last 6=due 7=j 8=row 9=own -/
def N_law_costs_due : List Str := ["machines", "hours", "table", "cost", "k", "last", "due", "j", "row", "own"]
def f_law_costs_due_0 : List MS := [(.par [6] [(.call 24 [(.sub (.v 2) (.v 4)), (.sub (.v 0) (.v 4))])]), (.ite (.lc [7] (.n 7) 1 [(.bin .add (.v 1) (.c (.int 1)))] [(.and (.cmp .notN (.sub (.v 6) (.v 7)) (.c .none)) (.or (.cmp .isN (.sub (.sub (.v 2) (.bin .add (.v 4) (.c (.int 1)))) (.v 7)) (.c .none)) (.cmp .gt (.sub (.sub (.v 2) (.bin .add (.v 4) (.c (.int 1)))) (.v 7)) (.sub (.v 6) (.v 7)))))] (.v 7)) [(.ret (.c (.str (PySem.Str.ofString "row"))))] [])]
def s_law_costs_due_0 : MS := (.ite (.or (.not (.isi (.v 2) .tuple)) (.or (.cmp .ne (.b1 .len (.v 2)) (.bin .add (.b1 .len (.v 0)) (.c (.int 1)))) (.and (.cmp .notN (.v 3) (.c .none)) (.not (.call 25 [(.v 3)]))))) [(.ret (.c (.str (PySem.Str.ofString "form"))))] [])
def s_law_costs_due_1 : MS := (.ite (.not (.b1 .all (.lc [8] (.n 8) 0 [(.v 2)] [] (.and (.isi (.v 8) .tuple) (.and (.cmp .eq (.b1 .len (.v 8)) (.bin .add (.v 1) (.c (.int 1)))) (.b1 .all (.lc [9] (.n 9) 0 [(.v 8)] [] (.or (.cmp .isN (.v 9) (.c .none)) (.call 25 [(.v 9)]))))))))) [(.ret (.c (.str (PySem.Str.ofString "form"))))] [])
def s_law_costs_due_2 : MS := (.ite (.or (.cmp .isN (.sub (.sub (.v 2) (.c (.int 0))) (.c (.int 0))) (.c .none)) (.cmp .gt (.sub (.sub (.v 2) (.c (.int 0))) (.c (.int 0))) (.c (.int 0)))) [(.ret (.c (.str (PySem.Str.ofString "begin"))))] [])
def s_law_costs_due_3 : MS := (.for_ (.n 4) 1 [(.b1 .len (.v 0))] f_law_costs_due_0)
def s_law_costs_due_4 : MS := (.par [5] [(.sub (.sub (.v 2) (.neg (.c (.int 1)))) (.v 1))])
def s_law_costs_due_5 : MS := (.ret (.ife (.and (.cmp .notN (.v 5) (.c .none)) (.or (.cmp .isN (.v 3) (.c .none)) (.cmp .lt (.v 5) (.v 3)))) (.c (.str (PySem.Str.ofString "cost"))) (.c .none)))
def b_law_costs_due : List MS := [s_law_costs_due_0, s_law_costs_due_1, s_law_costs_due_2, s_law_costs_due_3, s_law_costs_due_4, s_law_costs_due_5]
def m_law_costs_due : Sem := runDef G26 4 10 b_law_costs_due
theorem h_law_costs_due : trS N_law_costs_due fs26 cs xs tw 60 (defScope (topS 42)) (fun _ => true) (defBody (topS 42)) = b_law_costs_due := by kernel_rfl
theorem c_law_costs_due : (∀ as env, ev G26 (.call 24 as) env = (evs G26 as env).bind (D.callC m_law_next)) ∧ (∀ as env, ev G26 (.call 25 as) env = (evs G26 as env).bind (D.callC m_law_whole)) :=
  ⟨fun _ _ => D.ev_call _ _ _ _ _ rfl, fun _ _ => D.ev_call _ _ _ _ _ rfl⟩
theorem r_law_costs_due (w0 w1 w2 w3 : W) : m_law_costs_due [w0, w1, w2, w3] = D.give 4 (exs G26 b_law_costs_due ([some w0, some w1, some w2, some w3, none, none, none, none, none, none])) := D.run_all rfl (by decide +kernel)
theorem sc_law_costs_due : FnScope N_law_costs_due ["machines", "hours", "table", "cost"] (defScope (topS 42)) := ⟨rfl, rfl, rfl, by decide +kernel, rfl, by decide +kernel, by decide +kernel⟩
abbrev fs27 : List (Str × Nat × Nat) := ("_law_costs_due", 26, 4) :: fs26
def G27 : Tab := fun i => if i = 26 then some m_law_costs_due else G26 i
/-- 27 _law_hours_due: 0=machines 1=hours 2=rows 3=cost 4=costs 5=k 6=own -/
def N_law_hours_due : List Str := ["machines", "hours", "rows", "cost", "costs", "k", "own"]
def s_law_hours_due_0 : MS := (.ite (.or (.not (.isi (.v 2) .tuple)) (.or (.cmp .ne (.b1 .len (.v 2)) (.b1 .len (.v 0))) (.or (.not (.call 25 [(.v 3)])) (.not (.b1 .all (.lc [6] (.n 6) 0 [(.v 2)] [] (.or (.cmp .isN (.v 6) (.c .none)) (.and (.call 25 [(.v 6)]) (.cmp .ge (.v 6) (.c (.int 0))))))))))) [(.ret (.c (.str (PySem.Str.ofString "form"))))] [])
def s_law_hours_due_1 : MS := (.par [4] [(.lc [5] (.n 5) 1 [(.b1 .len (.v 2))] [] (.call 23 [(.sub (.v 0) (.v 5)), (.sub (.v 2) (.v 5))]))])
def s_law_hours_due_2 : MS := (.ite (.cmp .inn (.c .none) (.v 4)) [(.ret (.c (.str (PySem.Str.ofString "most"))))] [])
def s_law_hours_due_3 : MS := (.ite (.cmp .ne (.b1 .sum (.lc [6] (.n 6) 0 [(.v 2)] [(.cmp .notN (.v 6) (.c .none))] (.v 6))) (.v 1)) [(.ret (.c (.str (PySem.Str.ofString "hours"))))] [])
def s_law_hours_due_4 : MS := (.ret (.ife (.cmp .gt (.b1 .sum (.v 4)) (.v 3)) (.c (.str (PySem.Str.ofString "cost"))) (.c .none)))
def b_law_hours_due : List MS := [s_law_hours_due_0, s_law_hours_due_1, s_law_hours_due_2, s_law_hours_due_3, s_law_hours_due_4]
def m_law_hours_due : Sem := runDef G27 4 7 b_law_hours_due
theorem h_law_hours_due : trS N_law_hours_due fs27 cs xs tw 60 (defScope (topS 41)) (fun _ => true) (defBody (topS 41)) = b_law_hours_due := by kernel_rfl
theorem c_law_hours_due : (∀ as env, ev G27 (.call 23 as) env = (evs G27 as env).bind (D.callC m_law_cost)) ∧ (∀ as env, ev G27 (.call 25 as) env = (evs G27 as env).bind (D.callC m_law_whole)) :=
  ⟨fun _ _ => D.ev_call _ _ _ _ _ rfl, fun _ _ => D.ev_call _ _ _ _ _ rfl⟩
theorem r_law_hours_due (w0 w1 w2 w3 : W) : m_law_hours_due [w0, w1, w2, w3] = D.give 4 (exs G27 b_law_hours_due ([some w0, some w1, some w2, some w3, none, none, none])) := D.run_all rfl (by decide +kernel)
theorem sc_law_hours_due : FnScope N_law_hours_due ["machines", "hours", "rows", "cost"] (defScope (topS 41)) := ⟨rfl, rfl, rfl, by decide +kernel, rfl, by decide +kernel, by decide +kernel⟩
abbrev fs28 : List (Str × Nat × Nat) := ("_law_hours_due", 27, 4) :: fs27
def G28 : Tab := fun i => if i = 27 then some m_law_hours_due else G27 i
/-- 28 _law_bent: 0=state 1=value 2=deep 3=at -/
def N_law_bent : List Str := ["state", "value", "deep", "at"]
def s_law_bent_0 : MS := (.ite (.or (.not (.isi (.v 1) .tuple)) (.or (.not (.v 1)) (.cmp .eq (.v 2) (.c (.int 0))))) [(.ite (.and (.call 25 [(.v 1)]) (.cmp .gt (.call 1 [(.v 0), (.c (.int 5))]) (.c (.int 0)))) [(.ret (.bin .add (.v 1) (.sub (.lst [(.c (.int 1)), (.neg (.c (.int 1))), (.c (.int 1)), (.neg (.c (.int 1))), (.c (.int 2)), (.neg (.c (.int 7)))]) (.call 1 [(.v 0), (.c (.int 6))]))))] []), (.ret (.sub (.lst [(.c .none), (.c (.bool true)), (.c (.str (PySem.Str.ofString "0"))), (.neg (.c (.int 1))), (.c (.int 0)), (.tup []), (.tup [(.c (.int 0))]), (.bin .pow (.c (.int 10)) (.c (.int 30)))]) (.call 1 [(.v 0), (.c (.int 8))])))] [])
def s_law_bent_1 : MS := (.par [3] [(.call 1 [(.v 0), (.b1 .len (.v 1))])])
def s_law_bent_2 : MS := (.ite (.cmp .eq (.call 1 [(.v 0), (.c (.int 10))]) (.c (.int 0))) [(.ret (.sub (.lst [(.bin .add (.slc (.v 1) none (some (.v 3))) (.slc (.v 1) (some (.bin .add (.v 3) (.c (.int 1)))) none)), (.bin .add (.v 1) (.slc (.v 1) (some (.v 3)) (some (.bin .add (.v 3) (.c (.int 1)))))), (.rev (.v 1)), (.c .none), (.c (.str (PySem.Str.ofString "none")))]) (.call 1 [(.v 0), (.c (.int 5))])))] [])
def s_law_bent_3 : MS := (.ret (.bin .add (.bin .add (.slc (.v 1) none (some (.v 3))) (.tup [(.call 28 [(.v 0), (.sub (.v 1) (.v 3)), (.bin .sub (.v 2) (.c (.int 1)))])])) (.slc (.v 1) (some (.bin .add (.v 3) (.c (.int 1)))) none)))
def b_law_bent : List MS := [s_law_bent_0, s_law_bent_1, s_law_bent_2, s_law_bent_3]
def m_law_bent : Sem := recS G28 28 3 4 b_law_bent 8
theorem h_law_bent : trS N_law_bent (("_law_bent", 28, 3) :: fs28) cs xs tw 60 (defScope (topS 37)) (fun _ => true) (defBody (topS 37)) = b_law_bent := by kernel_rfl
theorem sc_law_bent : FnScope N_law_bent ["state", "value", "deep"] (defScope (topS 37)) := ⟨rfl, rfl, rfl, by decide +kernel, rfl, by decide +kernel, by decide +kernel⟩
abbrev fs29 : List (Str × Nat × Nat) := ("_law_bent", 28, 3) :: fs28
def G29 : Tab := fun i => if i = 28 then some m_law_bent else G28 i
/-- 29 law: 0=script 1=state 2=turn 3=great 4=machines 5=k 6=table 7=machine 8=bad 9=low 10=plan 11=odd 12=told 13=most 14=hours 15=right 16=least 17=last 18=rows 19=cost 20=shares 21=paid 22=left 23=own 24=which 25=j -/
def N_law : List Str := ["script", "state", "turn", "great", "machines", "k", "table", "machine", "bad", "low", "plan", "odd", "told", "most", "hours", "right", "least", "last", "rows", "cost", "shares", "paid", "left", "own", "which", "j"]
def f_law_0 : List MS := [(.par [13] [(.call 1 [(.v 1), (.ife (.v 3) (.c (.int 21)) (.c (.int 6)))])]), (.exp (.app 4 (.tup [(.call 1 [(.v 1), (.c (.int 9))]), (.call 1 [(.v 1), (.bin .add (.v 13) (.c (.int 1)))]), (.call 1 [(.v 1), (.c (.int 5))]), (.v 13)])))]
def f_law_1 : List MS := [(.exp (.app 6 (.call 24 [(.sub (.v 6) (.neg (.c (.int 1)))), (.v 7)])))]
def f_law_2 : List MS := [(.par [23] [(.sub (.lst [(.c .none), (.b1 .min (.lst [(.v 22), (.sub (.v 7) (.c (.int 3)))])), (.b1 .min (.lst [(.v 22), (.sub (.v 7) (.c (.int 3)))])), (.call 1 [(.v 1), (.bin .add (.sub (.v 7) (.c (.int 3))) (.c (.int 1)))])]) (.call 1 [(.v 1), (.c (.int 4))]))]), (.exp (.app 20 (.v 23))), (.par [22] [(.ife (.cmp .ge (.v 22) (.or (.v 23) (.c (.int 0)))) (.bin .sub (.v 22) (.or (.v 23) (.c (.int 0)))) (.c (.int 0)))])]
def f_law_3_0 : MS := (.par [17] [(.bin .add (.slc (.sub (.v 15) (.neg (.c (.int 1)))) none (some (.neg (.c (.int 1))))) (.tup [(.ife (.cmp .isN (.v 16) (.c .none)) (.c .none) (.bin .add (.v 16) (.c (.int 1))))]))])
def f_law_3_1 : MS := (.par [18] [(.sub (.lst [(.v 15), (.v 15), (.bin .add (.slc (.v 15) none (some (.neg (.c (.int 1))))) (.tup [(.v 17)])), (.slc (.v 15) none (some (.neg (.c (.int 1))))), (.call 28 [(.v 1), (.v 15), (.c (.int 2))]), (.bin .add (.tup [(.bin .add (.tup [(.c (.int 1))]) (.slc (.sub (.v 15) (.c (.int 0))) (some (.c (.int 1))) none))]) (.slc (.v 15) (some (.c (.int 1))) none)), (.bin .add (.slc (.v 15) none (some (.neg (.c (.int 1))))) (.tup [(.bin .add (.slc (.sub (.v 15) (.neg (.c (.int 1)))) none (some (.neg (.c (.int 1))))) (.tup [(.c (.int 7))]))])), (.c .none)]) (.call 1 [(.v 1), (.c (.int 8))]))])
def f_law_3_2 : MS := (.par [19] [(.sub (.lst [(.v 16), (.v 16), (.c .none), (.bin .add (.or (.v 16) (.c (.int 0))) (.c (.int 1))), (.bin .sub (.or (.v 16) (.c (.int 0))) (.c (.int 1))), (.c (.bool true))]) (.call 1 [(.v 1), (.c (.int 6))]))])
def f_law_3_3 : MS := (.ite (.cmp .ne (.call 22 [(.c (.int 1)), (.v 4), (.v 14), (.v 18), (.v 19)]) (.call 26 [(.v 4), (.v 14), (.v 18), (.v 19)])) [(.ret (.c (.bool false)))] [])
def f_law_3_4 : MS := (.par [22, 20] [(.v 14), (.lst [])])
def f_law_3_5 : MS := (.for_ (.n 7) 0 [(.v 4)] f_law_2)
def f_law_3_6 : MS := (.par [20] [(.b1 .tuple (.v 20))])
def f_law_3_7 : MS := (.par [18] [(.sub (.lst [(.v 20), (.v 20), (.slc (.v 20) none (some (.neg (.c (.int 1))))), (.call 28 [(.v 1), (.v 20), (.c (.int 1))]), (.bin .add (.slc (.v 20) none (some (.neg (.c (.int 1))))) (.tup [(.bin .add (.sub (.sub (.v 4) (.neg (.c (.int 1)))) (.c (.int 3))) (.c (.int 1)))])), (.c .none)]) (.call 1 [(.v 1), (.c (.int 6))]))])
def f_law_3_8 : MS := (.par [21] [(.b1 .sum (.lc [25] (.n 25) 1 [(.b1 .len (.v 20))] [] (.call 23 [(.sub (.v 4) (.v 25)), (.sub (.v 20) (.v 25))])))])
def f_law_3_9 : MS := (.par [19] [(.sub (.lst [(.v 21), (.v 21), (.bin .sub (.v 21) (.c (.int 1))), (.bin .add (.v 21) (.c (.int 1))), (.c .none), (.c (.bool true))]) (.call 1 [(.v 1), (.c (.int 6))]))])
def f_law_3_10 : MS := (.ite (.cmp .ne (.call 22 [(.c (.int 0)), (.v 4), (.v 14), (.v 18), (.v 19)]) (.call 27 [(.v 4), (.v 14), (.v 18), (.v 19)])) [(.ret (.c (.bool false)))] [])
def f_law_3 : List MS := [f_law_3_0, f_law_3_1, f_law_3_2, f_law_3_3, f_law_3_4, f_law_3_5, f_law_3_6, f_law_3_7, f_law_3_8, f_law_3_9, f_law_3_10]
def f_law_4_0 : MS := (.par [3] [(.cmp .eq (.call 1 [(.v 1), (.c (.int 6))]) (.c (.int 0)))])
def f_law_4_1 : MS := (.par [4] [(.lst [])])
def f_law_4_2 : MS := (.for_ (.n 5) 1 [(.ife (.v 3) (.c (.int 6)) (.bin .add (.c (.int 1)) (.call 1 [(.v 1), (.c (.int 3))])))] f_law_0)
def f_law_4_3 : MS := (.par [4, 14] [(.b1 .tuple (.v 4)), (.ife (.v 3) (.bin .add (.c (.int 30)) (.call 1 [(.v 1), (.c (.int 20))])) (.call 1 [(.v 1), (.c (.int 7))]))])
def f_law_4_4 : MS := (.par [6] [(.lst [(.bin .add (.tup [(.c (.int 0))]) (.bin .mul (.tup [(.c .none)]) (.v 14)))])])
def f_law_4_5 : MS := (.for_ (.n 7) 0 [(.v 4)] f_law_1)
def f_law_4_6 : MS := (.par [15, 16] [(.b1 .tuple (.v 6)), (.sub (.sub (.v 6) (.neg (.c (.int 1)))) (.v 14))])
def f_law_4_7 : MS := (.for_ (.n 5) 1 [(.ife (.not (.v 3)) (.c (.int 4)) (.c (.int 2)))] f_law_3)
def f_law_4_8 : MS := (.par [8] [(.sub (.lst [(.c .none), (.tup []), (.tup [(.tup [(.c (.int 0)), (.c (.int 0)), (.c (.int 0))])]), (.tup [(.tup [(.c (.int 0)), (.c (.int 2)), (.c (.int 0)), (.c (.int 1))])]), (.tup [(.tup [(.c (.int 0)), (.c (.int 0)), (.c (.int 0)), (.c (.int 121))])]), (.tup [(.tup [(.neg (.c (.int 1))), (.c (.int 0)), (.c (.int 0)), (.c (.int 0))])]), (.tup [(.tup [(.c (.bool true)), (.c (.int 0)), (.c (.int 0)), (.c (.int 0))])]), (.tup [(.tup [(.c (.int 0)), (.c (.int 0)), (.bin .add (.bin .pow (.c (.int 10)) (.c (.int 12))) (.c (.int 1))), (.c (.int 0))])]), (.bin .mul (.tup [(.tup [(.c (.int 0)), (.c (.int 0)), (.c (.int 0)), (.c (.int 0))])]) (.c (.int 7))), (.c (.int 5))]) (.call 1 [(.v 1), (.c (.int 10))]))])
def f_law_4_9 : MS := (.ite (.cmp .ne (.lc [24] (.n 24) 1 [(.c (.int 5))] [] (.call 22 [(.v 24), (.v 8), (.c .none), (.c .none), (.c .none)])) (.bin .mul (.lst [(.c (.str (PySem.Str.ofString "deck machines")))]) (.c (.int 5)))) [(.ret (.c (.bool false)))] [])
def f_law_4_10 : MS := (.ite (.cmp .ne (.call 22 [(.c (.int 2)), (.v 4), (.c .none), (.sub (.lst [(.c .none), (.neg (.c (.int 1))), (.b1 .len (.v 4)), (.c (.bool true)), (.c (.str (PySem.Str.ofString "0")))]) (.call 1 [(.v 1), (.c (.int 5))])), (.c .none)]) (.c (.str (PySem.Str.ofString "argument number")))) [(.ret (.c (.bool false)))] [])
def f_law_4_11 : MS := (.par [9] [(.sub (.lst [(.c .none), (.neg (.c (.int 1))), (.c (.int 121)), (.c (.bool true)), (.c (.str (PySem.Str.ofString "1")))]) (.call 1 [(.v 1), (.c (.int 5))]))])
def f_law_4_12 : MS := (.ite (.cmp .ne (.lc [24] (.n 24) 0 [(.tup [(.c (.int 0)), (.c (.int 1)), (.c (.int 3)), (.c (.int 4))])] [] (.call 22 [(.v 24), (.v 4), (.v 9), (.c .none), (.c .none)])) (.bin .mul (.lst [(.c (.str (PySem.Str.ofString "argument hours")))]) (.c (.int 4)))) [(.ret (.c (.bool false)))] [])
def f_law_4_13 : MS := (.ite (.cmp .ne (.call 22 [(.c (.int 2)), (.v 4), (.sub (.lst [(.neg (.c (.int 1))), (.c (.int 121)), (.c (.bool true)), (.c (.str (PySem.Str.ofString "1")))]) (.call 1 [(.v 1), (.c (.int 4))])), (.c (.int 0)), (.c .none)]) (.c (.str (PySem.Str.ofString "argument hours")))) [(.ret (.c (.bool false)))] [])
def f_law_4_14 : MS := (.par [10] [(.sub (.lst [(.c .none), (.tup []), (.tup [(.c (.int 1))]), (.tup [(.c (.int 1)), (.neg (.c (.int 1)))]), (.tup [(.c (.int 1)), (.c (.bool true))]), (.tup [(.bin .add (.bin .pow (.c (.int 10)) (.c (.int 12))) (.c (.int 1))), (.c (.int 0))]), (.c (.int 5)), (.tup [(.c (.int 1)), (.c (.int 2)), (.c (.int 3))])]) (.call 1 [(.v 1), (.c (.int 8))]))])
def f_law_4_15 : MS := (.ite (.or (.cmp .ne (.call 22 [(.c (.int 5)), (.v 10), (.v 10), (.c .none), (.c .none)]) (.c (.str (PySem.Str.ofString "argument one")))) (.cmp .ne (.call 22 [(.c (.int 5)), (.tup [(.c (.int 1)), (.c (.int 2))]), (.v 10), (.c .none), (.c .none)]) (.c (.str (PySem.Str.ofString "argument other"))))) [(.ret (.c (.bool false)))] [])
def f_law_4_16 : MS := (.ite (.cmp .ne (.lc [23] (.n 23) 0 [(.lst [(.c .none), (.tup []), (.tup [(.v 10)]), (.bin .mul (.tup [(.tup [(.c (.int 1)), (.c (.int 2))])]) (.c (.int 61))), (.tup [(.tup [(.c (.int 1)), (.c (.int 2))]), (.v 10)])])] [] (.call 22 [(.c (.int 6)), (.v 23), (.c .none), (.c .none), (.c .none)])) (.bin .mul (.lst [(.c (.str (PySem.Str.ofString "argument plans")))]) (.c (.int 5)))) [(.ret (.c (.bool false)))] [])
def f_law_4_17 : MS := (.par [11] [(.sub (.lst [(.c .none), (.tup [(.tup [(.c (.int 0)), (.c (.int 25)), (.c (.int 1))])]), (.tup [(.tup [(.c (.int 3)), (.c (.int 3)), (.c (.int 1))])]), (.tup [(.tup [(.c (.int 0)), (.c (.int 2)), (.neg (.c (.int 1)))])]), (.tup [(.tup [(.c (.int 0)), (.c (.int 2)), (.c (.int 1001))])]), (.tup [(.tup [(.c (.int 0)), (.c (.int 3)), (.c (.int 1))]), (.tup [(.c (.int 2)), (.c (.int 4)), (.c (.int 1))])]), (.tup [(.tup [(.c (.int 0)), (.c (.int 1))])]), (.tup [(.tup [(.c (.int 0)), (.c (.int 1)), (.c (.bool true))])]), (.tup [(.tup [(.neg (.c (.int 1))), (.c (.int 1)), (.c (.int 1))])]), (.c (.int 5))]) (.call 1 [(.v 1), (.c (.int 10))]))])
def f_law_4_18 : MS := (.ite (.cmp .ne (.lc [24] (.n 24) 0 [(.tup [(.c (.int 7)), (.c (.int 8))])] [] (.call 22 [(.v 24), (.v 11), (.c .none), (.c .none), (.c .none)])) (.bin .mul (.lst [(.c (.str (PySem.Str.ofString "argument shifts")))]) (.c (.int 2)))) [(.ret (.c (.bool false)))] [])
def f_law_4_19 : MS := (.ite (.cmp .ne (.lc [24] (.n 24) 0 [(.tup [(.c (.int 7)), (.c (.int 8))])] [] (.call 22 [(.v 24), (.tup []), (.sub (.lst [(.c .none), (.neg (.c (.int 1))), (.bin .add (.bin .pow (.c (.int 10)) (.c (.int 12))) (.c (.int 1))), (.c (.bool true))]) (.call 1 [(.v 1), (.c (.int 4))])), (.c .none), (.c .none)])) (.bin .mul (.lst [(.c (.str (PySem.Str.ofString "argument price")))]) (.c (.int 2)))) [(.ret (.c (.bool false)))] [])
def f_law_4_20 : MS := (.par [12] [(.lst [(.call 22 [(.c (.int 7)), (.tup []), (.c (.int 1)), (.v 9), (.c .none)]), (.call 22 [(.c (.int 7)), (.tup []), (.c (.int 1)), (.c (.int 0)), (.v 9)]), (.call 22 [(.c (.int 8)), (.tup []), (.c (.int 1)), (.v 9), (.c .none)]), (.call 22 [(.c (.int 8)), (.tup []), (.c (.int 1)), (.c (.int 0)), (.v 9)])])])
def f_law_4_21 : MS := (.ite (.cmp .ne (.v 12) (.lst [(.c (.str (PySem.Str.ofString "argument begin"))), (.c (.str (PySem.Str.ofString "argument many"))), (.c (.str (PySem.Str.ofString "argument many"))), (.c (.str (PySem.Str.ofString "argument last")))])) [(.ret (.c (.bool false)))] [])
def f_law_4 : List MS := [f_law_4_0, f_law_4_1, f_law_4_2, f_law_4_3, f_law_4_4, f_law_4_5, f_law_4_6, f_law_4_7, f_law_4_8, f_law_4_9, f_law_4_10, f_law_4_11, f_law_4_12, f_law_4_13, f_law_4_14, f_law_4_15, f_law_4_16, f_law_4_17, f_law_4_18, f_law_4_19, f_law_4_20, f_law_4_21]
def s_law_0 : MS := (.par [1] [(.call 0 [(.v 0)])])
def s_law_1 : MS := (.for_ (.n 2) 1 [(.c (.int 3))] f_law_4)
def s_law_2 : MS := (.ret (.c (.bool true)))
def b_law : List MS := [s_law_0, s_law_1, s_law_2]
def m_law : Sem := runDef G29 1 26 b_law
theorem h_law : trS N_law fs29 cs xs tw 60 (defScope (topS 43)) (fun _ => true) (defBody (topS 43)) = b_law := by kernel_rfl
theorem c_law : (∀ as env, ev G29 (.call 0 as) env = (evs G29 as env).bind (D.callC m_law_start)) ∧ (∀ as env, ev G29 (.call 1 as) env = (evs G29 as env).bind (D.callC m_law_draw)) ∧ (∀ as env, ev G29 (.call 22 as) env = (evs G29 as env).bind (D.callC m_law_told)) ∧ (∀ as env, ev G29 (.call 23 as) env = (evs G29 as env).bind (D.callC m_law_cost)) ∧ (∀ as env, ev G29 (.call 24 as) env = (evs G29 as env).bind (D.callC m_law_next)) ∧ (∀ as env, ev G29 (.call 26 as) env = (evs G29 as env).bind (D.callC m_law_costs_due)) ∧ (∀ as env, ev G29 (.call 27 as) env = (evs G29 as env).bind (D.callC m_law_hours_due)) ∧ (∀ as env, ev G29 (.call 28 as) env = (evs G29 as env).bind (D.callC m_law_bent)) :=
  ⟨fun _ _ => D.ev_call _ _ _ _ _ rfl, fun _ _ => D.ev_call _ _ _ _ _ rfl, fun _ _ => D.ev_call _ _ _ _ _ rfl, fun _ _ => D.ev_call _ _ _ _ _ rfl, fun _ _ => D.ev_call _ _ _ _ _ rfl, fun _ _ => D.ev_call _ _ _ _ _ rfl, fun _ _ => D.ev_call _ _ _ _ _ rfl, fun _ _ => D.ev_call _ _ _ _ _ rfl⟩
theorem r_law (w0 : W) : m_law [w0] = D.give 1 (exs G29 b_law ([some w0, none, none, none, none, none, none, none, none, none, none, none, none, none, none, none, none, none, none, none, none, none, none, none, none, none])) := D.run_all rfl (by decide +kernel)
theorem sc_law : FnScope N_law ["script"] (defScope (topS 43)) := ⟨rfl, rfl, rfl, by decide +kernel, rfl, by decide +kernel, by decide +kernel⟩
abbrev fs30 : List (Str × Nat × Nat) := ("law", 29, 1) :: fs29
def G30 : Tab := fun i => if i = 29 then some m_law else G29 i
end Ev.K57

set_option maxRecDepth 100000
/-! Ev, part DJ: walks over lists as they are. -/
namespace Ev
open PySem
namespace D
theorem lcm0 {turn : PyData → Env → Rs (Env × Option PyData)} {xs : List PyData} {env : Env} {acc : List PyData} {o : Rs (Env × List PyData)} (hg : lcGo turn xs env acc = o) (g : PyData → PyData)
    (h : ∀ x ∈ xs, turn x env = .ok (env, some (g x))) : o = .ok (env, acc ++ xs.map g) := lcm (f := id) (by rw [List.map_id]; exact hg) g h
theorem lcs0 {turn : PyData → Env → Rs (Env × Option PyData)} {xs : List PyData} {env : Env} {acc : List PyData} {o : Rs (Env × List PyData)} (hg : lcGo turn xs env acc = o) (p : PyData → Bool)
    (h : ∀ x ∈ xs, turn x env = .ok (env, if p x = true then some x else none)) : o = .ok (env, acc ++ xs.filter p) := by
  have h2 : lcGo turn (xs.map id) env acc = o := by rw [List.map_id]; exact hg
  have := lcs h2 p id h
  rwa [List.map_id] at this
theorem loop0 {turn : PyData → Env → Ou} {xs : List PyData} {env : Env} {o : Ou} (hg : forGo turn xs env = o) (I : Nat → Env → Prop) (h0 : I 0 env)
    (hs : ∀ i x e, xs[i]? = some x → I i e → ∀ (J : Env → Prop) (R : Ou → Prop), (∀ e', I (i + 1) e' → J e') → Step J R (turn x e)) : ∃ e', o = .nx e' ∧ I xs.length e' := loop (f := id) (by rw [List.map_id]; exact hg) I h0 hs
theorem loopF0 {turn : PyData → Env → Ou} {xs : List PyData} {env : Env} {o : Ou} (hg : forGo turn xs env = o) (p : PyData → Bool) (I : Env → Prop) (R : PyData → Ou → Prop) (h0 : I env)
    (hs : ∀ x ∈ xs, ∀ e, I e → ∀ (J : Env → Prop) (R' : Ou → Prop), (∀ e', p x = false → I e' → J e') → (∀ o, p x = true → R x o → R' o) → Step J R' (turn x e)) :
    (xs.find? p = none ∧ ∃ e', o = .nx e' ∧ I e') ∨ ∃ x ∈ xs, xs.find? p = some x ∧ R x o := loopF (f := id) (by rw [List.map_id]; exact hg) p I R h0 hs
theorem fil_nil {α : Type} {p : α → Bool} {xs : List α} : (xs.filter p).isEmpty = xs.all fun x => !p x := by
  induction xs with
  | nil => rfl
  | cons x xs ih =>
    rw [List.filter_cons, List.all_cons]
    cases p x
    · simpa using ih
    · rfl
/-! ### tuples of ints -/
theorem shp_tints (l : List Int) : shp (.tuple (l.map .int)) = true := by
  show ((PyData.tuple (l.map .int)).canLay0 && decide ((PyData.tuple (l.map .int)).depth ≤ 64)) = true
  have e : (PyData.tuple (l.map PyData.int)).depth = 1 := by
    show PyData.depthAll (l.map .int) + 1 = 1
    rw [ints_dep']
  rw [e]
  simp only [PyData.canLay0, ints_lay]
  rfl
theorem eqv_int (i j : Int) : PyData.eqv (.int i) (.int j) = decide (i = j) := by
  show (i == j) = _
  by_cases h : i = j <;> simp [h]
theorem eqvAll_ints : ∀ l m : List Int, PyData.eqvAll (l.map .int) (m.map .int) = decide (l = m)
  | [], [] => rfl
  | [], _ :: _ => rfl
  | _ :: _, [] => rfl
  | i :: l, j :: m => by
    show (PyData.eqv (.int i) (.int j) && PyData.eqvAll (l.map .int) (m.map .int)) = _
    rw [eqv_int, eqvAll_ints l m]
    by_cases h : i = j <;> by_cases h2 : l = m <;> simp [h, h2]
theorem eq_tints (l m : List Int) : opCmp .eq (.tuple (l.map .int)) (.tuple (m.map .int)) = some (decide (l = m)) := by
  show (if (shp _ && shp _) = true then _ else _) = _
  rw [shp_tints, shp_tints, if_pos (show (true && true) = true from rfl)]
  show some (PyData.eqvAll _ _) = _
  rw [eqvAll_ints]
theorem ne_tints (l m : List Int) : opCmp .ne (.tuple (l.map .int)) (.tuple (m.map .int)) = some (!decide (l = m)) := by
  show (if (shp _ && shp _) = true then _ else _) = _
  rw [shp_tints, shp_tints, if_pos (show (true && true) = true from rfl)]
  show some (!PyData.eqvAll _ _) = _
  rw [eqvAll_ints]
theorem any_ints (k : Int) (l : List Int) : ((l.map PyData.int).any fun z => PyData.eqv z (.int k)) = decide (k ∈ l) := by
  induction l with
  | nil => rfl
  | cons i l ih =>
    rw [List.map_cons, List.any_cons, ih, eqv_int]
    by_cases h : i = k
    · simp [h]
    · have : ¬ k = i := fun z => h z.symm
      simp [h, this]
theorem in_tints (k : Int) (l : List Int) : opCmp .inn (.int k) (.tuple (l.map .int)) = some (decide (k ∈ l)) := by
  show (if (shp _ && shp _) = true then _ else _) = _
  rw [shp_tints, if_pos (show (shp (.int k) && true) = true from rfl)]
  rw [any_ints]
theorem ints_of {xs : List PyData} (h : ∀ x ∈ xs, ∃ i : Int, x = .int i) : ∃ l : List Int, xs = l.map .int := by
  induction xs with
  | nil => exact ⟨[], rfl⟩
  | cons x xs ih =>
    obtain ⟨i, rfl⟩ := h x (by simp)
    obtain ⟨l, rfl⟩ := ih fun y hy => h y (by simp [hy])
    exact ⟨i :: l, rfl⟩
theorem eq_nil {xs : List PyData} (h : shp (.list xs) = true) : opCmp .eq (.list xs) (.list []) = some xs.isEmpty := by
  rw [cmp_eq h (show shp (.list []) = true from rfl)]
  cases xs <;> rfl
theorem eq_nil_ints {α : Type} (f : α → Int) (xs : List α) : opCmp .eq (.list (xs.map fun x => .int (f x))) (.list []) = some xs.isEmpty := by
  have e : (xs.map fun x => PyData.int (f x)) = (xs.map f).map .int := by rw [List.map_map]; rfl
  rw [e, eq_nil (shp_ints _)]
  cases xs <;> rfl
section
variable {α : Type}
def Ly (J : Env → List PyData → Prop) (ys : List PyData) : Rs (Env × Option PyData) → Prop
  | .ok (e, some y) => J e (ys ++ [y])
  | .ok (e, none) => J e ys
  | _ => False
theorem ly_s (J : Env → List PyData → Prop) (ys : List PyData) (e : Env) (y : PyData) : Ly J ys (.ok (e, some y)) = J e (ys ++ [y]) := rfl
theorem ly_n (J : Env → List PyData → Prop) (ys : List PyData) (e : Env) : Ly J ys (.ok (e, none)) = J e ys := rfl
/-- a comprehension with a choice, whose turns change what they see -/
theorem lcf {turn : PyData → Env → Rs (Env × Option PyData)} {f : α → PyData} {xs : List α} {env : Env} {o : Rs (Env × List PyData)} (hg : lcGo turn (xs.map f) env [] = o) (I : Nat → Env → List PyData → Prop) (h0 : I 0 env [])
    (hs : ∀ i x e ys, xs[i]? = some x → I i e ys → ∀ J : Env → List PyData → Prop, (∀ e' zs, I (i + 1) e' zs → J e' zs) → Ly J ys (turn (f x) e)) : ∃ e' ys, o = .ok (e', ys) ∧ I xs.length e' ys := by
  subst hg
  have key : ∀ (zs : List α) (k : Nat) (e : Env) (acc : List PyData), I k e acc → (∀ i x e ys, zs[i]? = some x → I (k + i) e ys → Ly (fun e' zs => I (k + i + 1) e' zs) ys (turn (f x) e)) → ∃ e' ys, lcGo turn (zs.map f) e acc = .ok (e', ys) ∧ I (k + zs.length) e' ys := by
    intro zs
    induction zs with
    | nil => intro k e acc i _; exact ⟨e, acc, rfl, i⟩
    | cons z zs ih =>
      intro k e acc ik st
      have h2 := st 0 z e acc rfl ik
      have go : lcGo turn ((z :: zs).map f) e acc = match turn (f z) e with | .ok (env', some y) => lcGo turn (zs.map f) env' (acc ++ [y]) | .ok (env', none) => lcGo turn (zs.map f) env' acc | _ => .bad := rfl
      have rest : ∀ e' acc', I (k + 0 + 1) e' acc' → ∃ e2 ys, lcGo turn (zs.map f) e' acc' = .ok (e2, ys) ∧ I (k + (z :: zs).length) e2 ys := by
        intro e' acc' h2
        obtain ⟨e2, ys, h3, h4⟩ := ih (k + 1) e' acc' h2 fun i x e ys hx hi => by
          have := st (i + 1) x e ys (by simpa using hx) (by rw [show k + (i + 1) = k + 1 + i by omega]; exact hi)
          rw [show k + (i + 1) + 1 = k + 1 + i + 1 by omega] at this
          exact this
        exact ⟨e2, ys, h3, by rw [List.length_cons, show k + (zs.length + 1) = k + 1 + zs.length by omega]; exact h4⟩
      cases ho : turn (f z) e with
      | ok p =>
        obtain ⟨e', q⟩ := p
        rw [go, ho]
        cases q with
        | none => rw [ho] at h2; exact rest e' acc h2
        | some y => rw [ho] at h2; exact rest e' (acc ++ [y]) h2
      | ex _ _ => rw [ho] at h2; exact h2.elim
      | bad => rw [ho] at h2; exact h2.elim
  have := key xs 0 env [] h0 fun i x e ys hx hi => by rw [Nat.zero_add] at hi ⊢; exact hs i x e ys hx hi _ fun _ _ h => h
  rw [Nat.zero_add] at this
  exact this
end
theorem exs_appD (G : Tab) : ∀ (l : List MS) {r : List MS} {e e' : Env}, exs G l e = .nx e' → exs G (l ++ r) e = exs G r e'
  | [], r, e, e', h => by cases h; rfl
  | x :: l, r, e, e', h => by
    rw [List.cons_append, exs_cons]
    rw [exs_cons] at h
    cases hx : exs1 G x e with
    | nx e1 => rw [hx] at h; exact exs_appD G l h
    | rt _ _ => rw [hx] at h; cases h
    | bk _ => rw [hx] at h; cases h
    | ct _ => rw [hx] at h; cases h
    | ex _ _ => rw [hx] at h; cases h
    | bad => rw [hx] at h; cases h
theorem sIx_m1 (n d : Nat) : HT.sIx n d (some (-1)) = n - 1 := by
  unfold HT.sIx
  simp
  try omega
theorem cut_m1 {α : Type} (xs : List α) : cut xs none (some (-1)) = xs.take (xs.length - 1) := by
  unfold cut; rw [sIx_m1, HT.sIx_none]
  simp only [List.drop_zero, Nat.sub_zero]
theorem cut_l1 {α : Type} (xs : List α) : cut xs (some (-1)) none = xs.drop (xs.length - 1) := by
  unfold cut; rw [sIx_m1, HT.sIx_none, List.take_of_length_le (by simp)]
end D
end Ev

set_option maxRecDepth 100000
namespace Ev
open PySem
namespace K57
open D (line4 lt4)
/-- what is drawn from -/
structure DS where
  s : List Int
  p : Int
  c : Nat
  d : Int
def DS.enc (x : DS) : List PyData := [.list (x.s.map .int), .int x.p, .int x.c, .int x.d]
def DS.ok (x : DS) : Prop := x.c ≤ x.s.length
def absI (i : Int) : Int := if i < 0 then -i else i
def fed (x : DS) : DS := if x.p = 0 then ⟨x.s, absI (x.s.getD x.c 0), x.c + 1, x.d⟩ else x
def drawR (x : DS) (n : Int) : Int × DS :=
  if x.p = 0 ∧ x.s.length ≤ x.c then ((((x.d * 48271 + 69621).fmod 2147483629).fdiv 13).fmod n, ⟨x.s, x.p, x.c, (x.d * 48271 + 69621).fmod 2147483629⟩)
  else ((fed x).p.fmod n, ⟨(fed x).s, (fed x).p.fdiv n, (fed x).c, (fed x).d⟩)
theorem td (s : DS) (h : s.ok) (n : Int) (hn : 0 < n) (hn2 : n < 2 ^ 64) : m_law_draw [.l s.enc, .d (.int n)] = .ok (.v (.int (drawR s n).1), [some (.l (drawR s n).2.enc), some (.d (.int n))]) := by
  refine D.go _ rfl rfl ?_
  obtain ⟨s, p, c, d⟩ := s
  have hn1 : ¬ n = 0 := by omega
  have hl := D.fin_lit hn hn2
  have hs : sml 48271 = true := rfl
  by_cases hp : p = 0
  · by_cases hc : s.length ≤ c
    · simp_arith! [b_law_draw, s_law_draw_0, s_law_draw_1, s_law_draw_2, s_law_draw_3, s_law_draw_4, DS.enc, hp, hc, hn1, hl, hs, drawR]
    · have ha : L2.atI (s.map PyData.int) (c : Int) = some (.int (s.getD c 0)) := by
        rw [D.atI_n]; simp [List.getElem?_eq_getElem (show c < s.length by omega)]
      simp_arith! [b_law_draw, s_law_draw_0, s_law_draw_1, s_law_draw_2, s_law_draw_3, s_law_draw_4, DS.enc, hp, hc, hn1, hl, hs, ha, drawR, fed, absI]
      rfl
  · simp_arith! [b_law_draw, s_law_draw_0, s_law_draw_1, s_law_draw_2, s_law_draw_3, s_law_draw_4, DS.enc, hp, hn1, hl, hs, drawR, fed]
theorem drawR_bd (s : DS) (h : s.ok) (n : Int) (hn : 0 < n) : 0 ≤ (drawR s n).1 ∧ (drawR s n).1 < n ∧ (drawR s n).2.ok := by
  obtain ⟨s, p, c, d⟩ := s
  have h : c ≤ s.length := h
  unfold drawR fed
  by_cases hp : p = 0
  · by_cases hc : s.length ≤ c
    · simp only [hp, hc, and_self, if_true]
      exact ⟨Int.fmod_nonneg_of_pos _ hn, Int.fmod_lt_of_pos _ hn, h⟩
    · simp only [hp, hc, and_false, if_true, if_false]
      exact ⟨Int.fmod_nonneg_of_pos _ hn, Int.fmod_lt_of_pos _ hn, by show c + 1 ≤ s.length; omega⟩
  · simp only [hp, false_and, if_false]
    exact ⟨Int.fmod_nonneg_of_pos _ hn, Int.fmod_lt_of_pos _ hn, h⟩
theorem tde (s : DS) (h : s.ok) (n : Nat) (hn : 0 < n) (hn2 : n ≤ 1000000000001) : ∃ (i : Nat) (s' : DS), i < n ∧ s'.ok ∧ m_law_draw [.l s.enc, .d (.int n)] = .ok (.v (.int i), [some (.l s'.enc), some (.d (.int n))]) := by
  obtain ⟨q1, q2, q3⟩ := drawR_bd s h n (by omega)
  have e := td s h n (by omega) (by omega)
  refine ⟨(drawR s n).1.toNat, (drawR s n).2, by omega, q3, ?_⟩
  rw [e, show (((drawR s n).1.toNat : Nat) : Int) = (drawR s n).1 by omega]
theorem tdc (s : DS) (h : s.ok) (n : Int) (hn : 0 < n) (hn2 : n ≤ 1000000000001) : ∃ (i : Nat) (s' : DS), (i : Int) < n ∧ s'.ok ∧ m_law_draw [.l s.enc, .d (.int n)] = .ok (.v (.int i), [some (.l s'.enc), some (.d (.int n))]) := by
  obtain ⟨q1, q2, q3⟩ := drawR_bd s h n (by omega)
  have e := td s h n (by omega) (by omega)
  refine ⟨(drawR s n).1.toNat, (drawR s n).2, by omega, q3, ?_⟩
  rw [e, show (((drawR s n).1.toNat : Nat) : Int) = (drawR s n).1 by omega]
/-- the law's begin -/
theorem t0 (ns : List Int) : ∃ s : DS, s.ok ∧ m_law_start [.r (ns.map .int)] = .ok (.n s.enc, [some (.r (ns.map .int))]) := by
  have go : ∀ (xs : List Int) (sd : Int) (x : Option W), ∃ (sd' : Int) (x' : Option W), forGo (D.forT G0 (.n 2) [(.par [1] [(.bin .add (.bin .mod (.b1 .int (.bin .add (.bin .mul (.v 1) (.c (.int 48271))) (.v 2))) (.c (.int 2147483629))) (.c (.int 1)))])]) (xs.map .int) [some (.r (ns.map .int)), some (.d (.int sd)), x] = .nx [some (.r (ns.map .int)), some (.d (.int sd')), x'] := by
    intro xs
    induction xs with
    | nil => intro sd x; exact ⟨sd, x, rfl⟩
    | cons y xs ih =>
      intro sd x
      have hs : sml 48271 = true := rfl
      obtain ⟨sd', x', e⟩ := ih ((sd * 48271 + y).fmod 2147483629 + 1) (some (.d (.int y)))
      refine ⟨sd', x', ?_⟩
      rw [← e]
      simp_arith! [D.forGo_cons, D.forS_nx, D.forT_p, hs]
  obtain ⟨sd, x, e⟩ := go ns 7 none
  refine ⟨⟨ns, 0, 0, sd⟩, Nat.zero_le _, D.go _ rfl rfl ?_⟩
  simp_arith! [b_law_start, s_law_start_0, s_law_start_1, s_law_start_2, f_law_start_0, e, D.op_nx, DS.enc]
  rfl
theorem ints_of {P : Int → Prop} : ∀ {ys : List PyData}, (∀ y ∈ ys, ∃ i, y = .int i ∧ P i) → ∃ b : List Int, ys = b.map .int ∧ ∀ r ∈ b, P r
  | [], _ => ⟨[], rfl, by simp⟩
  | y :: ys, h => by
    obtain ⟨r, rfl, hr⟩ := h y (by simp)
    obtain ⟨b, rfl, hb⟩ := ints_of (ys := ys) fun z hz => h z (by simp [hz])
    exact ⟨r :: b, rfl, by simpa using ⟨hr, hb⟩⟩
end K57
end Ev

set_option maxRecDepth 100000
namespace Ev
open PySem
namespace K57
def nd : PyData → Bool
  | .dict _ => false
  | _ => true
def isI : PyData → Bool
  | .int _ => true
  | _ => false
def wh (lo hi : Int) : PyData → Bool
  | .int i => decide (lo ≤ i) && decide (i ≤ hi)
  | _ => false
abbrev er (c : Nat) (s : String) : Rs (Rv × List (Option W)) := .ex c (.str (Str.ofString s))
abbrev S (s : String) : PyData := .str (Str.ofString s)
theorem t_isint (x : PyData) (h : nd x = true) : m_is_integer [.d x] = .ok (.v (.bool (isI x)), [some (.d x)]) := by
  rw [r_is_integer]
  cases x with
  | dict _ => cases h
  | _ => simp_arith [b_is_integer, s_is_integer_0, isI]
theorem t_whole (x : PyData) (h : nd x = true) : m_law_whole [.d x] = .ok (.v (.bool (isI x)), [some (.d x)]) := by
  rw [r_law_whole]
  cases x with
  | dict _ => cases h
  | _ => simp_arith [b_law_whole, s_law_whole_0, isI]
theorem int_i (i : Int) : m_is_integer [.d (.int i)] = .ok (.v (.bool true), [some (.d (.int i))]) := t_isint (.int i) rfl
theorem t_money (x : PyData) (h : nd x = true) : m_is_money [.d x] = .ok (.v (.bool (wh 0 1000000000000 x)), [some (.d x)]) := by
  have e := t_isint x h
  rw [r_is_money]
  cases x with
  | dict _ => cases h
  | int i =>
    by_cases c : 0 ≤ i
    · simp_arith [b_is_money, s_is_money_0, c_is_money, e, isI, wh, decide_eq_true c]
    · simp_arith [b_is_money, s_is_money_0, c_is_money, e, isI, wh, decide_eq_false c]
  | _ => simp_arith [b_is_money, s_is_money_0, c_is_money, e, isI, wh]
theorem t_hours (x : PyData) (h : nd x = true) : m_check_hours [.d x] = if wh 0 120 x = true then .ok (.v .none, [some (.d x)]) else er 2 "hours" := by
  have e := t_isint x h
  rw [r_check_hours]
  cases x with
  | dict _ => cases h
  | int i =>
    by_cases c : 0 ≤ i
    · by_cases c2 : i ≤ 120
      · simp_arith [b_check_hours, s_check_hours_0, c_check_hours, e, isI, wh, decide_eq_true c, decide_eq_true c2]
      · simp_arith [b_check_hours, s_check_hours_0, c_check_hours, e, isI, wh, decide_eq_true c, decide_eq_false c2]
    · simp_arith [b_check_hours, s_check_hours_0, c_check_hours, e, isI, wh, decide_eq_false c]
  | _ => simp_arith [b_check_hours, s_check_hours_0, c_check_hours, e, isI, wh]
theorem hours_i {i : Int} (h : 0 ≤ i ∧ i ≤ 120) : m_check_hours [.d (.int i)] = .ok (.v .none, [some (.d (.int i))]) := by
  rw [t_hours _ rfl, if_pos (by simp [wh, h])]
/-- a machine -/
structure Mc where
  r : Int
  f : Int
  p : Int
  m : Nat
def Mc.ok (c : Mc) : Prop := (0 ≤ c.r ∧ c.r ≤ 100) ∧ (0 ≤ c.f ∧ c.f ≤ c.m) ∧ (0 ≤ c.p ∧ c.p ≤ 100) ∧ c.m ≤ 100
def mD (c : Mc) : PyData := .tuple [.int c.r, .int c.f, .int c.p, .int c.m]
abbrev MT (ms : List Mc) : PyData := .tuple (ms.map mD)
def Okm (ms : List Mc) : Prop := (1 ≤ ms.length ∧ ms.length ≤ 6) ∧ ∀ c ∈ ms, c.ok
theorem as4 (a b c d : Bool) : asTr [.bool a, .bool b, .bool c, .bool d] = some [a, b, c, d] := rfl
theorem all4 (a b c d : Bool) : List.all [a, b, c, d] id = (a && (b && (c && d))) := by simp
theorem mach_ok {ms : List Mc} (h : Okm ms) : m_check_machines [.d (MT ms)] = .ok (.v .none, [some (.d (MT ms))]) := by
  obtain ⟨⟨h1, h2⟩, h3⟩ := h
  rw [r_check_machines]
  simp_arith [b_check_machines, s_check_machines_0, s_check_machines_1, decide_eq_true (show (1 : Int) ≤ ms.length by omega), decide_eq_true (show (ms.length : Int) ≤ 6 by omega)]
  generalize hg : forGo _ _ _ = o
  obtain ⟨_, rfl, z, rfl⟩ := D.loop hg (fun k e => ∃ z : Option W, e = [some (.d (MT ms)), z, none]) ⟨none, rfl⟩ (by
    rintro k c _ hk ⟨z, rfl⟩ J R hJ
    obtain ⟨⟨a1, a2⟩, ⟨b1, b2⟩, ⟨c1, c2⟩, d2⟩ := h3 c (List.mem_of_getElem? hk)
    have e1 := t_money (.int c.r) rfl
    have e2 := t_money (.int c.f) rfl
    have e3 := t_money (.int c.p) rfl
    have e4 := t_money (.int c.m) rfl
    rw [show wh 0 1000000000000 (.int c.r) = true by simp only [wh, Bool.and_eq_true, decide_eq_true_eq]; omega] at e1
    rw [show wh 0 1000000000000 (.int c.f) = true by simp only [wh, Bool.and_eq_true, decide_eq_true_eq]; omega] at e2
    rw [show wh 0 1000000000000 (.int c.p) = true by simp only [wh, Bool.and_eq_true, decide_eq_true_eq]; omega] at e3
    rw [show wh 0 1000000000000 (.int c.m) = true by simp only [wh, Bool.and_eq_true, decide_eq_true_eq]; omega] at e4
    simp_arith [f_check_machines_0, mD, c_check_machines]
    generalize hg : lcGo _ _ _ _ = o
    have ho := D.lcm0 hg (fun _ => .bool true) fun x hm => by
      simp only [List.mem_cons, List.not_mem_nil, or_false] at hm
      rcases hm with rfl | rfl | rfl | rfl
      · simp_arith [c_check_machines, e1]
      · simp_arith [c_check_machines, e2]
      · simp_arith [c_check_machines, e3]
      · simp_arith [c_check_machines, e4]
    subst ho
    simp_arith [as4, all4, decide_eq_true b2, decide_eq_true (show (c.m : Int) ≤ 120 by omega)]
    exact hJ _ ⟨_, rfl⟩)
  simp_arith [Ev.D.bind_ok]
/-! ### what machines cost -/
def pos (j : Int) : Int := if j > 0 then j else 0
theorem pos_c (j : Int) : (if j > 0 then j else 0) = pos j := rfl
def cst (c : Mc) (i : Int) : Int := c.r + pos (i - c.f) * c.p
def costO (c : Mc) : Option Int → Option Int
  | none => some 0
  | some i => if (c.m : Int) < i then none else some (cst c i)
def cD : Option Int → PyData
  | none => .none
  | some i => .int i
theorem t_cost {c : Mc} (h : c.ok) (x : Option Int) : m_cost_of [.d (mD c), .d (cD x)] = .ok (.v (cD (costO c x)), [some (.d (mD c)), some (.d (cD x))]) := by
  obtain ⟨⟨a1, a2⟩, ⟨b1, b2⟩, ⟨c1, c2⟩, d2⟩ := h
  rw [r_cost_of]
  cases x with
  | none => simp_arith [b_cost_of, s_cost_of_0, cD, costO]
  | some i =>
    by_cases q : (c.m : Int) < i
    · simp_arith [b_cost_of, s_cost_of_0, s_cost_of_1, s_cost_of_2, cD, costO, mD, decide_eq_true q, if_pos q]
    · simp_arith [b_cost_of, s_cost_of_0, s_cost_of_1, s_cost_of_2, cD, costO, mD, decide_eq_false q, if_neg q, pos_c, cst]
theorem as2 (a b : Int) : asInts [.int a, .int b] = some [a, b] := rfl
theorem mostp (y : Int) : most 0 [y] = pos y := by
  unfold most most pos
  rfl
theorem t_lcost {c : Mc} (h : c.ok) (x : Option Int) : m_law_cost [.d (mD c), .d (cD x)] = .ok (.v (cD (costO c x)), [some (.d (mD c)), some (.d (cD x))]) := by
  obtain ⟨⟨a1, a2⟩, ⟨b1, b2⟩, ⟨c1, c2⟩, d2⟩ := h
  rw [r_law_cost]
  cases x with
  | none => simp_arith [b_law_cost, s_law_cost_0, cD, costO]
  | some i =>
    by_cases q : (c.m : Int) < i
    · simp_arith [b_law_cost, s_law_cost_0, s_law_cost_1, cD, costO, mD, decide_eq_true q, if_pos q]
    · simp_arith [b_law_cost, s_law_cost_0, s_law_cost_1, cD, costO, mD, decide_eq_false q, if_neg q, as2, mostp, cst]
end K57
end Ev

set_option maxRecDepth 100000
namespace Ev
open PySem
namespace K57
abbrev RT (r : List (Option Int)) : PyData := .tuple (r.map cD)
theorem at_c {r : List (Option Int)} {k : Nat} (h : k < r.length) : L2.atI (r.map cD) (k : Int) = some (cD (r.getD k none)) := by
  rw [D.atI_map]; simp [List.getElem?_eq_getElem h, List.getD_eq_getElem?_getD]
/-- one more machine gives so much -/
def one (r : List (Option Int)) (c : Mc) (h own : Nat) : Option Int := (r.getD (h - own) none).map (· + cst c own)
def ws (r : List (Option Int)) (c : Mc) (h : Nat) : List Int := (r.getD h none).toList ++ (List.range (min h c.m + 1)).filterMap (one r c h)
def lmin : List Int → Option Int
  | [] => none
  | i :: r => some (least i r)
def nx (r : List (Option Int)) (c : Mc) : List (Option Int) := (List.range r.length).map fun h => lmin (ws r c h)
theorem nx_len (r : List (Option Int)) (c : Mc) : (nx r c).length = r.length := by simp [nx]
theorem min_x (i : Int) (r : List Int) : minX (PyData.int i :: r.map .int) = some (.v (.int (least i r))) := D.minX_ints (D.asInts_int (i :: r))
theorem min_e (i : Int) (r : List Int) : opB1 .min (.list (PyData.int i :: r.map .int)) = some (.v (.int (least i r))) := D.minX_ints (D.asInts_int (i :: r))
theorem fm_snoc (f : Nat → Option Int) (k : Nat) : (List.range (k + 1)).filterMap f = (List.range k).filterMap f ++ (f k).toList := by
  rw [List.range_succ, List.filterMap_append]
  cases h : f k <;> simp [h]
theorem min_n (h m : Nat) : (if (m : Int) < (h : Int) then (m : Int) else (h : Int)) = ((min h m : Nat) : Int) := by
  split <;> omega
set_option maxHeartbeats 2000000 in
theorem t_next {r : List (Option Int)} {c : Mc} (hc : c.ok) (hl : r.length ≤ 200) : m_next_costs [.d (.list (r.map cD)), .d (mD c)] = .ok (.n ((nx r c).map cD), [some (.d (.list (r.map cD))), some (.d (mD c))]) := by
  have hm : c.m ≤ 100 := hc.2.2.2
  have a3 : opSub (mD c) (.int 3) = some (.int c.m) := rfl
  rw [r_next_costs]
  simp_arith [b_next_costs, s_next_costs_0, s_next_costs_1]
  generalize hg : forGo _ _ _ = o
  obtain ⟨_, rfl, z3, z4, z5, rfl⟩ := D.loopR hg (fun k e => ∃ z3 z4 z5 : Option W, e = [some (.d (.list (r.map cD))), some (.d (mD c)), some (.l (((List.range k).map fun h => lmin (ws r c h)).map cD)), z3, z4, z5]) ⟨none, none, none, rfl⟩ (by
    rintro h _ hh ⟨z3, z4, z5, rfl⟩ J R hJ
    have ah := at_c hh
    have ini : ∀ (z4 : Option W), exs1 G9 (.par [4] [(.ife (.cmp .isN (.sub (.v 0) (.v 3)) (.c .none)) (.lst []) (.lst [(.sub (.v 0) (.v 3))]))]) [some (.d (.list (r.map cD))), some (.d (mD c)), some (.l (((List.range h).map fun h => lmin (ws r c h)).map cD)), some (.d (.int h)), z4, z5] = .nx [some (.d (.list (r.map cD))), some (.d (mD c)), some (.l (((List.range h).map fun h => lmin (ws r c h)).map cD)), some (.d (.int h)), some (.l ((r.getD h none).toList.map .int)), z5] := by
      intro z4
      cases hq : r.getD h none with
      | none => rw [hq] at ah; simp_arith [ah, cD]; rfl
      | some i => rw [hq] at ah; simp_arith [ah, cD]; rfl
    have hlen : ((r.getD h none).toList).length ≤ 1 := by cases r.getD h none <;> simp
    simp_arith [Ev.D.bind_ok]
    rw [show f_next_costs_1 = (.par [4] [(.ife (.cmp .isN (.sub (.v 0) (.v 3)) (.c .none)) (.lst []) (.lst [(.sub (.v 0) (.v 3))]))]) :: f_next_costs_1.tail from rfl, D.exs_cons, ini, D.seq_nx, show f_next_costs_1.tail = [(.for_ (.n 5) 1 [(.bin .add (.b2 .min (.v 3) (.sub (.v 1) (.c (.int 3)))) (.c (.int 1)))] f_next_costs_0), (.exp (.app 2 (.ife (.v 4) (.b1 .min (.v 4)) (.c .none))))] from rfl]
    have hn : ((if c.m < h then (c.m : Int) else (h : Int)) + 1).toNat = min h c.m + 1 := by split <;> omega
    simp_arith [a3, hn]
    generalize hg : forGo _ _ _ = o
    obtain ⟨_, rfl, z5, rfl⟩ := D.loopR hg (fun k e => ∃ z5 : Option W, e = [some (.d (.list (r.map cD))), some (.d (mD c)), some (.l (((List.range h).map fun h => lmin (ws r c h)).map cD)), some (.d (.int h)), some (.l (((r.getD h none).toList ++ (List.range k).filterMap (one r c h)).map .int)), z5]) ⟨_, by simp; rfl⟩ (by
      rintro own _ ho ⟨z5, rfl⟩ J R hJ
      have e1 : (h : Int) - (own : Int) = ((h - own : Nat) : Int) := by omega
      have ao := at_c (r := r) (k := h - own) (by omega)
      have ec := t_cost hc (some (own : Int))
      rw [show costO c (some (own : Int)) = some (cst c own) from if_neg (by omega)] at ec
      have ec : m_cost_of [.d (mD c), .d (.int own)] = .ok (.v (.int (cst c own)), [some (.d (mD c)), some (.d (.int own))]) := ec
      have hfl : ((r.getD h none).toList ++ (List.range own).filterMap (one r c h)).length ≤ 200 := by
        rw [List.length_append]
        have := List.length_filterMap_le (one r c h) (List.range own)
        rw [List.length_range] at this
        omega
      have hst : (r.getD h none).toList ++ (List.range (own + 1)).filterMap (one r c h) = ((r.getD h none).toList ++ (List.range own).filterMap (one r c h)) ++ (one r c h own).toList := by
        rw [fm_snoc, List.append_assoc]
      have hone : one r c h own = (r.getD (h - own) none).map (· + cst c own) := rfl
      rw [hone] at hst
      generalize (r.getD h none).toList ++ (List.range own).filterMap (one r c h) = L at *
      cases hq : r.getD (h - own) none with
      | none =>
        rw [hq] at ao hst
        simp_arith [f_next_costs_0, e1, ao, cD]
        exact hJ _ ⟨_, by rw [hst]; simp; rfl⟩
      | some i =>
        rw [hq] at ao hst
        simp_arith [f_next_costs_0, e1, ao, cD, c_next_costs, ec]
        exact hJ _ ⟨_, by rw [hst]; simp; rfl⟩)
    have hws2 : (r.getD h none).toList ++ (List.range (min h c.m + 1)).filterMap (one r c h) = ws r c h := rfl
    have fin : (((List.range (h + 1)).map fun h => lmin (ws r c h)).map cD) = (((List.range h).map fun h => lmin (ws r c h)).map cD) ++ [cD (lmin (ws r c h))] := by
      rw [List.range_succ, List.map_append, List.map_append]; rfl
    rw [hws2]
    cases hq : ws r c h with
    | nil =>
      rw [hq] at fin
      simp_arith [Ev.D.bind_ok]
      exact hJ _ ⟨_, _, _, by first | (rw [fin]; done) | (rw [fin]; rfl)⟩
    | cons i l =>
      rw [hq] at fin
      simp_arith [min_x]
      exact hJ _ ⟨_, _, _, by first | (rw [fin]; done) | (rw [fin]; rfl)⟩)
  simp_arith [s_next_costs_2]
  rfl
theorem min2n (h m : Nat) : minX [.int h, .int m] = some (.v (.int ((min h m : Nat) : Int))) := by
  have := min_x (h : Int) [(m : Int)]
  have e : least (h : Int) [(m : Int)] = ((min h m : Nat) : Int) := by
    unfold least least
    split <;> omega
  rw [e] at this
  exact this
theorem optf : ∀ O : List (Option Int), (O.filter fun o => o.isSome).map cD = (O.filterMap id).map .int
  | [] => rfl
  | none :: O => by
    rw [List.filter_cons_of_neg (by simp), List.filterMap_cons_none rfl]
    exact optf O
  | some i :: O => by
    rw [List.filter_cons_of_pos (by simp)]
    show PyData.int i :: (O.filter fun o => o.isSome).map cD = PyData.int i :: (O.filterMap id).map .int
    rw [optf O]
theorem ws_opt (r : List (Option Int)) (c : Mc) (h : Nat) : (r.getD h none :: (List.range (min h c.m + 1)).map (one r c h)).filterMap id = ws r c h := by
  unfold ws
  have : ((List.range (min h c.m + 1)).map (one r c h)).filterMap id = (List.range (min h c.m + 1)).filterMap (one r c h) := by
    rw [List.filterMap_map]; rfl
  cases hq : r.getD h none with
  | none =>
    show ((List.range (min h c.m + 1)).map (one r c h)).filterMap id = _
    rw [this]; rfl
  | some i =>
    show i :: ((List.range (min h c.m + 1)).map (one r c h)).filterMap id = i :: _
    rw [this]; rfl
set_option maxHeartbeats 2000000 in
theorem t_lnext {r : List (Option Int)} {c : Mc} (hc : c.ok) (hl : r.length ≤ 200) : m_law_next [.d (RT r), .d (mD c)] = .ok (.v (RT (nx r c)), [some (.d (RT r)), some (.d (mD c))]) := by
  have hm : c.m ≤ 100 := hc.2.2.2
  have a3 : opSub (mD c) (.int 3) = some (.int c.m) := rfl
  rw [r_law_next]
  simp_arith [b_law_next, s_law_next_0, s_law_next_1]
  generalize hg : forGo _ _ _ = o
  obtain ⟨_, rfl, z3, z4, rfl⟩ := D.loopR hg (fun k e => ∃ z3 z4 : Option W, e = [some (.d (RT r)), some (.d (mD c)), some (.l (((List.range k).map fun h => lmin (ws r c h)).map cD)), z3, z4, none]) ⟨none, none, rfl⟩ (by
    rintro h _ hh ⟨z3, z4, rfl⟩ J R hJ
    have ah := at_c hh
    have hn : (((min h c.m : Nat) : Int) + 1).toNat = min h c.m + 1 := by omega
    simp_arith [f_law_next_0, ah, a3, min2n, hn]
    generalize hg : lcGo _ _ _ _ = o
    have ho := D.lcm hg (fun own : Nat => cD (one r c h own)) fun own ho => by
      have ho := List.mem_range.mp ho
      have e1 : (h : Int) - (own : Int) = ((h - own : Nat) : Int) := by omega
      have ao := at_c (r := r) (k := h - own) (by omega)
      have ec := t_lcost hc (some (own : Int))
      rw [show costO c (some (own : Int)) = some (cst c own) from if_neg (by omega)] at ec
      have ec : m_law_cost [.d (mD c), .d (.int own)] = .ok (.v (.int (cst c own)), [some (.d (mD c)), some (.d (.int own))]) := ec
      have hone : one r c h own = (r.getD (h - own) none).map (· + cst c own) := rfl
      rw [hone]
      cases hq : r.getD (h - own) none with
      | none =>
        rw [hq] at ao
        simp_arith [e1, ao, cD, Option.map_none]
      | some i =>
        rw [hq] at ao
        simp_arith [e1, ao, cD, c_law_next, ec, Option.map_some]
    subst ho
    have hO : cD (r.getD h none) :: (List.range (min h c.m + 1)).map (fun own : Nat => cD (one r c h own)) = (r.getD h none :: (List.range (min h c.m + 1)).map (one r c h)).map cD := by
      rw [List.map_cons, List.map_map]; rfl
    have hOl : (r.getD h none :: (List.range (min h c.m + 1)).map (one r c h)).length ≤ 300 := by simp; omega
    have hmin : min h c.m ≤ 100 := by omega
    simp_arith [Ev.D.bind_ok]
    rw [hO]
    have hws := ws_opt r c h
    generalize r.getD h none :: (List.range (min h c.m + 1)).map (one r c h) = O at *
    generalize hg : lcGo _ _ _ _ = o
    have ho := D.lcs hg (fun o : Option Int => o.isSome) cD fun x hx => by
      cases x with
      | none => simp_arith [cD, Option.isSome_none]
      | some i => simp_arith [cD, Option.isSome_some]
    subst ho
    have hfl : (O.filter fun o => o.isSome).length ≤ 300 := Nat.le_trans (List.length_filter_le _ _) hOl
    have hwl : (ws r c h).length ≤ 300 := by rw [← hws]; exact Nat.le_trans (List.length_filterMap_le _ _) hOl
    have hie : (O.filter fun o => o.isSome).isEmpty = (ws r c h).isEmpty := by
      have := congrArg List.isEmpty (optf O)
      rw [hws, List.isEmpty_map, List.isEmpty_map] at this
      exact this
    simp_arith [Ev.D.bind_ok]
    rw [optf, hws, hie]
    have fin : (((List.range (h + 1)).map fun h => lmin (ws r c h)).map cD) = (((List.range h).map fun h => lmin (ws r c h)).map cD) ++ [cD (lmin (ws r c h))] := by
      rw [List.range_succ, List.map_append, List.map_append]; rfl
    cases hq : ws r c h with
    | nil =>
      rw [hq] at fin
      simp_arith [Ev.D.bind_ok]
      exact hJ _ ⟨_, _, by first | (rw [fin]; done) | (rw [fin]; rfl)⟩
    | cons i l =>
      rw [hq] at fin
      simp_arith [min_x]
      exact hJ _ ⟨_, _, by first | (rw [fin]; done) | (rw [fin]; rfl)⟩)
  simp_arith [s_law_next_2]
  rfl
end K57
end Ev

set_option maxRecDepth 100000
namespace Ev
open PySem
namespace K57
/-! ### forms -/
def cellB : PyData → Bool
  | .none => true
  | .int _ => true
  | _ => false
def rowB (n : Nat) : PyData → Bool
  | .tuple xs => decide (xs.length = n) && xs.all cellB
  | _ => false
theorem cells_of : ∀ {xs : List PyData}, xs.all cellB = true → ∃ r : List (Option Int), xs = r.map cD
  | [], _ => ⟨[], rfl⟩
  | x :: xs, h => by
    rw [List.all_cons, Bool.and_eq_true] at h
    obtain ⟨r, rfl⟩ := cells_of h.2
    cases x with
    | none => exact ⟨none :: r, rfl⟩
    | int i => exact ⟨some i :: r, rfl⟩
    | _ => cases h.1
theorem rowB_of {n : Nat} {x : PyData} (h : rowB n x = true) : ∃ r : List (Option Int), x = RT r ∧ r.length = n := by
  cases x with
  | tuple xs =>
    have h : decide (xs.length = n) = true ∧ xs.all cellB = true := by simpa only [rowB, Bool.and_eq_true] using h
    obtain ⟨r, rfl⟩ := cells_of h.2
    exact ⟨r, rfl, by simpa using of_decide_eq_true h.1⟩
  | _ => cases h
theorem rows_of {n : Nat} : ∀ {xs : List PyData}, xs.all (rowB n) = true → ∃ R : List (List (Option Int)), xs = R.map RT ∧ ∀ r ∈ R, r.length = n
  | [], _ => ⟨[], rfl, by simp⟩
  | x :: xs, h => by
    rw [List.all_cons, Bool.and_eq_true] at h
    obtain ⟨R, rfl, hR⟩ := rows_of h.2
    obtain ⟨r, rfl, hr⟩ := rowB_of h.1
    exact ⟨r :: R, rfl, by simpa using ⟨hr, hR⟩⟩
/-- what may be asked about -/
def Nd2 : PyData → Prop
  | .tuple xs => xs.length ≤ 1000 ∧ ∀ x ∈ xs, nd x = true ∧ ∀ ys, x = .tuple ys → ys.length ≤ 1000 ∧ ∀ y ∈ ys, nd y = true
  | x => nd x = true
theorem find_all {α : Type} {p : α → Bool} {xs : List α} (h : xs.find? p = none) : (xs.all fun x => !p x) = true := by
  rw [List.all_eq_true]
  intro x hx
  have := List.find?_eq_none.mp h x hx
  simpa using this
theorem find_some {α : Type} {p : α → Bool} {xs : List α} {x : α} (h : xs.find? p = some x) : (xs.all fun x => !p x) = false := by
  rw [List.all_eq_false]
  exact ⟨x, List.mem_of_find?_eq_some h, by have := List.find?_some h; simp [this]⟩
theorem all_not (xs : List PyData) (p : PyData → Bool) : (xs.all fun x => !!p x) = xs.all p := by simp
abbrev cE (ms : List Mc) (n : Nat) (x c : PyData) (z4 z5 z6 z7 z8 z9 z10 : Option W) : Env := [some (.d (MT ms)), some (.d (.int n)), some (.d x), some (.d c), z4, z5, z6, z7, z8, z9, z10]
/-- the form as the program asks -/
theorem acc_form {ms : List Mc} {n : Nat} {xs : List PyData} {c : PyData} (hx : Nd2 (.tuple xs)) : ∃ z4 : Option W, exs1 G10 s_accept_costs_3 (cE ms n (.tuple xs) c none none none none none none none) = if xs.all (rowB (n + 1)) = true then .nx (cE ms n (.tuple xs) c z4 none none none none none none) else .ex 3 (S "form") := by
  simp_arith [s_accept_costs_3]
  generalize hg : forGo _ _ _ = o
  rcases D.loopF0 hg (fun x => !rowB (n + 1) x) (fun e => ∃ z4, e = cE ms n (.tuple xs) c z4 none none none none none none) (fun _ o => o = .ex 3 (S "form")) ⟨none, rfl⟩ (by
    rintro x hm _ ⟨z4, rfl⟩ J Q hJ hQ
    obtain ⟨hnd, hx⟩ := hx.2 x hm
    cases x with
    | dict _ => cases hnd
    | tuple ys =>
      obtain ⟨hl, hy⟩ := hx ys rfl
      by_cases q : ys.length = n + 1
      · simp_arith [f_accept_costs_0, decide_eq_false (show ¬ ¬ (ys.length : Int) = (n : Int) + 1 by omega)]
        generalize hg : lcGo _ _ _ _ = o
        have ho := D.lcm0 hg (fun x => .bool (cellB x)) fun x hm => by
          have e := t_isint x (hy x hm)
          cases x with
          | dict _ => cases hy _ hm
          | _ => simp_arith [c_accept_costs, e, isI, cellB]
        subst ho
        have hr : rowB (n + 1) (.tuple ys) = ys.all cellB := by
          show (decide (ys.length = n + 1) && ys.all cellB) = _
          rw [decide_eq_true q, Bool.true_and]
        cases hq : ys.all cellB with
        | true =>
          rw [hq] at hr
          simp_arith [hq]
          exact hJ _ (by rw [hr]; rfl) ⟨_, rfl⟩
        | false =>
          rw [hq] at hr
          simp_arith [hq]
          exact hQ _ (by rw [hr]; rfl) rfl
      · have hr : rowB (n + 1) (.tuple ys) = false := by
          show (decide (ys.length = n + 1) && ys.all cellB) = _
          rw [decide_eq_false q, Bool.false_and]
        simp_arith [f_accept_costs_0, decide_eq_true (show ¬ (ys.length : Int) = (n : Int) + 1 by omega)]
        exact hQ _ (by rw [hr]; rfl) rfl
    | _ =>
      simp_arith [f_accept_costs_0]
      exact hQ _ rfl rfl) with ⟨hf, _, rfl, z4, rfl⟩ | ⟨x, hm, hf, rfl⟩
  · have := find_all hf
    rw [all_not] at this
    refine ⟨z4, ?_⟩
    rw [if_pos this]
    simp_arith [Ev.D.bind_ok]
  · have := find_some hf
    rw [all_not] at this
    refine ⟨none, ?_⟩
    rw [if_neg (by rw [this]; decide)]
    simp_arith [Ev.D.bind_ok]
/-- .. and as the law asks -/
theorem due_form {ms : List Mc} {n : Nat} {xs : List PyData} {c : PyData} (hx : Nd2 (.tuple xs)) : exs1 G26 s_law_costs_due_1 [some (.d (MT ms)), some (.d (.int n)), some (.d (.tuple xs)), some (.d c), none, none, none, none, none, none] = if xs.all (rowB (n + 1)) = true then .nx [some (.d (MT ms)), some (.d (.int n)), some (.d (.tuple xs)), some (.d c), none, none, none, none, none, none] else .rt [some (.d (MT ms)), some (.d (.int n)), some (.d (.tuple xs)), some (.d c), none, none, none, none, none, none] (.v (S "form")) := by
  simp_arith [s_law_costs_due_1]
  generalize hg : lcGo _ _ _ _ = o
  have hl1 := hx.1
  have ho := D.lcm0 hg (fun x => .bool (rowB (n + 1) x)) fun x hm => by
    obtain ⟨hnd, hx⟩ := hx.2 x hm
    cases x with
    | dict _ => cases hnd
    | tuple ys =>
      obtain ⟨hl, hy⟩ := hx ys rfl
      by_cases q : ys.length = n + 1
      · simp_arith [decide_eq_true (show (ys.length : Int) = (n : Int) + 1 by omega)]
        generalize hg : lcGo _ _ _ _ = o
        have ho := D.lcm0 hg (fun x => .bool (cellB x)) fun x hm => by
          have e := t_whole x (hy x hm)
          cases x with
          | dict _ => cases hy _ hm
          | _ => simp_arith [c_law_costs_due, e, isI, cellB]
        subst ho
        simp_arith [rowB, decide_eq_true q]
      · simp_arith [rowB, decide_eq_false q, decide_eq_false (show ¬ (ys.length : Int) = (n : Int) + 1 by omega)]
    | _ => simp_arith [rowB]
  subst ho
  cases hq : xs.all (rowB (n + 1)) <;> simp_arith [hq]
end K57
end Ev

set_option maxRecDepth 100000
namespace Ev
open PySem
namespace K57
def m0 : Mc := ⟨0, 0, 0, 0⟩
theorem at_M {ms : List Mc} {k : Nat} (h : k < ms.length) : L2.atI (ms.map mD) (k : Int) = some (mD (ms.getD k m0)) := by
  rw [D.atI_map]; simp [List.getElem?_eq_getElem h, List.getD_eq_getElem?_getD]
theorem at_R {R : List (List (Option Int))} {k : Nat} (h : k < R.length) : L2.atI (R.map RT) (k : Int) = some (RT (R.getD k [])) := by
  rw [D.atI_map]; simp [List.getElem?_eq_getElem h, List.getD_eq_getElem?_getD]
theorem getD_memM {ms : List Mc} {k : Nat} (h : k < ms.length) : ms.getD k m0 ∈ ms := by
  rw [List.getD_eq_getElem?_getD, List.getElem?_eq_getElem h]; exact List.getElem_mem _
theorem getD_memR {R : List (List (Option Int))} {k : Nat} (h : k < R.length) : R.getD k [] ∈ R := by
  rw [List.getD_eq_getElem?_getD, List.getElem?_eq_getElem h]; exact List.getElem_mem _
/-- a cell that is told too great -/
def pp : Option Int × Option Int → Bool
  | (_, none) => false
  | (none, some _) => true
  | (some t, some d) => decide (d < t)
def okRow (ms : List Mc) (R : List (List (Option Int))) (k : Nat) : Bool := ((R.getD (k + 1) []).zip (nx (R.getD k []) (ms.getD k m0))).all fun p => !pp p
def accR (qs : List (Option W)) : Nat → Rs (Rv × List (Option W))
  | 0 => .ok (.v .none, qs)
  | 1 => er 3 "form"
  | 2 => er 3 "begin"
  | 3 => er 3 "row"
  | 4 => er 3 "cost"
  | 5 => er 3 "most"
  | _ => er 3 "hours"
def dueV : Nat → PyData
  | 0 => .none
  | 1 => S "form"
  | 2 => S "begin"
  | 3 => S "row"
  | 4 => S "cost"
  | 5 => S "most"
  | _ => S "hours"
/-- the end of both -/
def endN (x : Option Int) (c : Option Int) : Nat := match x, c with
  | none, _ => 0
  | some _, none => 4
  | some i, some j => if i < j then 4 else 0
section
variable {ms : List Mc} {n : Nat} {R : List (List (Option Int))} {co : Option Int}
theorem nx_R {r : List (Option Int)} (c : Mc) {k : Nat} (h : r.length = k) : (nx r c).length = k := by rw [nx_len, h]
/-- the rows as the program goes through them -/
theorem acc_rows (hm : Okm ms) (hn : n ≤ 120) (hR : R.length = ms.length + 1) (hr : ∀ r ∈ R, r.length = n + 1) (c : PyData) (z4 : Option W) : ∃ z6 z7 z8 z9 z10 : Option W, exs1 G10 s_accept_costs_5 (cE ms n (.tuple (R.map RT)) c z4 none none none none none none) = if ((List.range ms.length).all (okRow ms R)) = true then .nx (cE ms n (.tuple (R.map RT)) c z4 none z6 z7 z8 z9 z10) else .ex 3 (S "row") := by
  have hm6 : ms.length ≤ 6 := hm.1.2
  simp_arith [s_accept_costs_5]
  generalize hg : forGo _ _ _ = o
  rcases D.loopX hg (fun k e => (∀ j < k, okRow ms R j = true) ∧ ∃ z6 z7 z8 z9 z10, e = cE ms n (.tuple (R.map RT)) c z4 none z6 z7 z8 z9 z10) (fun o => (∃ j < ms.length, okRow ms R j = false) ∧ o = .ex 3 (S "row")) ⟨fun j h => absurd h (Nat.not_lt_zero _), none, none, none, none, none, rfl⟩ (by
    rintro k ⟨mc, k'⟩ _ hk ⟨hok, z6, z7, z8, z9, z10, rfl⟩ J Q hJ hQ
    have hkm : k < ms.length := by have := (List.getElem?_eq_some_iff.mp hk).1; rwa [List.length_zipIdx] at this
    have hmc : mc = ms.getD k m0 ∧ k' = k := by
      rw [List.getElem?_zipIdx, List.getElem?_eq_getElem hkm] at hk
      simp at hk
      exact ⟨by rw [← hk.1]; simp [List.getD_eq_getElem?_getD, List.getElem?_eq_getElem hkm], hk.2.symm⟩
    obtain ⟨rfl, rfl⟩ := hmc
    have hc := hm.2 _ (getD_memM hkm)
    have a1 := at_R (R := R) (k := k') (by omega)
    have a2 := at_R (R := R) (k := k' + 1) (by omega)
    rw [show ((k' + 1 : Nat) : Int) = (k' : Int) + 1 by omega] at a2
    have l1 := hr _ (getD_memR (R := R) (k := k') (by omega))
    have l2 := hr _ (getD_memR (R := R) (k := k' + 1) (by omega))
    have e1 := t_next (r := R.getD k' []) hc (by omega)
    have hdef : okRow ms R k' = ((R.getD (k' + 1) []).zip (nx (R.getD k' []) (ms.getD k' m0))).all fun p => !pp p := rfl
    have l3 := nx_R (ms.getD k' m0) l1
    generalize ms.getD k' m0 = mc at *
    generalize R.getD k' [] = r0 at *
    generalize R.getD (k' + 1) [] = r1 at *
    generalize nx r0 mc = d at *
    simp_arith [f_accept_costs_2, a1, a2, c_accept_costs, e1]
    generalize hg : forGo _ _ _ = o
    rcases D.loopF hg pp (fun e => ∃ z9 z10, e = cE ms n (.tuple (R.map RT)) c z4 none (some (.d (.int k'))) (some (.d (mD mc))) (some (.k (d.map cD))) z9 z10) (fun _ o => o = .ex 3 (S "row")) ⟨_, _, rfl⟩ (by
      rintro ⟨t, w⟩ hm _ ⟨z9, z10, rfl⟩ J Q hJ hQ
      cases w with
      | none =>
        simp_arith [f_accept_costs_1, cD]
        exact hJ _ rfl ⟨_, _, rfl⟩
      | some w =>
        cases t with
        | none =>
          simp_arith [f_accept_costs_1, cD]
          exact hQ _ rfl rfl
        | some t =>
          by_cases q : w < t
          · simp_arith [f_accept_costs_1, cD, decide_eq_true q]
            exact hQ _ (decide_eq_true q) rfl
          · simp_arith [f_accept_costs_1, cD, decide_eq_false q]
            exact hJ _ (decide_eq_false q) ⟨_, _, rfl⟩) with ⟨hf, _, rfl, z9, z10, rfl⟩ | ⟨x, hm, hf, rfl⟩
    · have hk2 := find_all hf
      rw [← hdef] at hk2
      have op8 : ∀ (e : List PyData) (a b : Option W), opened [8] (.nx (cE ms n (.tuple (R.map RT)) c z4 none (some (.d (.int k'))) (some (.d (mD mc))) (some (.k e)) a b)) = .nx (cE ms n (.tuple (R.map RT)) c z4 none (some (.d (.int k'))) (some (.d (mD mc))) (some (.l e)) a b) := fun _ _ _ => rfl
      rw [op8]
      simp_arith [Ev.D.bind_ok]
      refine hJ _ ⟨fun j hj => ?_, _, _, _, _, _, rfl⟩
      rcases Nat.lt_succ_iff_lt_or_eq.mp hj with h | rfl
      · exact hok j h
      · exact hk2
    · have hk2 := find_some hf
      rw [← hdef] at hk2
      simp_arith [Ev.D.bind_ok]
      exact hQ _ ⟨⟨k', hkm, hk2⟩, rfl⟩) with ⟨_, rfl, hok, z6, z7, z8, z9, z10, rfl⟩ | ⟨⟨j, hj, hb⟩, rfl⟩
  · rw [List.length_zipIdx] at hok
    refine ⟨z6, z7, z8, z9, z10, ?_⟩
    rw [if_pos (List.all_eq_true.mpr fun j hj => hok j (List.mem_range.mp hj))]
    simp_arith [Ev.D.bind_ok]
  · refine ⟨none, none, none, none, none, ?_⟩
    rw [if_neg (by rw [List.all_eq_false.mpr ⟨j, List.mem_range.mpr hj, by rw [hb]; decide⟩]; decide)]
    simp_arith [Ev.D.bind_ok]
theorem zip_rng {α β : Type} {u : List α} {l : List β} (da : α) (db : β) (h : l.length = u.length) (P : α × β → Bool) : ((u.zip l).all P) = (List.range u.length).all fun k => P (u.getD k da, l.getD k db) := by
  rw [Bool.eq_iff_iff, List.all_eq_true, List.all_eq_true]
  constructor
  · intro q k hk
    have hk := List.mem_range.mp hk
    refine q _ (List.mem_iff_getElem.mpr ⟨k, by rw [List.length_zip]; omega, ?_⟩)
    rw [List.getElem_zip]
    simp [List.getD_eq_getElem?_getD, List.getElem?_eq_getElem hk, List.getElem?_eq_getElem (show k < l.length by omega)]
  · intro q x hx
    obtain ⟨k, hk, e⟩ := List.mem_iff_getElem.mp hx
    rw [List.length_zip] at hk
    rw [List.getElem_zip] at e
    have := q k (List.mem_range.mpr (by omega))
    simp [List.getD_eq_getElem?_getD, List.getElem?_eq_getElem (show k < u.length by omega), List.getElem?_eq_getElem (show k < l.length by omega)] at this
    rw [← e]; exact this
abbrev dE (ms : List Mc) (n : Nat) (x c : PyData) (z4 z5 z6 : Option W) : Env := [some (.d (MT ms)), some (.d (.int n)), some (.d x), some (.d c), z4, z5, z6, none, none, none]
/-- .. and the law -/
theorem due_rows (hm : Okm ms) (hn : n ≤ 120) (hR : R.length = ms.length + 1) (hr : ∀ r ∈ R, r.length = n + 1) (c : PyData) : ∃ z4 z6 : Option W, exs1 G26 s_law_costs_due_3 (dE ms n (.tuple (R.map RT)) c none none none) = if ((List.range ms.length).all (okRow ms R)) = true then .nx (dE ms n (.tuple (R.map RT)) c z4 none z6) else .rt (dE ms n (.tuple (R.map RT)) c z4 none z6) (.v (S "row")) := by
  have hm6 : ms.length ≤ 6 := hm.1.2
  simp_arith [s_law_costs_due_3]
  generalize hg : forGo _ _ _ = o
  rcases D.loopXR hg (fun k e => (∀ j < k, okRow ms R j = true) ∧ ∃ z4 z6, e = dE ms n (.tuple (R.map RT)) c z4 none z6) (fun o => (∃ j < ms.length, okRow ms R j = false) ∧ ∃ z4 z6, o = .rt (dE ms n (.tuple (R.map RT)) c z4 none z6) (.v (S "row"))) ⟨fun j h => absurd h (Nat.not_lt_zero _), none, none, rfl⟩ (by
    rintro k _ hk ⟨hok, z4, z6, rfl⟩ J Q hJ hQ
    have hc := hm.2 _ (getD_memM hk)
    have a0 := at_M hk
    have a1 := at_R (R := R) (k := k) (by omega)
    have a2 := at_R (R := R) (k := k + 1) (by omega)
    rw [show ((k + 1 : Nat) : Int) = (k : Int) + 1 by omega] at a2
    have l1 := hr _ (getD_memR (R := R) (k := k) (by omega))
    have l2 := hr _ (getD_memR (R := R) (k := k + 1) (by omega))
    have e1 := t_lnext (r := R.getD k []) hc (by omega)
    have l3 := nx_R (ms.getD k m0) l1
    have hdef : okRow ms R k = ((R.getD (k + 1) []).zip (nx (R.getD k []) (ms.getD k m0))).all fun p => !pp p := rfl
    rw [zip_rng none none (by omega)] at hdef
    generalize ms.getD k m0 = mc at *
    generalize R.getD k [] = r0 at *
    generalize R.getD (k + 1) [] = r1 at *
    generalize nx r0 mc = d at *
    rw [l2] at hdef
    simp_arith [f_law_costs_due_0, a0, a1, c_law_costs_due, e1]
    generalize hg : lcGo _ _ _ _ = o
    have ho := D.lcs hg (fun j : Nat => pp (r1.getD j none, d.getD j none)) (fun j => .int j) fun j hj => by
      have hj := List.mem_range.mp hj
      have b1 := at_c (r := d) (k := j) (by omega)
      have b2 := at_c (r := r1) (k := j) (by omega)
      cases q1 : d.getD j none with
      | none =>
        rw [q1] at b1
        simp_arith [b1, cD, pp]
      | some w =>
        rw [q1] at b1
        cases q2 : r1.getD j none with
        | none =>
          rw [q2] at b2
          simp_arith [b1, a2, b2, cD, pp]
        | some t =>
          rw [q2] at b2
          by_cases q : w < t
          · simp_arith [b1, a2, b2, cD, pp, decide_eq_true q]
          · simp_arith [b1, a2, b2, cD, pp, decide_eq_false q]
    subst ho
    have hf : ((List.range (n + 1)).filter fun j : Nat => pp (r1.getD j none, d.getD j none)).length ≤ 200 := Nat.le_trans (List.length_filter_le _ _) (by rw [List.length_range]; omega)
    simp_arith [D.fil_nil]
    have hdef' : okRow ms R k = (List.range (n + 1)).all fun x => !pp (r1.getD x none, d.getD x none) := hdef
    rw [← hdef']
    cases hq : okRow ms R k with
    | true =>
      simp_arith [Ev.D.bind_ok]
      refine hJ _ ⟨fun j hj => ?_, _, _, rfl⟩
      rcases Nat.lt_succ_iff_lt_or_eq.mp hj with h | rfl
      · exact hok j h
      · exact hq
    | false =>
      simp_arith [Ev.D.bind_ok]
      exact hQ _ ⟨⟨k, hk, hq⟩, _, _, rfl⟩) with ⟨_, rfl, hok, z4, z6, rfl⟩ | ⟨⟨j, hj, hb⟩, z4, z6, rfl⟩
  · refine ⟨z4, z6, ?_⟩
    rw [if_pos (List.all_eq_true.mpr fun j hj => hok j (List.mem_range.mp hj))]
    simp_arith [Ev.D.bind_ok]
  · refine ⟨z4, z6, ?_⟩
    rw [if_neg (by rw [List.all_eq_false.mpr ⟨j, List.mem_range.mpr hj, by rw [hb]; decide⟩]; decide)]
    simp_arith [Ev.D.bind_ok]
end
end K57
end Ev

set_option maxRecDepth 100000
namespace Ev
open PySem
namespace K57
variable {ms : List Mc} {n : Nat}
def Both (a d : Rs (Rv × List (Option W))) (qs : List (Option W)) : Prop := ∃ code, a = accR qs code ∧ d = .ok (.v (dueV code), qs)
theorem costD {c : PyData} (h : c = .none ∨ isI c = true) : ∃ co, c = cD co := by
  rcases h with rfl | h
  · exact ⟨none, rfl⟩
  · cases c with
    | int i => exact ⟨some i, rfl⟩
    | _ => cases h
theorem last_R (R : List (List (Option Int))) {m : Nat} (h : R.length = m + 1) : L2.atI (R.map RT) (-1) = some (RT (R.getD m [])) := by
  rw [D.atI_neg1 _ (by rw [List.length_map]; omega), List.length_map, h, Nat.add_sub_cancel, List.getElem?_map, List.getElem?_eq_getElem (by omega), List.getD_eq_getElem?_getD, List.getElem?_eq_getElem (by omega)]; rfl
set_option maxHeartbeats 4000000 in
theorem costs_both (hm : Okm ms) (hn : n ≤ 120) {x c : PyData} (hx : nd x = true) (hx2 : Nd2 x) (hc : nd c = true) :
    Both (m_accept_costs [.d (MT ms), .d (.int n), .d x, .d c]) (m_law_costs_due [.d (MT ms), .d (.int n), .d x, .d c]) [some (.d (MT ms)), some (.d (.int n)), some (.d x), some (.d c)] := by
  have hm1 : 1 ≤ ms.length := hm.1.1
  have hm6 : ms.length ≤ 6 := hm.1.2
  have e1 := mach_ok hm
  have e2 := hours_i (i := (n : Int)) (by omega)
  have ec := t_isint c hc
  have ew := t_whole c hc
  rw [r_accept_costs, r_law_costs_due]
  cases x with
  | dict _ => cases hx
  | tuple xs =>
    by_cases q : xs.length = ms.length + 1
    · have f0 := decide_eq_false (show ¬ ¬ (xs.length : Int) = (ms.length : Int) + 1 by omega)
      by_cases qc : c = .none ∨ isI c = true
      · obtain ⟨co, rfl⟩ := costD qc
        obtain ⟨z4, hf⟩ := acc_form (ms := ms) (n := n) (c := cD co) hx2
        have hd := due_form (ms := ms) (n := n) (c := cD co) hx2
        have sA : exs G10 b_accept_costs [some (.d (MT ms)), some (.d (.int n)), some (.d (.tuple xs)), some (.d (cD co)), none, none, none, none, none, none, none] = exs G10 [s_accept_costs_3, s_accept_costs_4, s_accept_costs_5, s_accept_costs_6, s_accept_costs_7] (cE ms n (.tuple xs) (cD co) none none none none none none none) := by
          cases co with
          | none => simp_arith [b_accept_costs, s_accept_costs_0, s_accept_costs_1, s_accept_costs_2, c_accept_costs, e1, e2, f0, cD]
          | some i => simp_arith [b_accept_costs, s_accept_costs_0, s_accept_costs_1, s_accept_costs_2, c_accept_costs, e1, e2, f0, cD, int_i]
        have sD : exs G26 b_law_costs_due [some (.d (MT ms)), some (.d (.int n)), some (.d (.tuple xs)), some (.d (cD co)), none, none, none, none, none, none] = exs G26 [s_law_costs_due_1, s_law_costs_due_2, s_law_costs_due_3, s_law_costs_due_4, s_law_costs_due_5] (dE ms n (.tuple xs) (cD co) none none none) := by
          cases co with
          | none => simp_arith [b_law_costs_due, s_law_costs_due_0, c_law_costs_due, f0, cD]
          | some i =>
            have ew : m_law_whole [.d (.int i)] = .ok (.v (.bool true), [some (.d (.int i))]) := ew
            simp_arith [b_law_costs_due, s_law_costs_due_0, c_law_costs_due, f0, cD, ew]
        rw [sA, sD]
        rw [D.exs_cons, hf, D.exs_cons (G := G26), show exs1 G26 s_law_costs_due_1 (dE ms n (.tuple xs) (cD co) none none none) = _ from hd]
        cases hq : xs.all (rowB (n + 1)) with
        | false =>
          refine ⟨1, ?_, ?_⟩
          · simp_arith [accR]
          · simp_arith [dueV]
        | true =>
          obtain ⟨R, rfl, hr⟩ := rows_of hq
          have hR : R.length = ms.length + 1 := by simpa using q
          have r0 := at_R (R := R) (k := 0) (by omega)
          have r0 : L2.atI (R.map RT) 0 = some (RT (R.getD 0 [])) := r0
          have l0 := hr _ (getD_memR (R := R) (k := 0) (by omega))
          have c0 := at_c (r := R.getD 0 []) (k := 0) (by omega)
          have c0 : L2.atI ((R.getD 0 []).map cD) 0 = some (cD ((R.getD 0 []).getD 0 none)) := c0
          rw [if_pos rfl, D.seq_nx, if_pos rfl, D.seq_nx]
          cases hq0 : (R.getD 0 []).getD 0 none with
          | none =>
            rw [hq0] at c0
            refine ⟨2, ?_, ?_⟩
            · simp_arith [s_accept_costs_4, r0, c0, cD, accR]
            · simp_arith [s_law_costs_due_2, r0, c0, cD, dueV]
          | some i =>
            rw [hq0] at c0
            by_cases qi : 0 < i
            · refine ⟨2, ?_, ?_⟩
              · simp_arith [s_accept_costs_4, r0, c0, cD, decide_eq_true qi, accR]
              · simp_arith [s_law_costs_due_2, r0, c0, cD, decide_eq_true qi, dueV]
            · have s4 : exs1 G10 s_accept_costs_4 (cE ms n (.tuple (R.map RT)) (cD co) z4 none none none none none none) = .nx (cE ms n (.tuple (R.map RT)) (cD co) z4 none none none none none none) := by
                simp_arith [s_accept_costs_4, r0, c0, cD, decide_eq_false qi]
              have d2 : exs1 G26 s_law_costs_due_2 (dE ms n (.tuple (R.map RT)) (cD co) none none none) = .nx (dE ms n (.tuple (R.map RT)) (cD co) none none none) := by
                simp_arith [s_law_costs_due_2, r0, c0, cD, decide_eq_false qi]
              obtain ⟨z6, z7, z8, z9, z10, ha⟩ := acc_rows hm hn hR hr (cD co) z4
              obtain ⟨y4, y6, hb⟩ := due_rows hm hn hR hr (cD co)
              rw [D.exs_cons, s4, D.seq_nx, D.exs_cons, ha, D.exs_cons (G := G26), d2, D.seq_nx, D.exs_cons (G := G26), hb]
              cases hrows : (List.range ms.length).all (okRow ms R) with
              | false =>
                refine ⟨3, ?_, ?_⟩
                · simp_arith [accR]
                · simp_arith [dueV]
              | true =>
                rw [if_pos rfl, D.seq_nx, if_pos rfl, D.seq_nx]
                have aL := last_R R hR
                have lL := hr _ (getD_memR (R := R) (k := ms.length) (by omega))
                have cL := at_c (r := R.getD ms.length []) (k := n) (by omega)
                cases hx' : (R.getD ms.length []).getD n none with
                | none =>
                  rw [hx'] at cL
                  refine ⟨0, ?_, ?_⟩
                  · simp_arith [s_accept_costs_6, s_accept_costs_7, aL, cL, cD, accR]
                  · simp_arith [s_law_costs_due_4, s_law_costs_due_5, aL, cL, cD, dueV]
                | some u =>
                  rw [hx'] at cL
                  cases co with
                  | none =>
                    refine ⟨4, ?_, ?_⟩
                    · simp_arith [s_accept_costs_6, s_accept_costs_7, aL, cL, cD, accR]
                    · simp_arith [s_law_costs_due_4, s_law_costs_due_5, aL, cL, cD, dueV]
                  | some v =>
                    by_cases quv : u < v
                    · refine ⟨4, ?_, ?_⟩
                      · simp_arith [s_accept_costs_6, s_accept_costs_7, aL, cL, cD, decide_eq_true quv, accR]
                      · simp_arith [s_law_costs_due_4, s_law_costs_due_5, aL, cL, cD, decide_eq_true quv, dueV]
                    · refine ⟨0, ?_, ?_⟩
                      · simp_arith [s_accept_costs_6, s_accept_costs_7, aL, cL, cD, decide_eq_false quv, accR]
                      · simp_arith [s_law_costs_due_4, s_law_costs_due_5, aL, cL, cD, decide_eq_false quv, dueV]
      · have ec : m_is_integer [.d c] = .ok (.v (.bool false), [some (.d c)]) := by
          rw [ec]; cases h : isI c with
          | false => rfl
          | true => exact absurd (.inr h) qc
        have ew : m_law_whole [.d c] = .ok (.v (.bool false), [some (.d c)]) := by
          rw [ew]; cases h : isI c with
          | false => rfl
          | true => exact absurd (.inr h) qc
        have nn : c ≠ .none := fun h => qc (.inl h)
        refine ⟨1, ?_, ?_⟩
        · cases c with
          | none => exact absurd rfl nn
          | dict _ => cases hc
          | _ => simp_arith [b_accept_costs, s_accept_costs_0, s_accept_costs_1, s_accept_costs_2, c_accept_costs, e1, e2, f0, ec, accR]
        · cases c with
          | none => exact absurd rfl nn
          | dict _ => cases hc
          | _ => simp_arith [b_law_costs_due, s_law_costs_due_0, c_law_costs_due, f0, ew, dueV]
    · have f1 := decide_eq_true (show ¬ (xs.length : Int) = (ms.length : Int) + 1 by omega)
      refine ⟨1, ?_, ?_⟩
      · simp_arith [b_accept_costs, s_accept_costs_0, s_accept_costs_1, s_accept_costs_2, c_accept_costs, e1, e2, f1, accR]
      · simp_arith [b_law_costs_due, s_law_costs_due_0, c_law_costs_due, f1, dueV]
  | _ =>
    refine ⟨1, ?_, ?_⟩
    · simp_arith [b_accept_costs, s_accept_costs_0, s_accept_costs_1, s_accept_costs_2, c_accept_costs, e1, e2, accR]
    · simp_arith [b_law_costs_due, s_law_costs_due_0, c_law_costs_due, dueV]
end K57
end Ev

set_option maxRecDepth 100000
namespace Ev
open PySem
namespace K57
variable {ms : List Mc} {n : Nat}
def cell0 : PyData → Bool
  | .none => true
  | .int i => decide (0 ≤ i)
  | _ => false
theorem cells0_of : ∀ {xs : List PyData}, xs.all cell0 = true → ∃ r : List (Option Int), xs = r.map cD
  | [], _ => ⟨[], rfl⟩
  | x :: xs, h => by
    rw [List.all_cons, Bool.and_eq_true] at h
    obtain ⟨r, rfl⟩ := cells0_of h.2
    cases x with
    | none => exact ⟨none :: r, rfl⟩
    | int i => exact ⟨some i :: r, rfl⟩
    | _ => cases h.1
theorem cD_lay : ∀ O : List (Option Int), PyData.canLayAll0 (O.map cD) = true ∧ PyData.depthAll (O.map cD) = 0
  | [] => ⟨by simp only [List.map_nil, PyData.canLayAll0], rfl⟩
  | o :: O => by
    obtain ⟨h1, h2⟩ := cD_lay O
    cases o with
    | none => exact ⟨by simp only [List.map_cons, cD, PyData.canLayAll0, h1, PyData.canLay0, Bool.and_self], by simp only [List.map_cons, cD, PyData.depthAll, PyData.depth, h2]; rfl⟩
    | some i => exact ⟨by simp only [List.map_cons, cD, PyData.canLayAll0, h1, PyData.canLay0, Bool.and_self], by simp only [List.map_cons, cD, PyData.depthAll, PyData.depth, h2]; rfl⟩
theorem shp_c (O : List (Option Int)) : shp (.list (O.map cD)) = true := by
  obtain ⟨h1, h2⟩ := cD_lay O
  show ((PyData.list (O.map cD)).canLay0 && decide ((PyData.list (O.map cD)).depth ≤ 64)) = true
  have e1 : (PyData.list (O.map cD)).canLay0 = true := by simp only [PyData.canLay0]; exact h1
  have e2 : (PyData.list (O.map cD)).depth = PyData.depthAll (O.map cD) + 1 := rfl
  rw [e1, e2, h2]; rfl
theorem inn_c (O : List (Option Int)) : opCmp .inn .none (.list (O.map cD)) = some (O.any fun o => o.isNone) := by
  show (if (shp .none && shp (.list (O.map cD))) = true then _ else _) = _
  rw [shp_c, if_pos (show (shp .none && true) = true from rfl)]
  congr 1
  induction O with
  | nil => rfl
  | cons o O ih =>
    rw [List.map_cons, List.any_cons, List.any_cons, ih]
    cases o <;> rfl
theorem some_of : ∀ {O : List (Option Int)}, (O.any fun o => o.isNone) = false → ∃ cs : List Int, O.map cD = cs.map .int
  | [], _ => ⟨[], rfl⟩
  | none :: O, h => by simp at h
  | some i :: O, h => by
    obtain ⟨cs, e⟩ := some_of (O := O) (by simpa using h)
    exact ⟨i :: cs, by rw [List.map_cons, e]; rfl⟩
theorem zip_map_rng {α β γ : Type} {u : List α} {l : List β} (da : α) (db : β) (h : l.length = u.length) (f : α → β → γ) : ((u.zip l).map fun p => f p.1 p.2) = (List.range u.length).map fun k => f (u.getD k da) (l.getD k db) := by
  refine List.ext_getElem (by simp [h]) fun i h1 h2 => ?_
  have hu : i < u.length := by simpa [h] using h1
  have hl : i < l.length := by omega
  simp [List.getD_eq_getElem?_getD, List.getElem?_eq_getElem hu, List.getElem?_eq_getElem hl]
def kost (ms : List Mc) (r : List (Option Int)) : List (Option Int) := (ms.zip r).map fun p => costO p.1 p.2
theorem sum_r (r : List (Option Int)) : asInts ((r.filter fun o => o.isSome).map cD) = some (r.filterMap id) := by rw [optf, D.asInts_int]
set_option maxHeartbeats 4000000 in
theorem hours_both (hm : Okm ms) (hn : n ≤ 120) {x c : PyData} (hx : nd x = true) (hx2 : ∀ xs, x = .tuple xs → xs.length ≤ 1000 ∧ ∀ y ∈ xs, nd y = true) (hc : nd c = true) :
    Both (m_accept_hours [.d (MT ms), .d (.int n), .d x, .d c]) (m_law_hours_due [.d (MT ms), .d (.int n), .d x, .d c]) [some (.d (MT ms)), some (.d (.int n)), some (.d x), some (.d c)] := by
  have hm1 : 1 ≤ ms.length := hm.1.1
  have hm6 : ms.length ≤ 6 := hm.1.2
  have e1 := mach_ok hm
  have e2 := hours_i (i := (n : Int)) (by omega)
  have ec := t_isint c hc
  have ew := t_whole c hc
  rw [r_accept_hours, r_law_hours_due]
  cases x with
  | dict _ => cases hx
  | tuple xs =>
    obtain ⟨hl, hx2⟩ := hx2 xs rfl
    by_cases q : xs.length = ms.length
    · have f0 := decide_eq_false (show ¬ ¬ (xs.length : Int) = (ms.length : Int) by omega)
      cases qc : isI c with
      | true =>
        rw [qc] at ec ew
        obtain ⟨co, rfl⟩ : ∃ i : Int, c = .int i := by cases c <;> first | exact ⟨_, rfl⟩ | cases qc
        have A0 : exs G7 b_accept_hours [some (.d (MT ms)), some (.d (.int n)), some (.d (.tuple xs)), some (.d (.int co)), none, none, none] = if xs.all cell0 = true then exs G7 [s_accept_hours_4, s_accept_hours_5, s_accept_hours_6, s_accept_hours_7] [some (.d (MT ms)), some (.d (.int n)), some (.d (.tuple xs)), some (.d (.int co)), none, none, none] else .ex 3 (S "form") := by
          simp_arith [b_accept_hours, s_accept_hours_0, s_accept_hours_1, s_accept_hours_2, s_accept_hours_3, c_accept_hours, e1, e2, f0, ec]
          generalize hg : lcGo _ _ _ _ = o
          have ho := D.lcm0 hg (fun x => .bool (cell0 x)) fun x hm => by
            have e := t_isint x (hx2 x hm)
            cases x with
            | dict _ => cases hx2 _ hm
            | int i =>
              by_cases q : 0 ≤ i
              · simp_arith [c_accept_hours, e, isI, cell0, decide_eq_true q]
              · simp_arith [c_accept_hours, e, isI, cell0, decide_eq_false q]
            | _ => simp_arith [c_accept_hours, e, isI, cell0]
          subst ho
          cases hq : xs.all cell0 <;> simp_arith [hq]
        have D0 : exs G27 b_law_hours_due [some (.d (MT ms)), some (.d (.int n)), some (.d (.tuple xs)), some (.d (.int co)), none, none, none] = if xs.all cell0 = true then exs G27 [s_law_hours_due_1, s_law_hours_due_2, s_law_hours_due_3, s_law_hours_due_4] [some (.d (MT ms)), some (.d (.int n)), some (.d (.tuple xs)), some (.d (.int co)), none, none, none] else .rt [some (.d (MT ms)), some (.d (.int n)), some (.d (.tuple xs)), some (.d (.int co)), none, none, none] (.v (S "form")) := by
          simp_arith [b_law_hours_due, s_law_hours_due_0, c_law_hours_due, f0, ew]
          generalize hg : lcGo _ _ _ _ = o
          have ho := D.lcm0 hg (fun x => .bool (cell0 x)) fun x hm => by
            have e := t_whole x (hx2 x hm)
            cases x with
            | dict _ => cases hx2 _ hm
            | int i =>
              by_cases q : 0 ≤ i
              · simp_arith [c_law_hours_due, e, isI, cell0, decide_eq_true q]
              · simp_arith [c_law_hours_due, e, isI, cell0, decide_eq_false q]
            | _ => simp_arith [c_law_hours_due, e, isI, cell0]
          subst ho
          cases hq : xs.all cell0 <;> simp_arith [hq]
        rw [A0, D0]
        cases hq : xs.all cell0 with
        | false =>
          refine ⟨1, ?_, ?_⟩
          · simp_arith [accR]
          · simp_arith [dueV]
        | true =>
          obtain ⟨r, rfl⟩ := cells0_of hq
          have hrl : r.length = ms.length := by simpa using q
          have A1 : exs1 G7 s_accept_hours_4 [some (.d (MT ms)), some (.d (.int n)), some (.d (RT r)), some (.d (.int co)), none, none, none] = .nx [some (.d (MT ms)), some (.d (.int n)), some (.d (RT r)), some (.d (.int co)), some (.l ((kost ms r).map cD)), none, none] := by
            simp_arith [s_accept_hours_4]
            generalize hg : lcGo _ _ _ _ = o
            have ho := D.lcm hg (fun p : Mc × Option Int => cD (costO p.1 p.2)) fun p hp => by
              have hc := hm.2 p.1 (List.of_mem_zip hp).1
              have e := t_cost hc p.2
              simp_arith [c_accept_hours, e]
            subst ho
            simp_arith [Ev.D.bind_ok]
            simp [kost]
          have D1 : exs1 G27 s_law_hours_due_1 [some (.d (MT ms)), some (.d (.int n)), some (.d (RT r)), some (.d (.int co)), none, none, none] = .nx [some (.d (MT ms)), some (.d (.int n)), some (.d (RT r)), some (.d (.int co)), some (.l ((kost ms r).map cD)), none, none] := by
            simp_arith [s_law_hours_due_1]
            generalize hg : lcGo _ _ _ _ = o
            have ho := D.lcm hg (fun k : Nat => cD (costO (ms.getD k m0) (r.getD k none))) fun k hk => by
              have hk := List.mem_range.mp hk
              have hc := hm.2 _ (getD_memM (ms := ms) (k := k) (by omega))
              have e := t_lcost hc (r.getD k none)
              simp_arith [c_law_hours_due, at_M (ms := ms) (k := k) (by omega), at_c hk, e]
            subst ho
            simp_arith [Ev.D.bind_ok]
            have : kost ms r = (List.range r.length).map fun k => costO (ms.getD k m0) (r.getD k none) := by
              unfold kost
              rw [zip_map_rng m0 none hrl fun a b => costO a b, hrl]
            rw [this]
            simp
          rw [if_pos rfl, if_pos rfl, D.exs_cons, A1, D.seq_nx, D.exs_cons (G := G27), D1, D.seq_nx]
          have hin := inn_c (kost ms r)
          cases hany : (kost ms r).any fun o => o.isNone with
          | true =>
            rw [hany] at hin
            refine ⟨5, ?_, ?_⟩
            · simp_arith [s_accept_hours_5, hin, accR]
            · simp_arith [s_law_hours_due_2, hin, dueV]
          | false =>
            rw [hany] at hin
            obtain ⟨cs, ecs⟩ := some_of hany
            rw [ecs] at hin ⊢
            have hfl : (r.filter fun o => o.isSome).length ≤ 1000 := Nat.le_trans (List.length_filter_le _ _) (by omega)
            have hs := sum_r r
            by_cases qs : (r.filterMap id).sum = n
            · have gs := decide_eq_false (show ¬ ¬ (r.filterMap id).sum = (n : Int) from fun h => h qs)
              have A2 : exs1 G7 s_accept_hours_6 [some (.d (MT ms)), some (.d (.int n)), some (.d (RT r)), some (.d (.int co)), some (.l (cs.map .int)), none, none] = .nx [some (.d (MT ms)), some (.d (.int n)), some (.d (RT r)), some (.d (.int co)), some (.l (cs.map .int)), none, none] := by
                simp_arith [s_accept_hours_6]
                generalize hg : lcGo _ _ _ _ = o
                have ho := D.lcs hg (fun o : Option Int => o.isSome) cD fun x hx => by
                  cases x with
                  | none => simp_arith [cD, Option.isSome_none]
                  | some i => simp_arith [cD, Option.isSome_some]
                subst ho
                simp_arith [hs, gs]
              have D2 : exs1 G27 s_law_hours_due_3 [some (.d (MT ms)), some (.d (.int n)), some (.d (RT r)), some (.d (.int co)), some (.l (cs.map .int)), none, none] = .nx [some (.d (MT ms)), some (.d (.int n)), some (.d (RT r)), some (.d (.int co)), some (.l (cs.map .int)), none, none] := by
                simp_arith [s_law_hours_due_3]
                generalize hg : lcGo _ _ _ _ = o
                have ho := D.lcs hg (fun o : Option Int => o.isSome) cD fun x hx => by
                  cases x with
                  | none => simp_arith [cD, Option.isSome_none]
                  | some i => simp_arith [cD, Option.isSome_some]
                subst ho
                simp_arith [hs, gs]
              by_cases qk : co < cs.sum
              · refine ⟨4, ?_, ?_⟩
                · simp_arith [s_accept_hours_5, hin, A2]
                  simp_arith [s_accept_hours_7, decide_eq_true qk, accR]
                · simp_arith [s_law_hours_due_2, hin, D2]
                  simp_arith [s_law_hours_due_4, decide_eq_true qk, dueV]
              · refine ⟨0, ?_, ?_⟩
                · simp_arith [s_accept_hours_5, hin, A2]
                  simp_arith [s_accept_hours_7, decide_eq_false qk, accR]
                · simp_arith [s_law_hours_due_2, hin, D2]
                  simp_arith [s_law_hours_due_4, decide_eq_false qk, dueV]
            · have gs := decide_eq_true (show ¬ (r.filterMap id).sum = (n : Int) from qs)
              refine ⟨6, ?_, ?_⟩
              · simp_arith [s_accept_hours_5, hin, s_accept_hours_6]
                generalize hg : lcGo _ _ _ _ = o
                have ho := D.lcs hg (fun o : Option Int => o.isSome) cD fun x hx => by
                  cases x with
                  | none => simp_arith [cD, Option.isSome_none]
                  | some i => simp_arith [cD, Option.isSome_some]
                subst ho
                simp_arith [hs, gs, accR]
              · simp_arith [s_law_hours_due_2, hin, s_law_hours_due_3]
                generalize hg : lcGo _ _ _ _ = o
                have ho := D.lcs hg (fun o : Option Int => o.isSome) cD fun x hx => by
                  cases x with
                  | none => simp_arith [cD, Option.isSome_none]
                  | some i => simp_arith [cD, Option.isSome_some]
                subst ho
                simp_arith [hs, gs, dueV]
      | false =>
        rw [qc] at ec ew
        refine ⟨1, ?_, ?_⟩
        · simp_arith [b_accept_hours, s_accept_hours_0, s_accept_hours_1, s_accept_hours_2, c_accept_hours, e1, e2, f0, ec, accR]
        · simp_arith [b_law_hours_due, s_law_hours_due_0, c_law_hours_due, f0, ew, dueV]
    · have f1 := decide_eq_true (show ¬ (xs.length : Int) = (ms.length : Int) by omega)
      refine ⟨1, ?_, ?_⟩
      · simp_arith [b_accept_hours, s_accept_hours_0, s_accept_hours_1, s_accept_hours_2, c_accept_hours, e1, e2, f1, accR]
      · simp_arith [b_law_hours_due, s_law_hours_due_0, c_law_hours_due, f1, dueV]
  | _ =>
    refine ⟨1, ?_, ?_⟩
    · simp_arith [b_accept_hours, s_accept_hours_0, s_accept_hours_1, s_accept_hours_2, c_accept_hours, e1, e2, accR]
    · simp_arith [b_law_hours_due, s_law_hours_due_0, c_law_hours_due, dueV]
end K57
end Ev

set_option maxRecDepth 100000
namespace Ev
open PySem
namespace K57
theorem wd3 {s : Str} (h : s.length ≤ 1000) : wordF false 3 (.str s) = some (Str.ofString "" ++ s) := if_pos h
theorem w_form : wordF false 3 (S "form") = some (Str.ofString "form") := by decide +kernel
theorem w_begin : wordF false 3 (S "begin") = some (Str.ofString "begin") := by decide +kernel
theorem w_row : wordF false 3 (S "row") = some (Str.ofString "row") := by decide +kernel
theorem w_cost : wordF false 3 (S "cost") = some (Str.ofString "cost") := by decide +kernel
theorem w_most : wordF false 3 (S "most") = some (Str.ofString "most") := by decide +kernel
theorem w_hours : wordF false 3 (S "hours") = some (Str.ofString "hours") := by decide +kernel
theorem w_mach : wordF false 1 (S "machines") = some (Str.ofString "deck machines") := by decide +kernel
theorem w_number : wordF false 2 (S "number") = some (Str.ofString "argument number") := by decide +kernel
theorem w_ahours : wordF false 2 (S "hours") = some (Str.ofString "argument hours") := by decide +kernel
theorem w_one : wordF false 2 (S "one") = some (Str.ofString "argument one") := by decide +kernel
theorem w_other : wordF false 2 (S "other") = some (Str.ofString "argument other") := by decide +kernel
theorem w_plans : wordF false 2 (S "plans") = some (Str.ofString "argument plans") := by decide +kernel
theorem w_shifts : wordF false 2 (S "shifts") = some (Str.ofString "argument shifts") := by decide +kernel
theorem w_price : wordF false 2 (S "price") = some (Str.ofString "argument price") := by decide +kernel
theorem w_abegin : wordF false 2 (S "begin") = some (Str.ofString "argument begin") := by decide +kernel
theorem w_many : wordF false 2 (S "many") = some (Str.ofString "argument many") := by decide +kernel
theorem w_last : wordF false 2 (S "last") = some (Str.ofString "argument last") := by decide +kernel
section
variable {ms : List Mc} {n : Nat}
set_option maxHeartbeats 2000000 in
theorem told0 {a b c d : PyData} {due : Rs (Rv × List (Option W))} (h : Both (m_accept_hours [.d a, .d b, .d c, .d d]) due [some (.d a), some (.d b), some (.d c), some (.d d)]) :
    ∃ code, m_law_told [.d (.int 0), .d a, .d b, .d c, .d d] = .ok (.v (dueV code), [some (.d (.int 0)), some (.d a), some (.d b), some (.d c), some (.d d)]) ∧ due = .ok (.v (dueV code), [some (.d a), some (.d b), some (.d c), some (.d d)]) := by
  obtain ⟨code, h1, h2⟩ := h
  refine ⟨code, ?_, h2⟩
  rw [r_law_told]
  match code, h1 with
  | 0, h1 => simp_arith [b_law_told, s_law_told_0, f_law_told_0, c_law_told, h1, accR, dueV]
  | 1, h1 => simp_arith [b_law_told, s_law_told_0, f_law_told_0, c_law_told, h1, accR, dueV, w_form]
  | 2, h1 => simp_arith [b_law_told, s_law_told_0, f_law_told_0, c_law_told, h1, accR, dueV, w_begin]
  | 3, h1 => simp_arith [b_law_told, s_law_told_0, f_law_told_0, c_law_told, h1, accR, dueV, w_row]
  | 4, h1 => simp_arith [b_law_told, s_law_told_0, f_law_told_0, c_law_told, h1, accR, dueV, w_cost]
  | 5, h1 => simp_arith [b_law_told, s_law_told_0, f_law_told_0, c_law_told, h1, accR, dueV, w_most]
  | n + 6, h1 => simp_arith [b_law_told, s_law_told_0, f_law_told_0, c_law_told, h1, accR, dueV, w_hours]
set_option maxHeartbeats 2000000 in
theorem told1 {a b c d : PyData} {due : Rs (Rv × List (Option W))} (h : Both (m_accept_costs [.d a, .d b, .d c, .d d]) due [some (.d a), some (.d b), some (.d c), some (.d d)]) :
    ∃ code, m_law_told [.d (.int 1), .d a, .d b, .d c, .d d] = .ok (.v (dueV code), [some (.d (.int 1)), some (.d a), some (.d b), some (.d c), some (.d d)]) ∧ due = .ok (.v (dueV code), [some (.d a), some (.d b), some (.d c), some (.d d)]) := by
  obtain ⟨code, h1, h2⟩ := h
  refine ⟨code, ?_, h2⟩
  rw [r_law_told]
  match code, h1 with
  | 0, h1 => simp_arith [b_law_told, s_law_told_0, f_law_told_0, c_law_told, h1, accR, dueV]
  | 1, h1 => simp_arith [b_law_told, s_law_told_0, f_law_told_0, c_law_told, h1, accR, dueV, w_form]
  | 2, h1 => simp_arith [b_law_told, s_law_told_0, f_law_told_0, c_law_told, h1, accR, dueV, w_begin]
  | 3, h1 => simp_arith [b_law_told, s_law_told_0, f_law_told_0, c_law_told, h1, accR, dueV, w_row]
  | 4, h1 => simp_arith [b_law_told, s_law_told_0, f_law_told_0, c_law_told, h1, accR, dueV, w_cost]
  | 5, h1 => simp_arith [b_law_told, s_law_told_0, f_law_told_0, c_law_told, h1, accR, dueV, w_most]
  | n + 6, h1 => simp_arith [b_law_told, s_law_told_0, f_law_told_0, c_law_told, h1, accR, dueV, w_hours]
theorem due_ne (code : Nat) : opCmp .ne (dueV code) (dueV code) = some false := by
  match code with
  | 0 => rfl
  | 1 => decide +kernel
  | 2 => decide +kernel
  | 3 => decide +kernel
  | 4 => decide +kernel
  | 5 => decide +kernel
  | n + 6 => exact (by decide +kernel : opCmp .ne (S "hours") (S "hours") = some false)
/-- bad machines -/
def badM : List PyData := [.none, .tuple [], .tuple [.tuple [.int 0, .int 0, .int 0]], .tuple [.tuple [.int 0, .int 2, .int 0, .int 1]], .tuple [.tuple [.int 0, .int 0, .int 0, .int 121]], .tuple [.tuple [.int (-1), .int 0, .int 0, .int 0]], .tuple [.tuple [.bool true, .int 0, .int 0, .int 0]], .tuple [.tuple [.int 0, .int 0, .int 1000000000001, .int 0]], .tuple (List.replicate 7 (.tuple [.int 0, .int 0, .int 0, .int 0])), .int 5]
end
end K57
end Ev

set_option maxRecDepth 100000
namespace Ev
open PySem
namespace K57
theorem at_in {xs : List PyData} {i : Nat} (h : i < xs.length) : ∃ y ∈ xs, L2.atI xs (i : Int) = some y := by
  refine ⟨xs[i], List.getElem_mem h, ?_⟩
  rw [D.atI_n, List.getElem?_eq_getElem h]
def plL : List PyData := [.none, .tuple [], .tuple [.int 1], .tuple [.int 1, .int (-1)], .tuple [.int 1, .bool true], .tuple [.int 1000000000001, .int 0], .int 5, .tuple [.int 1, .int 2, .int 3]]
def oddL : List PyData := [.none, .tuple [.tuple [.int 0, .int 25, .int 1]], .tuple [.tuple [.int 3, .int 3, .int 1]], .tuple [.tuple [.int 0, .int 2, .int (-1)]], .tuple [.tuple [.int 0, .int 2, .int 1001]], .tuple [.tuple [.int 0, .int 3, .int 1], .tuple [.int 2, .int 4, .int 1]], .tuple [.tuple [.int 0, .int 1]], .tuple [.tuple [.int 0, .int 1, .bool true]], .tuple [.tuple [.int (-1), .int 1, .int 1]], .int 5]
def lowL : List PyData := [.none, .int (-1), .int 121, .bool true, S "1"]
def low2 : List PyData := [.int (-1), .int 121, .bool true, S "1"]
def prL : List PyData := [.none, .int (-1), .int 1000000000001, .bool true]
section
variable {e0 e1 e2 e3 e4 e5 e6 e7 e8 e9 e10 e11 e12 e13 e14 e15 e16 e17 e18 e19 e20 e21 e22 e23 e24 e25 : Option W}
theorem s9_0 : exs1 G29 f_law_4_9 [e0, e1, e2, e3, e4, e5, e6, e7, some (.d (.none)), e9, e10, e11, e12, e13, e14, e15, e16, e17, e18, e19, e20, e21, e22, e23, e24, e25] = .nx [e0, e1, e2, e3, e4, e5, e6, e7, some (.d (.none)), e9, e10, e11, e12, e13, e14, e15, e16, e17, e18, e19, e20, e21, e22, e23, e24, e25] := by kernel_rfl
theorem s9_1 : exs1 G29 f_law_4_9 [e0, e1, e2, e3, e4, e5, e6, e7, some (.d (.tuple [])), e9, e10, e11, e12, e13, e14, e15, e16, e17, e18, e19, e20, e21, e22, e23, e24, e25] = .nx [e0, e1, e2, e3, e4, e5, e6, e7, some (.d (.tuple [])), e9, e10, e11, e12, e13, e14, e15, e16, e17, e18, e19, e20, e21, e22, e23, e24, e25] := by kernel_rfl
theorem s9_2 : exs1 G29 f_law_4_9 [e0, e1, e2, e3, e4, e5, e6, e7, some (.d (.tuple [.tuple [.int 0, .int 0, .int 0]])), e9, e10, e11, e12, e13, e14, e15, e16, e17, e18, e19, e20, e21, e22, e23, e24, e25] = .nx [e0, e1, e2, e3, e4, e5, e6, e7, some (.d (.tuple [.tuple [.int 0, .int 0, .int 0]])), e9, e10, e11, e12, e13, e14, e15, e16, e17, e18, e19, e20, e21, e22, e23, e24, e25] := by kernel_rfl
theorem s9_3 : exs1 G29 f_law_4_9 [e0, e1, e2, e3, e4, e5, e6, e7, some (.d (.tuple [.tuple [.int 0, .int 2, .int 0, .int 1]])), e9, e10, e11, e12, e13, e14, e15, e16, e17, e18, e19, e20, e21, e22, e23, e24, e25] = .nx [e0, e1, e2, e3, e4, e5, e6, e7, some (.d (.tuple [.tuple [.int 0, .int 2, .int 0, .int 1]])), e9, e10, e11, e12, e13, e14, e15, e16, e17, e18, e19, e20, e21, e22, e23, e24, e25] := by kernel_rfl
theorem s9_4 : exs1 G29 f_law_4_9 [e0, e1, e2, e3, e4, e5, e6, e7, some (.d (.tuple [.tuple [.int 0, .int 0, .int 0, .int 121]])), e9, e10, e11, e12, e13, e14, e15, e16, e17, e18, e19, e20, e21, e22, e23, e24, e25] = .nx [e0, e1, e2, e3, e4, e5, e6, e7, some (.d (.tuple [.tuple [.int 0, .int 0, .int 0, .int 121]])), e9, e10, e11, e12, e13, e14, e15, e16, e17, e18, e19, e20, e21, e22, e23, e24, e25] := by kernel_rfl
theorem s9_5 : exs1 G29 f_law_4_9 [e0, e1, e2, e3, e4, e5, e6, e7, some (.d (.tuple [.tuple [.int (-1), .int 0, .int 0, .int 0]])), e9, e10, e11, e12, e13, e14, e15, e16, e17, e18, e19, e20, e21, e22, e23, e24, e25] = .nx [e0, e1, e2, e3, e4, e5, e6, e7, some (.d (.tuple [.tuple [.int (-1), .int 0, .int 0, .int 0]])), e9, e10, e11, e12, e13, e14, e15, e16, e17, e18, e19, e20, e21, e22, e23, e24, e25] := by kernel_rfl
theorem s9_6 : exs1 G29 f_law_4_9 [e0, e1, e2, e3, e4, e5, e6, e7, some (.d (.tuple [.tuple [.bool true, .int 0, .int 0, .int 0]])), e9, e10, e11, e12, e13, e14, e15, e16, e17, e18, e19, e20, e21, e22, e23, e24, e25] = .nx [e0, e1, e2, e3, e4, e5, e6, e7, some (.d (.tuple [.tuple [.bool true, .int 0, .int 0, .int 0]])), e9, e10, e11, e12, e13, e14, e15, e16, e17, e18, e19, e20, e21, e22, e23, e24, e25] := by kernel_rfl
theorem s9_7 : exs1 G29 f_law_4_9 [e0, e1, e2, e3, e4, e5, e6, e7, some (.d (.tuple [.tuple [.int 0, .int 0, .int 1000000000001, .int 0]])), e9, e10, e11, e12, e13, e14, e15, e16, e17, e18, e19, e20, e21, e22, e23, e24, e25] = .nx [e0, e1, e2, e3, e4, e5, e6, e7, some (.d (.tuple [.tuple [.int 0, .int 0, .int 1000000000001, .int 0]])), e9, e10, e11, e12, e13, e14, e15, e16, e17, e18, e19, e20, e21, e22, e23, e24, e25] := by kernel_rfl
theorem s9_8 : exs1 G29 f_law_4_9 [e0, e1, e2, e3, e4, e5, e6, e7, some (.d (.tuple [.tuple [.int 0, .int 0, .int 0, .int 0], .tuple [.int 0, .int 0, .int 0, .int 0], .tuple [.int 0, .int 0, .int 0, .int 0], .tuple [.int 0, .int 0, .int 0, .int 0], .tuple [.int 0, .int 0, .int 0, .int 0], .tuple [.int 0, .int 0, .int 0, .int 0], .tuple [.int 0, .int 0, .int 0, .int 0]])), e9, e10, e11, e12, e13, e14, e15, e16, e17, e18, e19, e20, e21, e22, e23, e24, e25] = .nx [e0, e1, e2, e3, e4, e5, e6, e7, some (.d (.tuple [.tuple [.int 0, .int 0, .int 0, .int 0], .tuple [.int 0, .int 0, .int 0, .int 0], .tuple [.int 0, .int 0, .int 0, .int 0], .tuple [.int 0, .int 0, .int 0, .int 0], .tuple [.int 0, .int 0, .int 0, .int 0], .tuple [.int 0, .int 0, .int 0, .int 0], .tuple [.int 0, .int 0, .int 0, .int 0]])), e9, e10, e11, e12, e13, e14, e15, e16, e17, e18, e19, e20, e21, e22, e23, e24, e25] := by kernel_rfl
theorem s9_9 : exs1 G29 f_law_4_9 [e0, e1, e2, e3, e4, e5, e6, e7, some (.d (.int 5)), e9, e10, e11, e12, e13, e14, e15, e16, e17, e18, e19, e20, e21, e22, e23, e24, e25] = .nx [e0, e1, e2, e3, e4, e5, e6, e7, some (.d (.int 5)), e9, e10, e11, e12, e13, e14, e15, e16, e17, e18, e19, e20, e21, e22, e23, e24, e25] := by kernel_rfl
theorem s9 : ∀ y ∈ badM, exs1 G29 f_law_4_9 [e0, e1, e2, e3, e4, e5, e6, e7, some (.d (y)), e9, e10, e11, e12, e13, e14, e15, e16, e17, e18, e19, e20, e21, e22, e23, e24, e25] = .nx [e0, e1, e2, e3, e4, e5, e6, e7, some (.d (y)), e9, e10, e11, e12, e13, e14, e15, e16, e17, e18, e19, e20, e21, e22, e23, e24, e25] := by
  intro y hy
  simp only [badM, List.replicate_succ, List.replicate_zero, List.mem_cons, List.not_mem_nil, or_false] at hy
  rcases hy with rfl | rfl | rfl | rfl | rfl | rfl | rfl | rfl | rfl | rfl
  · exact s9_0
  · exact s9_1
  · exact s9_2
  · exact s9_3
  · exact s9_4
  · exact s9_5
  · exact s9_6
  · exact s9_7
  · exact s9_8
  · exact s9_9
theorem s15_0 : exs1 G29 f_law_4_15 [e0, e1, e2, e3, e4, e5, e6, e7, e8, e9, some (.d (.none)), e11, e12, e13, e14, e15, e16, e17, e18, e19, e20, e21, e22, e23, e24, e25] = .nx [e0, e1, e2, e3, e4, e5, e6, e7, e8, e9, some (.d (.none)), e11, e12, e13, e14, e15, e16, e17, e18, e19, e20, e21, e22, e23, e24, e25] := by kernel_rfl
theorem s15_1 : exs1 G29 f_law_4_15 [e0, e1, e2, e3, e4, e5, e6, e7, e8, e9, some (.d (.tuple [])), e11, e12, e13, e14, e15, e16, e17, e18, e19, e20, e21, e22, e23, e24, e25] = .nx [e0, e1, e2, e3, e4, e5, e6, e7, e8, e9, some (.d (.tuple [])), e11, e12, e13, e14, e15, e16, e17, e18, e19, e20, e21, e22, e23, e24, e25] := by kernel_rfl
theorem s15_2 : exs1 G29 f_law_4_15 [e0, e1, e2, e3, e4, e5, e6, e7, e8, e9, some (.d (.tuple [.int 1])), e11, e12, e13, e14, e15, e16, e17, e18, e19, e20, e21, e22, e23, e24, e25] = .nx [e0, e1, e2, e3, e4, e5, e6, e7, e8, e9, some (.d (.tuple [.int 1])), e11, e12, e13, e14, e15, e16, e17, e18, e19, e20, e21, e22, e23, e24, e25] := by kernel_rfl
theorem s15_3 : exs1 G29 f_law_4_15 [e0, e1, e2, e3, e4, e5, e6, e7, e8, e9, some (.d (.tuple [.int 1, .int (-1)])), e11, e12, e13, e14, e15, e16, e17, e18, e19, e20, e21, e22, e23, e24, e25] = .nx [e0, e1, e2, e3, e4, e5, e6, e7, e8, e9, some (.d (.tuple [.int 1, .int (-1)])), e11, e12, e13, e14, e15, e16, e17, e18, e19, e20, e21, e22, e23, e24, e25] := by kernel_rfl
theorem s15_4 : exs1 G29 f_law_4_15 [e0, e1, e2, e3, e4, e5, e6, e7, e8, e9, some (.d (.tuple [.int 1, .bool true])), e11, e12, e13, e14, e15, e16, e17, e18, e19, e20, e21, e22, e23, e24, e25] = .nx [e0, e1, e2, e3, e4, e5, e6, e7, e8, e9, some (.d (.tuple [.int 1, .bool true])), e11, e12, e13, e14, e15, e16, e17, e18, e19, e20, e21, e22, e23, e24, e25] := by kernel_rfl
theorem s15_5 : exs1 G29 f_law_4_15 [e0, e1, e2, e3, e4, e5, e6, e7, e8, e9, some (.d (.tuple [.int 1000000000001, .int 0])), e11, e12, e13, e14, e15, e16, e17, e18, e19, e20, e21, e22, e23, e24, e25] = .nx [e0, e1, e2, e3, e4, e5, e6, e7, e8, e9, some (.d (.tuple [.int 1000000000001, .int 0])), e11, e12, e13, e14, e15, e16, e17, e18, e19, e20, e21, e22, e23, e24, e25] := by kernel_rfl
theorem s15_6 : exs1 G29 f_law_4_15 [e0, e1, e2, e3, e4, e5, e6, e7, e8, e9, some (.d (.int 5)), e11, e12, e13, e14, e15, e16, e17, e18, e19, e20, e21, e22, e23, e24, e25] = .nx [e0, e1, e2, e3, e4, e5, e6, e7, e8, e9, some (.d (.int 5)), e11, e12, e13, e14, e15, e16, e17, e18, e19, e20, e21, e22, e23, e24, e25] := by kernel_rfl
theorem s15_7 : exs1 G29 f_law_4_15 [e0, e1, e2, e3, e4, e5, e6, e7, e8, e9, some (.d (.tuple [.int 1, .int 2, .int 3])), e11, e12, e13, e14, e15, e16, e17, e18, e19, e20, e21, e22, e23, e24, e25] = .nx [e0, e1, e2, e3, e4, e5, e6, e7, e8, e9, some (.d (.tuple [.int 1, .int 2, .int 3])), e11, e12, e13, e14, e15, e16, e17, e18, e19, e20, e21, e22, e23, e24, e25] := by kernel_rfl
theorem s15 : ∀ y ∈ plL, exs1 G29 f_law_4_15 [e0, e1, e2, e3, e4, e5, e6, e7, e8, e9, some (.d (y)), e11, e12, e13, e14, e15, e16, e17, e18, e19, e20, e21, e22, e23, e24, e25] = .nx [e0, e1, e2, e3, e4, e5, e6, e7, e8, e9, some (.d (y)), e11, e12, e13, e14, e15, e16, e17, e18, e19, e20, e21, e22, e23, e24, e25] := by
  intro y hy
  simp only [plL, List.replicate_succ, List.replicate_zero, List.mem_cons, List.not_mem_nil, or_false] at hy
  rcases hy with rfl | rfl | rfl | rfl | rfl | rfl | rfl | rfl
  · exact s15_0
  · exact s15_1
  · exact s15_2
  · exact s15_3
  · exact s15_4
  · exact s15_5
  · exact s15_6
  · exact s15_7
theorem s16_0 : exs1 G29 f_law_4_16 [e0, e1, e2, e3, e4, e5, e6, e7, e8, e9, some (.d (.none)), e11, e12, e13, e14, e15, e16, e17, e18, e19, e20, e21, e22, e23, e24, e25] = .nx [e0, e1, e2, e3, e4, e5, e6, e7, e8, e9, some (.d (.none)), e11, e12, e13, e14, e15, e16, e17, e18, e19, e20, e21, e22, e23, e24, e25] := by kernel_rfl
theorem s16_1 : exs1 G29 f_law_4_16 [e0, e1, e2, e3, e4, e5, e6, e7, e8, e9, some (.d (.tuple [])), e11, e12, e13, e14, e15, e16, e17, e18, e19, e20, e21, e22, e23, e24, e25] = .nx [e0, e1, e2, e3, e4, e5, e6, e7, e8, e9, some (.d (.tuple [])), e11, e12, e13, e14, e15, e16, e17, e18, e19, e20, e21, e22, e23, e24, e25] := by kernel_rfl
theorem s16_2 : exs1 G29 f_law_4_16 [e0, e1, e2, e3, e4, e5, e6, e7, e8, e9, some (.d (.tuple [.int 1])), e11, e12, e13, e14, e15, e16, e17, e18, e19, e20, e21, e22, e23, e24, e25] = .nx [e0, e1, e2, e3, e4, e5, e6, e7, e8, e9, some (.d (.tuple [.int 1])), e11, e12, e13, e14, e15, e16, e17, e18, e19, e20, e21, e22, e23, e24, e25] := by kernel_rfl
theorem s16_3 : exs1 G29 f_law_4_16 [e0, e1, e2, e3, e4, e5, e6, e7, e8, e9, some (.d (.tuple [.int 1, .int (-1)])), e11, e12, e13, e14, e15, e16, e17, e18, e19, e20, e21, e22, e23, e24, e25] = .nx [e0, e1, e2, e3, e4, e5, e6, e7, e8, e9, some (.d (.tuple [.int 1, .int (-1)])), e11, e12, e13, e14, e15, e16, e17, e18, e19, e20, e21, e22, e23, e24, e25] := by kernel_rfl
theorem s16_4 : exs1 G29 f_law_4_16 [e0, e1, e2, e3, e4, e5, e6, e7, e8, e9, some (.d (.tuple [.int 1, .bool true])), e11, e12, e13, e14, e15, e16, e17, e18, e19, e20, e21, e22, e23, e24, e25] = .nx [e0, e1, e2, e3, e4, e5, e6, e7, e8, e9, some (.d (.tuple [.int 1, .bool true])), e11, e12, e13, e14, e15, e16, e17, e18, e19, e20, e21, e22, e23, e24, e25] := by kernel_rfl
theorem s16_5 : exs1 G29 f_law_4_16 [e0, e1, e2, e3, e4, e5, e6, e7, e8, e9, some (.d (.tuple [.int 1000000000001, .int 0])), e11, e12, e13, e14, e15, e16, e17, e18, e19, e20, e21, e22, e23, e24, e25] = .nx [e0, e1, e2, e3, e4, e5, e6, e7, e8, e9, some (.d (.tuple [.int 1000000000001, .int 0])), e11, e12, e13, e14, e15, e16, e17, e18, e19, e20, e21, e22, e23, e24, e25] := by kernel_rfl
theorem s16_6 : exs1 G29 f_law_4_16 [e0, e1, e2, e3, e4, e5, e6, e7, e8, e9, some (.d (.int 5)), e11, e12, e13, e14, e15, e16, e17, e18, e19, e20, e21, e22, e23, e24, e25] = .nx [e0, e1, e2, e3, e4, e5, e6, e7, e8, e9, some (.d (.int 5)), e11, e12, e13, e14, e15, e16, e17, e18, e19, e20, e21, e22, e23, e24, e25] := by kernel_rfl
theorem s16_7 : exs1 G29 f_law_4_16 [e0, e1, e2, e3, e4, e5, e6, e7, e8, e9, some (.d (.tuple [.int 1, .int 2, .int 3])), e11, e12, e13, e14, e15, e16, e17, e18, e19, e20, e21, e22, e23, e24, e25] = .nx [e0, e1, e2, e3, e4, e5, e6, e7, e8, e9, some (.d (.tuple [.int 1, .int 2, .int 3])), e11, e12, e13, e14, e15, e16, e17, e18, e19, e20, e21, e22, e23, e24, e25] := by kernel_rfl
theorem s16 : ∀ y ∈ plL, exs1 G29 f_law_4_16 [e0, e1, e2, e3, e4, e5, e6, e7, e8, e9, some (.d (y)), e11, e12, e13, e14, e15, e16, e17, e18, e19, e20, e21, e22, e23, e24, e25] = .nx [e0, e1, e2, e3, e4, e5, e6, e7, e8, e9, some (.d (y)), e11, e12, e13, e14, e15, e16, e17, e18, e19, e20, e21, e22, e23, e24, e25] := by
  intro y hy
  simp only [plL, List.replicate_succ, List.replicate_zero, List.mem_cons, List.not_mem_nil, or_false] at hy
  rcases hy with rfl | rfl | rfl | rfl | rfl | rfl | rfl | rfl
  · exact s16_0
  · exact s16_1
  · exact s16_2
  · exact s16_3
  · exact s16_4
  · exact s16_5
  · exact s16_6
  · exact s16_7
theorem s18_0 : exs1 G29 f_law_4_18 [e0, e1, e2, e3, e4, e5, e6, e7, e8, e9, e10, some (.d (.none)), e12, e13, e14, e15, e16, e17, e18, e19, e20, e21, e22, e23, e24, e25] = .nx [e0, e1, e2, e3, e4, e5, e6, e7, e8, e9, e10, some (.d (.none)), e12, e13, e14, e15, e16, e17, e18, e19, e20, e21, e22, e23, e24, e25] := by kernel_rfl
theorem s18_1 : exs1 G29 f_law_4_18 [e0, e1, e2, e3, e4, e5, e6, e7, e8, e9, e10, some (.d (.tuple [.tuple [.int 0, .int 25, .int 1]])), e12, e13, e14, e15, e16, e17, e18, e19, e20, e21, e22, e23, e24, e25] = .nx [e0, e1, e2, e3, e4, e5, e6, e7, e8, e9, e10, some (.d (.tuple [.tuple [.int 0, .int 25, .int 1]])), e12, e13, e14, e15, e16, e17, e18, e19, e20, e21, e22, e23, e24, e25] := by kernel_rfl
theorem s18_2 : exs1 G29 f_law_4_18 [e0, e1, e2, e3, e4, e5, e6, e7, e8, e9, e10, some (.d (.tuple [.tuple [.int 3, .int 3, .int 1]])), e12, e13, e14, e15, e16, e17, e18, e19, e20, e21, e22, e23, e24, e25] = .nx [e0, e1, e2, e3, e4, e5, e6, e7, e8, e9, e10, some (.d (.tuple [.tuple [.int 3, .int 3, .int 1]])), e12, e13, e14, e15, e16, e17, e18, e19, e20, e21, e22, e23, e24, e25] := by kernel_rfl
theorem s18_3 : exs1 G29 f_law_4_18 [e0, e1, e2, e3, e4, e5, e6, e7, e8, e9, e10, some (.d (.tuple [.tuple [.int 0, .int 2, .int (-1)]])), e12, e13, e14, e15, e16, e17, e18, e19, e20, e21, e22, e23, e24, e25] = .nx [e0, e1, e2, e3, e4, e5, e6, e7, e8, e9, e10, some (.d (.tuple [.tuple [.int 0, .int 2, .int (-1)]])), e12, e13, e14, e15, e16, e17, e18, e19, e20, e21, e22, e23, e24, e25] := by kernel_rfl
theorem s18_4 : exs1 G29 f_law_4_18 [e0, e1, e2, e3, e4, e5, e6, e7, e8, e9, e10, some (.d (.tuple [.tuple [.int 0, .int 2, .int 1001]])), e12, e13, e14, e15, e16, e17, e18, e19, e20, e21, e22, e23, e24, e25] = .nx [e0, e1, e2, e3, e4, e5, e6, e7, e8, e9, e10, some (.d (.tuple [.tuple [.int 0, .int 2, .int 1001]])), e12, e13, e14, e15, e16, e17, e18, e19, e20, e21, e22, e23, e24, e25] := by kernel_rfl
theorem s18_5 : exs1 G29 f_law_4_18 [e0, e1, e2, e3, e4, e5, e6, e7, e8, e9, e10, some (.d (.tuple [.tuple [.int 0, .int 3, .int 1], .tuple [.int 2, .int 4, .int 1]])), e12, e13, e14, e15, e16, e17, e18, e19, e20, e21, e22, e23, e24, e25] = .nx [e0, e1, e2, e3, e4, e5, e6, e7, e8, e9, e10, some (.d (.tuple [.tuple [.int 0, .int 3, .int 1], .tuple [.int 2, .int 4, .int 1]])), e12, e13, e14, e15, e16, e17, e18, e19, e20, e21, e22, e23, e24, e25] := by kernel_rfl
theorem s18_6 : exs1 G29 f_law_4_18 [e0, e1, e2, e3, e4, e5, e6, e7, e8, e9, e10, some (.d (.tuple [.tuple [.int 0, .int 1]])), e12, e13, e14, e15, e16, e17, e18, e19, e20, e21, e22, e23, e24, e25] = .nx [e0, e1, e2, e3, e4, e5, e6, e7, e8, e9, e10, some (.d (.tuple [.tuple [.int 0, .int 1]])), e12, e13, e14, e15, e16, e17, e18, e19, e20, e21, e22, e23, e24, e25] := by kernel_rfl
theorem s18_7 : exs1 G29 f_law_4_18 [e0, e1, e2, e3, e4, e5, e6, e7, e8, e9, e10, some (.d (.tuple [.tuple [.int 0, .int 1, .bool true]])), e12, e13, e14, e15, e16, e17, e18, e19, e20, e21, e22, e23, e24, e25] = .nx [e0, e1, e2, e3, e4, e5, e6, e7, e8, e9, e10, some (.d (.tuple [.tuple [.int 0, .int 1, .bool true]])), e12, e13, e14, e15, e16, e17, e18, e19, e20, e21, e22, e23, e24, e25] := by kernel_rfl
theorem s18_8 : exs1 G29 f_law_4_18 [e0, e1, e2, e3, e4, e5, e6, e7, e8, e9, e10, some (.d (.tuple [.tuple [.int (-1), .int 1, .int 1]])), e12, e13, e14, e15, e16, e17, e18, e19, e20, e21, e22, e23, e24, e25] = .nx [e0, e1, e2, e3, e4, e5, e6, e7, e8, e9, e10, some (.d (.tuple [.tuple [.int (-1), .int 1, .int 1]])), e12, e13, e14, e15, e16, e17, e18, e19, e20, e21, e22, e23, e24, e25] := by kernel_rfl
theorem s18_9 : exs1 G29 f_law_4_18 [e0, e1, e2, e3, e4, e5, e6, e7, e8, e9, e10, some (.d (.int 5)), e12, e13, e14, e15, e16, e17, e18, e19, e20, e21, e22, e23, e24, e25] = .nx [e0, e1, e2, e3, e4, e5, e6, e7, e8, e9, e10, some (.d (.int 5)), e12, e13, e14, e15, e16, e17, e18, e19, e20, e21, e22, e23, e24, e25] := by kernel_rfl
theorem s18 : ∀ y ∈ oddL, exs1 G29 f_law_4_18 [e0, e1, e2, e3, e4, e5, e6, e7, e8, e9, e10, some (.d (y)), e12, e13, e14, e15, e16, e17, e18, e19, e20, e21, e22, e23, e24, e25] = .nx [e0, e1, e2, e3, e4, e5, e6, e7, e8, e9, e10, some (.d (y)), e12, e13, e14, e15, e16, e17, e18, e19, e20, e21, e22, e23, e24, e25] := by
  intro y hy
  simp only [oddL, List.replicate_succ, List.replicate_zero, List.mem_cons, List.not_mem_nil, or_false] at hy
  rcases hy with rfl | rfl | rfl | rfl | rfl | rfl | rfl | rfl | rfl | rfl
  · exact s18_0
  · exact s18_1
  · exact s18_2
  · exact s18_3
  · exact s18_4
  · exact s18_5
  · exact s18_6
  · exact s18_7
  · exact s18_8
  · exact s18_9
theorem s20_0 : exs1 G29 f_law_4_20 [e0, e1, e2, e3, e4, e5, e6, e7, e8, some (.d (.none)), e10, e11, e12, e13, e14, e15, e16, e17, e18, e19, e20, e21, e22, e23, e24, e25] = .nx [e0, e1, e2, e3, e4, e5, e6, e7, e8, some (.d (.none)), e10, e11, some (.l [S "argument begin", S "argument many", S "argument many", S "argument last"]), e13, e14, e15, e16, e17, e18, e19, e20, e21, e22, e23, e24, e25] := by kernel_rfl
theorem s20_1 : exs1 G29 f_law_4_20 [e0, e1, e2, e3, e4, e5, e6, e7, e8, some (.d (.int (-1))), e10, e11, e12, e13, e14, e15, e16, e17, e18, e19, e20, e21, e22, e23, e24, e25] = .nx [e0, e1, e2, e3, e4, e5, e6, e7, e8, some (.d (.int (-1))), e10, e11, some (.l [S "argument begin", S "argument many", S "argument many", S "argument last"]), e13, e14, e15, e16, e17, e18, e19, e20, e21, e22, e23, e24, e25] := by kernel_rfl
theorem s20_2 : exs1 G29 f_law_4_20 [e0, e1, e2, e3, e4, e5, e6, e7, e8, some (.d (.int 121)), e10, e11, e12, e13, e14, e15, e16, e17, e18, e19, e20, e21, e22, e23, e24, e25] = .nx [e0, e1, e2, e3, e4, e5, e6, e7, e8, some (.d (.int 121)), e10, e11, some (.l [S "argument begin", S "argument many", S "argument many", S "argument last"]), e13, e14, e15, e16, e17, e18, e19, e20, e21, e22, e23, e24, e25] := by kernel_rfl
theorem s20_3 : exs1 G29 f_law_4_20 [e0, e1, e2, e3, e4, e5, e6, e7, e8, some (.d (.bool true)), e10, e11, e12, e13, e14, e15, e16, e17, e18, e19, e20, e21, e22, e23, e24, e25] = .nx [e0, e1, e2, e3, e4, e5, e6, e7, e8, some (.d (.bool true)), e10, e11, some (.l [S "argument begin", S "argument many", S "argument many", S "argument last"]), e13, e14, e15, e16, e17, e18, e19, e20, e21, e22, e23, e24, e25] := by kernel_rfl
theorem s20_4 : exs1 G29 f_law_4_20 [e0, e1, e2, e3, e4, e5, e6, e7, e8, some (.d (S "1")), e10, e11, e12, e13, e14, e15, e16, e17, e18, e19, e20, e21, e22, e23, e24, e25] = .nx [e0, e1, e2, e3, e4, e5, e6, e7, e8, some (.d (S "1")), e10, e11, some (.l [S "argument begin", S "argument many", S "argument many", S "argument last"]), e13, e14, e15, e16, e17, e18, e19, e20, e21, e22, e23, e24, e25] := by kernel_rfl
theorem s20 : ∀ y ∈ lowL, exs1 G29 f_law_4_20 [e0, e1, e2, e3, e4, e5, e6, e7, e8, some (.d (y)), e10, e11, e12, e13, e14, e15, e16, e17, e18, e19, e20, e21, e22, e23, e24, e25] = .nx [e0, e1, e2, e3, e4, e5, e6, e7, e8, some (.d (y)), e10, e11, some (.l [S "argument begin", S "argument many", S "argument many", S "argument last"]), e13, e14, e15, e16, e17, e18, e19, e20, e21, e22, e23, e24, e25] := by
  intro y hy
  simp only [lowL, List.replicate_succ, List.replicate_zero, List.mem_cons, List.not_mem_nil, or_false] at hy
  rcases hy with rfl | rfl | rfl | rfl | rfl
  · exact s20_0
  · exact s20_1
  · exact s20_2
  · exact s20_3
  · exact s20_4
theorem s21 : exs1 G29 f_law_4_21 [e0, e1, e2, e3, e4, e5, e6, e7, e8, e9, e10, e11, some (.l [S "argument begin", S "argument many", S "argument many", S "argument last"]), e13, e14, e15, e16, e17, e18, e19, e20, e21, e22, e23, e24, e25] = .nx [e0, e1, e2, e3, e4, e5, e6, e7, e8, e9, e10, e11, some (.l [S "argument begin", S "argument many", S "argument many", S "argument last"]), e13, e14, e15, e16, e17, e18, e19, e20, e21, e22, e23, e24, e25] := by kernel_rfl
theorem p7_0 : m_law_told [.d (.int 7), .d (.tuple []), .d (.none), .d .none, .d .none] = .ok (.v (S "argument price"), [some (.d (.int 7)), some (.d (.tuple [])), some (.d (.none)), some (.d .none), some (.d .none)]) := by kernel_rfl
theorem p7_1 : m_law_told [.d (.int 7), .d (.tuple []), .d (.int (-1)), .d .none, .d .none] = .ok (.v (S "argument price"), [some (.d (.int 7)), some (.d (.tuple [])), some (.d (.int (-1))), some (.d .none), some (.d .none)]) := by kernel_rfl
theorem p7_2 : m_law_told [.d (.int 7), .d (.tuple []), .d (.int 1000000000001), .d .none, .d .none] = .ok (.v (S "argument price"), [some (.d (.int 7)), some (.d (.tuple [])), some (.d (.int 1000000000001)), some (.d .none), some (.d .none)]) := by kernel_rfl
theorem p7_3 : m_law_told [.d (.int 7), .d (.tuple []), .d (.bool true), .d .none, .d .none] = .ok (.v (S "argument price"), [some (.d (.int 7)), some (.d (.tuple [])), some (.d (.bool true)), some (.d .none), some (.d .none)]) := by kernel_rfl
theorem p7 : ∀ y ∈ prL, m_law_told [.d (.int 7), .d (.tuple []), .d (y), .d .none, .d .none] = .ok (.v (S "argument price"), [some (.d (.int 7)), some (.d (.tuple [])), some (.d (y)), some (.d .none), some (.d .none)]) := by
  intro y hy
  simp only [prL, List.replicate_succ, List.replicate_zero, List.mem_cons, List.not_mem_nil, or_false] at hy
  rcases hy with rfl | rfl | rfl | rfl
  · exact p7_0
  · exact p7_1
  · exact p7_2
  · exact p7_3
theorem p8_0 : m_law_told [.d (.int 8), .d (.tuple []), .d (.none), .d .none, .d .none] = .ok (.v (S "argument price"), [some (.d (.int 8)), some (.d (.tuple [])), some (.d (.none)), some (.d .none), some (.d .none)]) := by kernel_rfl
theorem p8_1 : m_law_told [.d (.int 8), .d (.tuple []), .d (.int (-1)), .d .none, .d .none] = .ok (.v (S "argument price"), [some (.d (.int 8)), some (.d (.tuple [])), some (.d (.int (-1))), some (.d .none), some (.d .none)]) := by kernel_rfl
theorem p8_2 : m_law_told [.d (.int 8), .d (.tuple []), .d (.int 1000000000001), .d .none, .d .none] = .ok (.v (S "argument price"), [some (.d (.int 8)), some (.d (.tuple [])), some (.d (.int 1000000000001)), some (.d .none), some (.d .none)]) := by kernel_rfl
theorem p8_3 : m_law_told [.d (.int 8), .d (.tuple []), .d (.bool true), .d .none, .d .none] = .ok (.v (S "argument price"), [some (.d (.int 8)), some (.d (.tuple [])), some (.d (.bool true)), some (.d .none), some (.d .none)]) := by kernel_rfl
theorem p8 : ∀ y ∈ prL, m_law_told [.d (.int 8), .d (.tuple []), .d (y), .d .none, .d .none] = .ok (.v (S "argument price"), [some (.d (.int 8)), some (.d (.tuple [])), some (.d (y)), some (.d .none), some (.d .none)]) := by
  intro y hy
  simp only [prL, List.replicate_succ, List.replicate_zero, List.mem_cons, List.not_mem_nil, or_false] at hy
  rcases hy with rfl | rfl | rfl | rfl
  · exact p8_0
  · exact p8_1
  · exact p8_2
  · exact p8_3
end
end K57
end Ev

set_option maxRecDepth 100000
namespace Ev
open PySem
namespace K57
/-- tame data -/
def Tm (b L : Nat) : Nat → PyData → Prop
  | _, .none => True
  | _, .bool _ => True
  | _, .str s => PyData.strOk s = true
  | _, .int i => -(b : Int) ≤ i ∧ i ≤ b
  | n + 1, .tuple xs => xs.length ≤ L ∧ ∀ x ∈ xs, Tm b L n x
  | _, _ => False
theorem Tm.mono {b L b' L' : Nat} (hb : b ≤ b') (hL : L ≤ L') : ∀ {n n' : Nat} {x : PyData}, n ≤ n' → Tm b L n x → Tm b' L' n' x
  | _, _, .none, _, _ => by unfold Tm; trivial
  | _, _, .bool _, _, _ => by unfold Tm; trivial
  | _, _, .str _, _, h => by unfold Tm at h ⊢; exact h
  | n, n', .int i, _, h => by
    have h : -(b : Int) ≤ i ∧ i ≤ b := by unfold Tm at h; exact h
    show Tm b' L' n' (.int i)
    unfold Tm
    omega
  | n + 1, n' + 1, .tuple xs, hn, h => ⟨Nat.le_trans h.1 hL, fun x hx => Tm.mono hb hL (Nat.le_of_succ_le_succ hn) (h.2 x hx)⟩
  | 0, _, .tuple _, _, h => by unfold Tm at h; exact h.elim
  | 0, _, .list _, _, h => by unfold Tm at h; exact h.elim
  | _ + 1, _, .list _, _, h => by unfold Tm at h; exact h.elim
  | 0, _, .dict _, _, h => by unfold Tm at h; exact h.elim
  | _ + 1, _, .dict _, _, h => by unfold Tm at h; exact h.elim
theorem Tm.nd {b L n : Nat} {x : PyData} (h : Tm b L n x) : nd x = true := by
  cases x <;> first | rfl | (cases n <;> exact (show False from h).elim)
theorem Tm.lay {b L : Nat} : ∀ (n : Nat) (x : PyData), Tm b L n x → x.canLay0 = true ∧ x.depth ≤ n
  | _, .none, _ => ⟨rfl, Nat.zero_le _⟩
  | _, .bool _, _ => ⟨rfl, Nat.zero_le _⟩
  | _, .int _, _ => ⟨rfl, Nat.zero_le _⟩
  | _, .str _, h => ⟨by unfold Tm at h; simpa [PyData.canLay0] using h, Nat.zero_le _⟩
  | n + 1, .tuple xs, h => by
    have h2 : ∀ x ∈ xs, x.canLay0 = true ∧ x.depth ≤ n := fun x hx => Tm.lay n x (h.2 x hx)
    have key : ∀ ys : List PyData, (∀ x ∈ ys, x.canLay0 = true) → PyData.canLayAll0 ys = true := by
      intro ys
      induction ys with
      | nil => intro _; simp only [PyData.canLayAll0]
      | cons y ys ih => intro q; simp only [PyData.canLayAll0, q y (by simp), ih fun z hz => q z (by simp [hz]), Bool.and_self]
    exact ⟨by simp only [PyData.canLay0]; exact key xs fun x hx => (h2 x hx).1, Nat.succ_le_succ (D.depths_le fun x hx => (h2 x hx).2)⟩
  | 0, .tuple _, h => by unfold Tm at h; exact h.elim
  | 0, .list _, h => by unfold Tm at h; exact h.elim
  | _ + 1, .list _, h => by unfold Tm at h; exact h.elim
  | 0, .dict _, h => by unfold Tm at h; exact h.elim
  | _ + 1, .dict _, h => by unfold Tm at h; exact h.elim
theorem Tm.shp {b L n : Nat} {x : PyData} (h : Tm b L n x) (hn : n ≤ 64) : shp x = true := by
  obtain ⟨h1, h2⟩ := h.lay
  show (x.canLay0 && decide (x.depth ≤ 64)) = true
  rw [h1, decide_eq_true (Nat.le_trans h2 hn)]; rfl
theorem Tm.shl {b L n : Nat} {xs : List PyData} (h : ∀ x ∈ xs, Tm b L n x) (hn : n ≤ 63) : Ev.shp (.list xs) = true := by
  have h2 : Tm b xs.length (n + 1) (.tuple xs) ∨ True := .inr trivial
  have l := Tm.lay (b := b) (L := max L xs.length) (n + 1) (.tuple xs) ⟨Nat.le_max_right _ _, fun x hx => (h x hx).mono (Nat.le_refl _) (Nat.le_max_left _ _) (Nat.le_refl _)⟩
  obtain ⟨h1, h2⟩ := l
  have e1 : (PyData.list xs).canLay0 = (PyData.tuple xs).canLay0 := by simp only [PyData.canLay0]
  have e2 : (PyData.list xs).depth = (PyData.tuple xs).depth := rfl
  show ((PyData.list xs).canLay0 && decide ((PyData.list xs).depth ≤ 64)) = true
  rw [e1, e2, h1, decide_eq_true (by omega)]; rfl

def junk : List PyData := [.none, .bool true, S "0", .int (-1), .int 0, .tuple [], .tuple [.int 0], .int (10 ^ 30)]
theorem junk_tm : ∀ x ∈ junk, Tm 1000000000000000000000000000000 2 2 x := by
  intro x hx
  simp only [junk, List.mem_cons, List.not_mem_nil, or_false] at hx
  rcases hx with rfl | rfl | rfl | rfl | rfl | rfl | rfl | rfl <;> first | (unfold Tm; decide +kernel) | (simp (config := {decide := true}) [Tm]; done)
abbrev Gb (d : Nat) : Tab := fun i => if i = 28 then some (recS G28 28 3 4 b_law_bent d) else G28 i
theorem c_bent (d : Nat) : (∀ as env, ev (Gb d) (.call 1 as) env = (evs (Gb d) as env).bind (D.callC m_law_draw)) ∧ (∀ as env, ev (Gb d) (.call 25 as) env = (evs (Gb d) as env).bind (D.callC m_law_whole)) ∧ (∀ as env, ev (Gb d) (.call 28 as) env = (evs (Gb d) as env).bind (D.callC (recS G28 28 3 4 b_law_bent d))) :=
  ⟨fun _ _ => D.ev_call _ _ _ _ _ rfl, fun _ _ => D.ev_call _ _ _ _ _ rfl, fun _ _ => D.ev_call _ _ _ _ _ rfl⟩
/-- the draw of junk -/
theorem bent_junk {b L n : Nat} (hb : 1000000000000000000000000000000 ≤ b) (hL : 2 ≤ L) (s : DS) (h : s.ok) : ∃ (i : Nat) (y : PyData) (s' : DS), s'.ok ∧ Tm (b + 7) (L + 1) (n + 2) y ∧ m_law_draw [.l s.enc, .d (.int 8)] = .ok (.v (.int i), [some (.l s'.enc), some (.d (.int 8))]) ∧ L2.atI junk (i : Int) = some y := by
  obtain ⟨i, s', hi, hs, e⟩ := tdc s h 8 (by omega) (by omega)
  obtain ⟨y, hy, ey⟩ := at_in (xs := junk) (i := i) (by simp [junk]; omega)
  exact ⟨i, y, s', hs, (junk_tm y hy).mono (by omega) (by omega) (by omega), e, ey⟩
set_option maxHeartbeats 4000000 in
theorem bent_ok {b L : Nat} (hb : 1000000000000000000000000000000 ≤ b) (hL : 2 ≤ L) (hL2 : L ≤ 100000) : ∀ (n d : Nat) (k : Nat) (x : PyData) (s : DS), n < d → s.ok → Tm b L n x → ∃ (y : PyData) (s' : DS), s'.ok ∧ Tm (b + 7) (L + 1) (n + 2) y ∧ recS G28 28 3 4 b_law_bent d [.l s.enc, .d x, .d (.int (k : Int))] = .ok (.v y, [some (.l s'.enc), some (.d x), some (.d (.int (k : Int)))])
  | n, 0, _, _, _, h, _, _ => absurd h (Nat.not_lt_zero _)
  | n, d + 1, k, x, s, hd, os, hx => by
    have r : recS G28 28 3 4 b_law_bent (d + 1) [.l s.enc, .d x, .d (.int (k : Int))] = D.give 3 (exs (Gb d) b_law_bent [some (.l s.enc), some (.d x), some (.d (.int (k : Int))), none]) := D.run_all rfl (by decide +kernel)
    rw [r]
    have low : ∀ (hnt : ∀ xs, x = .tuple xs → xs = [] ∨ k = 0), ∃ (y : PyData) (s' : DS), s'.ok ∧ Tm (b + 7) (L + 1) (n + 2) y ∧ D.give 3 (exs (Gb d) b_law_bent [some (.l s.enc), some (.d x), some (.d (.int (k : Int))), none]) = .ok (.v y, [some (.l s'.enc), some (.d x), some (.d (.int (k : Int)))]) := by
      intro hnt
      have ew := t_whole x hx.nd
      cases x with
      | dict _ => exact absurd hx.nd (fun z => by cases z)
      | list _ => exact absurd hx (by cases n <;> exact fun z => z)
      | none =>
        obtain ⟨i, y, s', o1, hy, e, ey⟩ := bent_junk (n := n) hb hL s os
        unfold junk at ey
        refine ⟨y, s', o1, hy, ?_⟩
        simp_arith [b_law_bent, s_law_bent_0, c_bent d, ew, isI, e, ey]
      | bool _ =>
        obtain ⟨i, y, s', o1, hy, e, ey⟩ := bent_junk (n := n) hb hL s os
        unfold junk at ey
        refine ⟨y, s', o1, hy, ?_⟩
        simp_arith [b_law_bent, s_law_bent_0, c_bent d, ew, isI, e, ey]
      | str _ =>
        obtain ⟨i, y, s', o1, hy, e, ey⟩ := bent_junk (n := n) hb hL s os
        unfold junk at ey
        refine ⟨y, s', o1, hy, ?_⟩
        simp_arith [b_law_bent, s_law_bent_0, c_bent d, ew, isI, e, ey]
      | tuple xs =>
        obtain ⟨i, y, s', o1, hy, e, ey⟩ := bent_junk (n := n) hb hL s os
        unfold junk at ey
        refine ⟨y, s', o1, hy, ?_⟩
        by_cases hxs : xs = []
        · subst hxs
          simp_arith [b_law_bent, s_law_bent_0, c_bent d, ew, isI, e, ey]
        · rcases hnt xs rfl with h | h
          · exact absurd h hxs
          have he : xs.isEmpty = false := by cases xs <;> first | rfl | exact absurd rfl hxs
          subst h
          have hh : (((0 : Nat) : Int) = 0) := rfl
          simp_arith [b_law_bent, s_law_bent_0, c_bent d, ew, isI, he, hh, e, ey]
      | int i =>
        obtain ⟨j, s1, hj, o1, e1⟩ := tdc s os 5 (by omega) (by omega)
        have ew : m_law_whole [.d (.int i)] = .ok (.v (.bool true), [some (.d (.int i))]) := ew
        by_cases c : (0 : Int) < j
        · obtain ⟨q, s2, hq, o2, e2⟩ := tdc s1 o1 6 (by omega) (by omega)
          obtain ⟨y, hy, ey⟩ := at_in (xs := [.int 1, .int (-1), .int 1, .int (-1), .int 2, .int (-7)]) (i := q) (by simp; omega)
          have hx : -(b : Int) ≤ i ∧ i ≤ b := by cases n <;> exact hx
          obtain ⟨v, rfl, hv⟩ : ∃ v : Int, y = .int v ∧ -7 ≤ v ∧ v ≤ 7 := by
            simp only [List.mem_cons, List.not_mem_nil, or_false] at hy
            rcases hy with rfl | rfl | rfl | rfl | rfl | rfl <;> exact ⟨_, rfl, by omega, by omega⟩
          refine ⟨.int (i + v), s2, o2, by show Tm _ _ (n + 1 + 1) _; unfold Tm; omega, ?_⟩
          simp_arith [b_law_bent, s_law_bent_0, c_bent d, ew, e1, e2, ey, decide_eq_true c]
        · obtain ⟨q, y, s', o2, hy, e, ey⟩ := bent_junk (n := n) hb hL s1 o1
          unfold junk at ey
          refine ⟨y, s', o2, hy, ?_⟩
          simp_arith [b_law_bent, s_law_bent_0, c_bent d, ew, e1, e, ey, decide_eq_false c]
    cases x with
    | tuple xs =>
      cases n with
      | zero => exact absurd hx id
      | succ n =>
      obtain ⟨hl, hxs⟩ := hx
      by_cases hn : xs = [] ∨ k = 0
      · exact low fun ys h => by cases h; exact hn
      have hn0 : xs ≠ [] := fun h => hn (.inl h)
      have hk0 : ¬ (k : Int) = 0 := fun h => hn (.inr (by omega))
      have hlen : 0 < xs.length := List.length_pos_iff.mpr hn0
      have he : xs.isEmpty = false := by cases xs <;> first | rfl | exact absurd rfl hn0
      obtain ⟨a, s2, ha, o2, e2⟩ := tde s os xs.length hlen (by omega)
      obtain ⟨j, s3, hj, o3, e1⟩ := tdc s2 o2 10 (by omega) (by omega)
      have ha' : L2.atI xs (a : Int) = some xs[a] := by rw [D.atI_n]; simp [List.getElem?_eq_getElem ha]
      have tk : ∀ k, ∀ x ∈ xs.take k, Tm (b + 7) (L + 1) (n + 2) x := fun k x hx => (hxs x (List.mem_of_mem_take hx)).mono (by omega) (by omega) (by omega)
      have dr : ∀ k, ∀ x ∈ xs.drop k, Tm (b + 7) (L + 1) (n + 2) x := fun k x hx => (hxs x (List.mem_of_mem_drop hx)).mono (by omega) (by omega) (by omega)
      have at_ : ∀ k (h : k < xs.length), Tm (b + 7) (L + 1) (n + 2) xs[k] := fun k h => (hxs _ (List.getElem_mem h)).mono (by omega) (by omega) (by omega)
      have k1 : cut xs (some ((a : Int) + 1)) none = xs.drop (a + 1) := by rw [show (a : Int) + 1 = ((a + 1 : Nat) : Int) by omega, D.cut_drop]
      have k2 : cut xs (some (a : Int)) (some ((a : Int) + 1)) = [xs[a]] := by
        rw [show (a : Int) + 1 = ((a + 1 : Nat) : Int) by omega, D.cut_two, show a + 1 - a = 1 by omega, List.drop_eq_getElem_cons ha]; rfl
      by_cases c : (j : Int) = 0
      · obtain ⟨q, s4, hq, o4, e4⟩ := tdc s3 o3 5 (by omega) (by omega)
        obtain ⟨y, hy, ey⟩ := at_in (xs := [.tuple (xs.take a ++ xs.drop (a + 1)), .tuple (xs ++ [xs[a]]), .tuple xs.reverse, .none, S "none"]) (i := q) (by simp; omega)
        refine ⟨y, s4, o4, ?_, ?_⟩
        · simp only [List.mem_cons, List.not_mem_nil, or_false] at hy
          rcases hy with rfl | rfl | rfl | rfl | rfl
          · exact ⟨by simp; omega, fun x hx => (List.mem_append.mp hx).elim (tk a x) (dr _ x)⟩
          · refine ⟨by simp; omega, fun x hx => ?_⟩
            rcases List.mem_append.mp hx with h | h
            · exact (hxs x h).mono (by omega) (by omega) (by omega)
            · rw [List.mem_singleton.mp h]; exact at_ a ha
          · exact ⟨by simp; omega, fun x hx => (hxs x (List.mem_reverse.mp hx)).mono (by omega) (by omega) (by omega)⟩
          · unfold Tm; trivial
          · unfold Tm; decide +kernel
        · simp_arith [b_law_bent, s_law_bent_0, s_law_bent_1, s_law_bent_2, c_bent d, e1, e2, he, e4, k1, k2, ey, hk0, decide_eq_true c]
      · obtain ⟨y, s4, o4, hy, e4⟩ := bent_ok hb hL hL2 n d (k - 1) xs[a] s3 (by omega) o3 (hxs _ (List.getElem_mem ha))
        rw [show ((k - 1 : Nat) : Int) = (k : Int) - 1 by omega] at e4
        refine ⟨.tuple (xs.take a ++ [y] ++ xs.drop (a + 1)), s4, o4, ⟨by simp; omega, fun x hx => ?_⟩, ?_⟩
        · simp only [List.mem_append, List.mem_singleton] at hx
          rcases hx with (hx | rfl) | hx
          · exact tk a x hx
          · exact hy
          · exact dr _ x hx
        · have cb := c_bent d
          generalize recS G28 28 3 4 b_law_bent d = M at cb e4
          simp_arith [b_law_bent, s_law_bent_0, s_law_bent_1, s_law_bent_2, s_law_bent_3, cb, e1, e2, he, e4, k1, ha', hk0, decide_eq_false c]
    | _ => exact low fun ys h => by cases h
theorem t_bent {b L n k : Nat} {x : PyData} {s : DS} (h : s.ok) (hn : n ≤ 7) (hx : Tm b L n x) (hb : 1000000000000000000000000000000 ≤ b) (hL : 2 ≤ L) (hL2 : L ≤ 100000) : ∃ (y : PyData) (s' : DS), s'.ok ∧ Tm (b + 7) (L + 1) (n + 2) y ∧ m_law_bent [.l s.enc, .d x, .d (.int (k : Int))] = .ok (.v y, [some (.l s'.enc), some (.d x), some (.d (.int (k : Int)))]) := bent_ok hb hL hL2 n 8 k x s (by omega) h hx
end K57
end Ev

set_option maxRecDepth 100000
namespace Ev
open PySem
namespace K57
section
variable {ms : List Mc} {e0 e2 e3 e5 e6 e7 e8 e9 e10 e11 e12 e13 e14 e15 e16 e17 e18 e19 e20 e21 e22 e23 e24 e25 : Option W}
theorem lc_two {turn : PyData → Env → Rs (Env × Option PyData)} {a b : PyData} {env e1 e2 : Env} {y1 y2 : PyData} {o : Rs (Env × List PyData)} (hg : lcGo turn [a, b] env [] = o) (h1 : turn a env = .ok (e1, some y1)) (h2 : turn b e1 = .ok (e2, some y2)) : o = .ok (e2, [y1, y2]) := by
  subst hg
  unfold lcGo; rw [h1]
  show lcGo turn [b] e1 [y1] = _
  unfold lcGo; rw [h2]
  rfl
theorem low_h {y : PyData} (hy : y ∈ lowL) : nd y = true ∧ m_check_hours [.d y] = er 2 "hours" := by
  have : nd y = true ∧ wh 0 120 y = false := by
    simp only [lowL, List.mem_cons, List.not_mem_nil, or_false] at hy
    rcases hy with rfl | rfl | rfl | rfl | rfl <;> exact ⟨rfl, by decide +kernel⟩
  exact ⟨this.1, by rw [t_hours y this.1, this.2]; rfl⟩
theorem low2_h {y : PyData} (hy : y ∈ low2) : m_check_hours [.d y] = er 2 "hours" ∧ opCmp .notN y .none = some true := by
  have : nd y = true ∧ wh 0 120 y = false ∧ opCmp .notN y .none = some true := by
    simp only [low2, List.mem_cons, List.not_mem_nil, or_false] at hy
    rcases hy with rfl | rfl | rfl | rfl <;> exact ⟨rfl, by decide +kernel, by decide +kernel⟩
  exact ⟨by rw [t_hours y this.1, this.2.1]; rfl, this.2.2⟩
theorem tn (hm : Okm ms) {y : PyData} (hy : y ∈ [.none, .int (-1), .int (ms.length : Int), .bool true, S "0"]) : m_law_told [.d (.int 2), .d (MT ms), .d .none, .d y, .d .none] = .ok (.v (S "argument number"), [some (.d (.int 2)), some (.d (MT ms)), some (.d .none), some (.d y), some (.d .none)]) := by
  have e1 := mach_ok hm
  have hm6 : ms.length ≤ 6 := hm.1.2
  simp only [List.mem_cons, List.not_mem_nil, or_false] at hy
  rcases hy with rfl | rfl | rfl | rfl | rfl
  · have q := t_isint .none rfl
    rw [r_law_told]; simp_arith [b_law_told, s_law_told_0, f_law_told_0, c_law_told, r_machine_cost, b_machine_cost, s_machine_cost_0, s_machine_cost_1, c_machine_cost, e1, q, isI, w_number]
  · have q := t_isint (.int (-1)) rfl
    rw [r_law_told]; simp_arith [b_law_told, s_law_told_0, f_law_told_0, c_law_told, r_machine_cost, b_machine_cost, s_machine_cost_0, s_machine_cost_1, c_machine_cost, e1, q, isI, w_number]
  · have q := t_isint (.int (ms.length : Int)) rfl
    have q2 := decide_eq_true (show (0 : Int) ≤ ms.length by omega)
    have q3 := decide_eq_false (show ¬ (ms.length : Int) < ms.length by omega)
    rw [r_law_told]; simp_arith [b_law_told, s_law_told_0, f_law_told_0, c_law_told, r_machine_cost, b_machine_cost, s_machine_cost_0, s_machine_cost_1, c_machine_cost, e1, q, isI, q2, q3, w_number]
  · have q := t_isint (.bool true) rfl
    rw [r_law_told]; simp_arith [b_law_told, s_law_told_0, f_law_told_0, c_law_told, r_machine_cost, b_machine_cost, s_machine_cost_0, s_machine_cost_1, c_machine_cost, e1, q, isI, w_number]
  · have q := t_isint (S "0") rfl
    rw [r_law_told]; simp_arith [b_law_told, s_law_told_0, f_law_told_0, c_law_told, r_machine_cost, b_machine_cost, s_machine_cost_0, s_machine_cost_1, c_machine_cost, e1, q, isI, w_number]
theorem th0 (hm : Okm ms) {y : PyData} (hy : y ∈ lowL) : m_law_told [.d (.int 0), .d (MT ms), .d y, .d .none, .d .none] = .ok (.v (S "argument hours"), [some (.d (.int 0)), some (.d (MT ms)), some (.d y), some (.d .none), some (.d .none)]) := by
  have e1 := mach_ok hm
  have e2 := (low_h hy).2
  rw [r_law_told]; simp_arith [b_law_told, s_law_told_0, f_law_told_0, c_law_told, r_accept_hours, b_accept_hours, s_accept_hours_0, s_accept_hours_1, c_accept_hours, e1, e2, w_ahours]
theorem th1 (hm : Okm ms) {y : PyData} (hy : y ∈ lowL) : m_law_told [.d (.int 1), .d (MT ms), .d y, .d .none, .d .none] = .ok (.v (S "argument hours"), [some (.d (.int 1)), some (.d (MT ms)), some (.d y), some (.d .none), some (.d .none)]) := by
  have e1 := mach_ok hm
  have e2 := (low_h hy).2
  rw [r_law_told]; simp_arith [b_law_told, s_law_told_0, f_law_told_0, c_law_told, r_accept_costs, b_accept_costs, s_accept_costs_0, s_accept_costs_1, c_accept_costs, e1, e2, w_ahours]
theorem th3 (hm : Okm ms) {y : PyData} (hy : y ∈ lowL) : m_law_told [.d (.int 3), .d (MT ms), .d y, .d .none, .d .none] = .ok (.v (S "argument hours"), [some (.d (.int 3)), some (.d (MT ms)), some (.d y), some (.d .none), some (.d .none)]) := by
  have e1 := mach_ok hm
  have e2 := (low_h hy).2
  rw [r_law_told]; simp_arith [b_law_told, s_law_told_0, f_law_told_0, c_law_told, r_least_costs, b_least_costs, s_least_costs_0, s_least_costs_1, c_least_costs, e1, e2, w_ahours]
theorem th4 (hm : Okm ms) {y : PyData} (hy : y ∈ lowL) : m_law_told [.d (.int 4), .d (MT ms), .d y, .d .none, .d .none] = .ok (.v (S "argument hours"), [some (.d (.int 4)), some (.d (MT ms)), some (.d y), some (.d .none), some (.d .none)]) := by
  have e1 := mach_ok hm
  have e2 := (low_h hy).2
  rw [r_law_told]; simp_arith [b_law_told, s_law_told_0, f_law_told_0, c_law_told, r_best_hours, b_best_hours, s_best_hours_0, s_best_hours_1, c_best_hours, e1, e2, w_ahours]
theorem th2 (hm : Okm ms) {y : PyData} (hy : y ∈ low2) : m_law_told [.d (.int 2), .d (MT ms), .d y, .d (.int 0), .d .none] = .ok (.v (S "argument hours"), [some (.d (.int 2)), some (.d (MT ms)), some (.d y), some (.d (.int 0)), some (.d .none)]) := by
  have e1 := mach_ok hm
  have hm1 : 1 ≤ ms.length := hm.1.1
  obtain ⟨e2, e3⟩ := low2_h hy
  have q := int_i 0
  have q3 := decide_eq_true (show (0 : Int) < ms.length by omega)
  rw [r_law_told]; simp_arith [b_law_told, s_law_told_0, f_law_told_0, c_law_told, r_machine_cost, b_machine_cost, s_machine_cost_0, s_machine_cost_1, s_machine_cost_2, c_machine_cost, e1, e2, e3, q, q3, w_ahours]
theorem l8 {s : DS} (os : s.ok) {e4 : Option W} : ∃ y ∈ badM, ∃ s' : DS, s'.ok ∧ exs1 G29 f_law_4_8 [e0, some (.l s.enc), e2, e3, e4, e5, e6, e7, e8, e9, e10, e11, e12, e13, e14, e15, e16, e17, e18, e19, e20, e21, e22, e23, e24, e25] = .nx [e0, some (.l s'.enc), e2, e3, e4, e5, e6, e7, some (.d y), e9, e10, e11, e12, e13, e14, e15, e16, e17, e18, e19, e20, e21, e22, e23, e24, e25] := by
  obtain ⟨i, s', hi, os', e⟩ := tdc s os 10 (by omega) (by omega)
  obtain ⟨y, hy, ey⟩ := at_in (xs := badM) (i := i) (by simp [badM]; omega)
  refine ⟨y, hy, s', os', ?_⟩
  have ey : L2.atI [.none, .tuple [], .tuple [.tuple [.int 0, .int 0, .int 0]], .tuple [.tuple [.int 0, .int 2, .int 0, .int 1]], .tuple [.tuple [.int 0, .int 0, .int 0, .int 121]], .tuple [.tuple [.int (-1), .int 0, .int 0, .int 0]], .tuple [.tuple [.bool true, .int 0, .int 0, .int 0]], .tuple [.tuple [.int 0, .int 0, .int (10 ^ 12 + 1), .int 0]], .tuple (rep 7 [.tuple [.int 0, .int 0, .int 0, .int 0]]), .int 5] (i : Int) = some y := ey
  simp_arith [f_law_4_8, c_law, e, ey]
theorem l11 {s : DS} (os : s.ok) {e4 : Option W} : ∃ y ∈ lowL, ∃ s' : DS, s'.ok ∧ exs1 G29 f_law_4_11 [e0, some (.l s.enc), e2, e3, e4, e5, e6, e7, e8, e9, e10, e11, e12, e13, e14, e15, e16, e17, e18, e19, e20, e21, e22, e23, e24, e25] = .nx [e0, some (.l s'.enc), e2, e3, e4, e5, e6, e7, e8, some (.d y), e10, e11, e12, e13, e14, e15, e16, e17, e18, e19, e20, e21, e22, e23, e24, e25] := by
  obtain ⟨i, s', hi, os', e⟩ := tdc s os 5 (by omega) (by omega)
  obtain ⟨y, hy, ey⟩ := at_in (xs := lowL) (i := i) (by simp [lowL]; omega)
  refine ⟨y, hy, s', os', ?_⟩
  unfold lowL at ey
  simp_arith [f_law_4_11, c_law, e, ey]
theorem l14 {s : DS} (os : s.ok) {e4 : Option W} : ∃ y ∈ plL, ∃ s' : DS, s'.ok ∧ exs1 G29 f_law_4_14 [e0, some (.l s.enc), e2, e3, e4, e5, e6, e7, e8, e9, e10, e11, e12, e13, e14, e15, e16, e17, e18, e19, e20, e21, e22, e23, e24, e25] = .nx [e0, some (.l s'.enc), e2, e3, e4, e5, e6, e7, e8, e9, some (.d y), e11, e12, e13, e14, e15, e16, e17, e18, e19, e20, e21, e22, e23, e24, e25] := by
  obtain ⟨i, s', hi, os', e⟩ := tdc s os 8 (by omega) (by omega)
  obtain ⟨y, hy, ey⟩ := at_in (xs := plL) (i := i) (by simp [plL]; omega)
  refine ⟨y, hy, s', os', ?_⟩
  have ey : L2.atI [.none, .tuple [], .tuple [.int 1], .tuple [.int 1, .int (-1)], .tuple [.int 1, .bool true], .tuple [.int (10 ^ 12 + 1), .int 0], .int 5, .tuple [.int 1, .int 2, .int 3]] (i : Int) = some y := ey
  simp_arith [f_law_4_14, c_law, e, ey]
theorem l17 {s : DS} (os : s.ok) {e4 : Option W} : ∃ y ∈ oddL, ∃ s' : DS, s'.ok ∧ exs1 G29 f_law_4_17 [e0, some (.l s.enc), e2, e3, e4, e5, e6, e7, e8, e9, e10, e11, e12, e13, e14, e15, e16, e17, e18, e19, e20, e21, e22, e23, e24, e25] = .nx [e0, some (.l s'.enc), e2, e3, e4, e5, e6, e7, e8, e9, e10, some (.d y), e12, e13, e14, e15, e16, e17, e18, e19, e20, e21, e22, e23, e24, e25] := by
  obtain ⟨i, s', hi, os', e⟩ := tdc s os 10 (by omega) (by omega)
  obtain ⟨y, hy, ey⟩ := at_in (xs := oddL) (i := i) (by simp [oddL]; omega)
  refine ⟨y, hy, s', os', ?_⟩
  unfold oddL at ey
  simp_arith [f_law_4_17, c_law, e, ey]
theorem l10 (hm : Okm ms) {s : DS} (os : s.ok) : ∃ s' : DS, s'.ok ∧ exs1 G29 f_law_4_10 [e0, some (.l s.enc), e2, e3, some (.d (MT ms)), e5, e6, e7, e8, e9, e10, e11, e12, e13, e14, e15, e16, e17, e18, e19, e20, e21, e22, e23, e24, e25] = .nx [e0, some (.l s'.enc), e2, e3, some (.d (MT ms)), e5, e6, e7, e8, e9, e10, e11, e12, e13, e14, e15, e16, e17, e18, e19, e20, e21, e22, e23, e24, e25] := by
  obtain ⟨i, s', hi, os', e⟩ := tdc s os 5 (by omega) (by omega)
  obtain ⟨y, hy, ey⟩ := at_in (xs := [.none, .int (-1), .int (ms.length : Int), .bool true, S "0"]) (i := i) (by simp; omega)
  refine ⟨s', os', ?_⟩
  have e2 := tn hm hy
  have q : opCmp .ne (S "argument number") (S "argument number") = some false := by decide +kernel
  have hm6 : ms.length ≤ 6 := hm.1.2
  simp_arith [f_law_4_10, c_law, e, ey, e2, q]
theorem l13 (hm : Okm ms) {s : DS} (os : s.ok) : ∃ s' : DS, s'.ok ∧ exs1 G29 f_law_4_13 [e0, some (.l s.enc), e2, e3, some (.d (MT ms)), e5, e6, e7, e8, e9, e10, e11, e12, e13, e14, e15, e16, e17, e18, e19, e20, e21, e22, e23, e24, e25] = .nx [e0, some (.l s'.enc), e2, e3, some (.d (MT ms)), e5, e6, e7, e8, e9, e10, e11, e12, e13, e14, e15, e16, e17, e18, e19, e20, e21, e22, e23, e24, e25] := by
  obtain ⟨i, s', hi, os', e⟩ := tdc s os 4 (by omega) (by omega)
  obtain ⟨y, hy, ey⟩ := at_in (xs := low2) (i := i) (by simp [low2]; omega)
  refine ⟨s', os', ?_⟩
  have e2 := th2 hm hy
  unfold low2 at ey
  have q : opCmp .ne (S "argument hours") (S "argument hours") = some false := by decide +kernel
  simp_arith [f_law_4_13, c_law, e, ey, e2, q]
theorem l12 (hm : Okm ms) {y : PyData} (hy : y ∈ lowL) {e1 : Option W} : exs1 G29 f_law_4_12 [e0, e1, e2, e3, some (.d (MT ms)), e5, e6, e7, e8, some (.d y), e10, e11, e12, e13, e14, e15, e16, e17, e18, e19, e20, e21, e22, e23, e24, e25] = .nx [e0, e1, e2, e3, some (.d (MT ms)), e5, e6, e7, e8, some (.d y), e10, e11, e12, e13, e14, e15, e16, e17, e18, e19, e20, e21, e22, e23, e24, e25] := by
  have q : opCmp .ne (.list [S "argument hours", S "argument hours", S "argument hours", S "argument hours"]) (.list (rep 4 [S "argument hours"])) = some false := by decide +kernel
  have h0 := th0 hm hy
  have h1 := th1 hm hy
  have h3 := th3 hm hy
  have h4 := th4 hm hy
  simp_arith [f_law_4_12, c_law]
  generalize hg : lcGo _ _ _ _ = o
  have ho := D.lcm0 hg (fun _ => S "argument hours") fun x hx => by
    simp only [List.mem_cons, List.not_mem_nil, or_false] at hx
    rcases hx with rfl | rfl | rfl | rfl
    · simp_arith [c_law, h0]
    · simp_arith [c_law, h1]
    · simp_arith [c_law, h3]
    · simp_arith [c_law, h4]
  subst ho
  simp_arith [q]
theorem l19 {s : DS} (os : s.ok) {e4 : Option W} : ∃ s' : DS, s'.ok ∧ exs1 G29 f_law_4_19 [e0, some (.l s.enc), e2, e3, e4, e5, e6, e7, e8, e9, e10, e11, e12, e13, e14, e15, e16, e17, e18, e19, e20, e21, e22, e23, e24, e25] = .nx [e0, some (.l s'.enc), e2, e3, e4, e5, e6, e7, e8, e9, e10, e11, e12, e13, e14, e15, e16, e17, e18, e19, e20, e21, e22, e23, e24, e25] := by
  obtain ⟨i, s1, hi, o1, e⟩ := tdc s os 4 (by omega) (by omega)
  obtain ⟨y, hy, ey⟩ := at_in (xs := prL) (i := i) (by simp [prL]; omega)
  obtain ⟨j, s2, hj, o2, f⟩ := tdc s1 o1 4 (by omega) (by omega)
  obtain ⟨z, hz, ez⟩ := at_in (xs := prL) (i := j) (by simp [prL]; omega)
  refine ⟨s2, o2, ?_⟩
  have h7 := p7 y hy
  have h8 := p8 z hz
  have ey : L2.atI [.none, .int (-1), .int (10 ^ 12 + 1), .bool true] (i : Int) = some y := ey
  have ez : L2.atI [.none, .int (-1), .int (10 ^ 12 + 1), .bool true] (j : Int) = some z := ez
  have q : opCmp .ne (.list [S "argument price", S "argument price"]) (.list (rep 2 [S "argument price"])) = some false := by decide +kernel
  simp_arith [f_law_4_19, c_law]
  generalize hg : lcGo _ _ _ _ = o
  have ho := lc_two (e1 := [e0, some (.l s1.enc), e2, e3, e4, e5, e6, e7, e8, e9, e10, e11, e12, e13, e14, e15, e16, e17, e18, e19, e20, e21, e22, e23, none, e25]) (e2 := [e0, some (.l s2.enc), e2, e3, e4, e5, e6, e7, e8, e9, e10, e11, e12, e13, e14, e15, e16, e17, e18, e19, e20, e21, e22, e23, none, e25]) (y1 := S "argument price") (y2 := S "argument price") hg (by simp_arith [c_law, e, ey, h7]) (by simp_arith [c_law, f, ez, h8])
  subst ho
  simp_arith [q]
end
end K57
end Ev

set_option maxRecDepth 100000
namespace Ev
open PySem
namespace K57
theorem cD_tm {b L : Nat} (o : Option Int) (h : ∀ i, o = some i → -(b : Int) ≤ i ∧ i ≤ b) : Tm b L 0 (cD o) := by
  cases o with
  | none => unfold cD Tm; trivial
  | some i => have := h i rfl; unfold cD Tm; exact this
/-- some bound -/
theorem bnd (r : List (Option Int)) : ∃ b : Nat, ∀ o ∈ r, ∀ i, o = some i → -(b : Int) ≤ i ∧ i ≤ b := by
  induction r with
  | nil => exact ⟨0, by simp⟩
  | cons o r ih =>
    obtain ⟨b, hb⟩ := ih
    cases o with
    | none => exact ⟨b, fun o ho i hi => by
        rcases List.mem_cons.mp ho with rfl | ho
        · cases hi
        · exact hb o ho i hi⟩
    | some j => exact ⟨b + j.natAbs, fun o ho i hi => by
        rcases List.mem_cons.mp ho with rfl | ho
        · cases hi; omega
        · have := hb o ho i hi; omega⟩
theorem bnd2 (R : List (List (Option Int))) : ∃ b : Nat, ∀ r ∈ R, ∀ o ∈ r, ∀ i, o = some i → -(b : Int) ≤ i ∧ i ≤ b := by
  induction R with
  | nil => exact ⟨0, by simp⟩
  | cons r R ih =>
    obtain ⟨b, hb⟩ := ih
    obtain ⟨c, hc⟩ := bnd r
    refine ⟨b + c, fun r' hr o ho i hi => ?_⟩
    rcases List.mem_cons.mp hr with rfl | hr
    · have := hc o ho i hi; omega
    · have := hb r' hr o ho i hi; omega
theorem RT_tm {b L : Nat} {r : List (Option Int)} (hl : r.length ≤ L) (h : ∀ o ∈ r, ∀ i, o = some i → -(b : Int) ≤ i ∧ i ≤ b) : Tm b L 1 (RT r) := by
  refine ⟨by simpa using hl, fun x hx => ?_⟩
  obtain ⟨o, ho, rfl⟩ := List.mem_map.mp hx
  exact cD_tm o (h o ho)
theorem RR_tm {R : List (List (Option Int))} {L : Nat} (hl : R.length ≤ L) (h2 : ∀ r ∈ R, r.length ≤ L) : ∃ b, 1000000000000000000000000000000 ≤ b ∧ Tm b L 2 (.tuple (R.map RT)) := by
  obtain ⟨b, hb⟩ := bnd2 R
  refine ⟨b + 1000000000000000000000000000000, by omega, by simpa using hl, fun x hx => ?_⟩
  obtain ⟨r, hr, rfl⟩ := List.mem_map.mp hx
  exact (RT_tm (h2 r hr) (hb r hr)).mono (Nat.le_add_right _ _) (Nat.le_refl _) (Nat.le_refl _)
theorem Tm.nd2 {b L n : Nat} {x : PyData} (h : Tm b L n x) (hL : L ≤ 1000) : Nd2 x := by
  have tup : ∀ {n : Nat} {xs : List PyData}, Tm b L n (.tuple xs) → xs.length ≤ L ∧ ∃ k, ∀ x ∈ xs, Tm b L k x := by
    intro n xs h
    cases n with
    | zero => exact absurd h id
    | succ n => exact ⟨h.1, n, h.2⟩
  cases x with
  | tuple xs =>
    obtain ⟨h1, k, h2⟩ := tup h
    refine ⟨by omega, fun x hx => ⟨(h2 x hx).nd, fun ys e => ?_⟩⟩
    subst e
    obtain ⟨h3, k', h4⟩ := tup (h2 _ hx)
    exact ⟨by omega, fun y hy => (h4 y hy).nd⟩
  | _ => exact h.nd
/-- rows of cells -/
theorem nd2_rows {xs : List PyData} (hl : xs.length ≤ 1000) (h : ∀ x ∈ xs, ∃ r : List (Option Int), x = RT r ∧ r.length ≤ 1000) : Nd2 (.tuple xs) := by
  refine ⟨hl, fun x hx => ?_⟩
  obtain ⟨r, rfl, hr⟩ := h x hx
  refine ⟨rfl, fun ys e => ?_⟩
  cases e
  refine ⟨by simpa using hr, fun y hy => ?_⟩
  obtain ⟨o, _, rfl⟩ := List.mem_map.mp hy
  cases o <;> rfl
theorem nd_cD (o : Option Int) : nd (cD o) = true := by cases o <;> rfl
section
variable {ms : List Mc} {n : Nat} {R : List (List (Option Int))} {ls : Option Int} {e0 e1 e2 e3 e4 e5 e6 e7 e8 e9 e10 e11 e12 e13 e14 e15 e16 e17 e18 e19 e20 e21 e22 e23 e24 e25 : Option W}
def lastR (R : List (List (Option Int))) (ls : Option Int) (m : Nat) : List (Option Int) := (R.getD m []).take ((R.getD m []).length - 1) ++ [ls.map (· + 1)]
theorem f30 (hR : R.length = ms.length + 1) (hr : ∀ r ∈ R, r.length ≤ 200) : exs1 G29 f_law_3_0 [e0, e1, e2, e3, some (.d (MT ms)), e5, e6, e7, e8, e9, e10, e11, e12, e13, some (.d (.int (n : Int))), some (.d (.tuple (R.map RT))), some (.d (cD ls)), e17, e18, e19, e20, e21, e22, e23, e24, e25] = .nx [e0, e1, e2, e3, some (.d (MT ms)), e5, e6, e7, e8, e9, e10, e11, e12, e13, some (.d (.int (n : Int))), some (.d (.tuple (R.map RT))), some (.d (cD ls)), some (.d (RT (lastR R ls ms.length))), e18, e19, e20, e21, e22, e23, e24, e25] := by
  have a := last_R R hR
  unfold lastR
  have hl := hr _ (getD_memR (R := R) (k := ms.length) (by omega))
  generalize R.getD ms.length [] = r at *
  have hl2 : (r.take (r.length - 1)).length ≤ 200 := by simp; omega
  have k : cut (r.map cD) none (some (-1)) = (r.take (r.length - 1)).map cD := by rw [D.cut_map, D.cut_m1]
  cases ls with
  | none => simp_arith [f_law_3_0, a, k, cD, RT, List.map_append, Option.map_none]
  | some i => simp_arith [f_law_3_0, a, k, cD, RT, List.map_append, Option.map_some]
theorem f31 (hm : Okm ms) (hn : n ≤ 120) (hR : R.length = ms.length + 1) (hr : ∀ r ∈ R, r.length = n + 1) {s : DS} (os : s.ok) : ∃ (s' : DS) (x : PyData), s'.ok ∧ nd x = true ∧ Nd2 x ∧ exs1 G29 f_law_3_1 [e0, some (.l s.enc), e2, e3, some (.d (MT ms)), e5, e6, e7, e8, e9, e10, e11, e12, e13, some (.d (.int (n : Int))), some (.d (.tuple (R.map RT))), some (.d (cD ls)), some (.d (RT (lastR R ls ms.length))), e18, e19, e20, e21, e22, e23, e24, e25] = .nx [e0, some (.l s'.enc), e2, e3, some (.d (MT ms)), e5, e6, e7, e8, e9, e10, e11, e12, e13, some (.d (.int (n : Int))), some (.d (.tuple (R.map RT))), some (.d (cD ls)), some (.d (RT (lastR R ls ms.length))), some (.d (x)), e19, e20, e21, e22, e23, e24, e25] := by
  have hm6 : ms.length ≤ 6 := hm.1.2
  obtain ⟨b, hb, tb⟩ := RR_tm (R := R) (L := 200) (by omega) fun r h => by rw [hr r h]; omega
  obtain ⟨y, s1, o1, ty, e1⟩ := t_bent (k := 2) os (by omega) tb hb (by omega) (by omega)
  have e1 : m_law_bent [.l s.enc, .d (.tuple (R.map RT)), .d (.int 2)] = .ok (.v y, [some (.l s1.enc), some (.d (.tuple (R.map RT))), some (.d (.int 2))]) := e1
  obtain ⟨i, s2, hi, o2, e2⟩ := tdc s1 o1 8 (by omega) (by omega)
  obtain ⟨x, hx, ex⟩ := at_in (xs := [.tuple (R.map RT), .tuple (R.map RT), .tuple ((R.take ms.length).map RT ++ [RT (lastR R ls ms.length)]), .tuple ((R.take ms.length).map RT), y, .tuple (.tuple (.int 1 :: (R.getD 0 []).tail.map cD) :: (R.tail).map RT), .tuple ((R.take ms.length).map RT ++ [.tuple (((R.getD ms.length []).take ((R.getD ms.length []).length - 1)).map cD ++ [.int 7])]), .none]) (i := i) (by simp; omega)
  have a := last_R R hR
  have a0 : L2.atI (R.map RT) 0 = some (RT (R.getD 0 [])) := at_R (R := R) (k := 0) (by omega)
  have k1 : cut (R.map RT) none (some (-1)) = (R.take ms.length).map RT := by rw [D.cut_map, D.cut_m1, hR]; rfl
  have k2 : cut (R.map RT) (some 1) none = R.tail.map RT := by cases R with
    | nil => simp at hR
    | cons r R => exact D.cut_1 _ _
  have g0 : R.getD 0 [] ∈ R := getD_memR (by omega)
  have g1 : R.getD ms.length [] ∈ R := getD_memR (by omega)
  have l0 := hr _ g0
  have l1 := hr _ g1
  have tl : ∀ r ∈ R.tail, r.length ≤ 1000 := fun r h => by rw [hr r (List.mem_of_mem_tail h)]; omega
  have tk : ∀ r ∈ R.take ms.length, r.length ≤ 1000 := fun r h => by rw [hr r (List.mem_of_mem_take h)]; omega
  have all : ∀ r ∈ R, r.length ≤ 1000 := fun r h => by rw [hr r h]; omega
  have lm : ∀ {Q : List (List (Option Int))}, (∀ r ∈ Q, r.length ≤ 1000) → ∀ x ∈ Q.map RT, ∃ r : List (Option Int), x = RT r ∧ r.length ≤ 1000 := fun h x hx => by
    obtain ⟨r, hr, rfl⟩ := List.mem_map.mp hx
    exact ⟨r, rfl, h r hr⟩
  have hx2 : nd x = true ∧ Nd2 x := by
    unfold lastR at hx
    generalize R.getD 0 [] = r0 at *
    generalize R.getD ms.length [] = r1 at *
    simp only [List.mem_cons, List.not_mem_nil, or_false] at hx
    rcases hx with rfl | rfl | rfl | rfl | rfl | rfl | rfl | rfl
    · exact ⟨rfl, nd2_rows (by simp; omega) (lm all)⟩
    · exact ⟨rfl, nd2_rows (by simp; omega) (lm all)⟩
    · refine ⟨rfl, nd2_rows (by simp; omega) fun x hx => ?_⟩
      rcases List.mem_append.mp hx with h | h
      · exact lm tk x h
      · rw [List.mem_singleton.mp h]; exact ⟨_, rfl, by simp; omega⟩
    · exact ⟨rfl, nd2_rows (by simp; omega) (lm tk)⟩
    · exact ⟨ty.nd, ty.nd2 (by omega)⟩
    · refine ⟨rfl, nd2_rows (by simp; omega) fun x hx => ?_⟩
      rcases List.mem_cons.mp hx with h | h
      · exact ⟨some 1 :: r0.tail, h, by simp; omega⟩
      · exact lm tl x h
    · refine ⟨rfl, nd2_rows (by simp; omega) fun x hx => ?_⟩
      rcases List.mem_append.mp hx with h | h
      · exact lm tk x h
      · exact ⟨r1.take (r1.length - 1) ++ [some 7], by rw [List.mem_singleton.mp h]; show _ = PyData.tuple _; rw [List.map_append]; rfl, by simp; omega⟩
    · exact ⟨rfl, rfl⟩
  refine ⟨s2, x, o2, hx2.1, hx2.2, ?_⟩
  generalize R.getD 0 [] = r0 at *
  generalize lastR R ls ms.length = r2 at *
  generalize R.getD ms.length [] = r1 at *
  have k3 : cut (r1.map cD) none (some (-1)) = (r1.take (r1.length - 1)).map cD := by rw [D.cut_map, D.cut_m1]
  have k4 : cut (r0.map cD) (some 1) none = r0.tail.map cD := by cases r0 with
    | nil => simp at l0
    | cons r R => exact D.cut_1 _ _
  have q1 : r0.tail.length ≤ 200 := by simp; omega
  have q2 : R.tail.length ≤ 200 := by simp; omega
  have q3 : (R.take ms.length).length ≤ 200 := by simp; omega
  have q4 : (r1.take (r1.length - 1)).length ≤ 200 := by simp; omega
  simp_arith [f_law_3_1, c_law, e1, e2, a, a0, k1, k2, k3, k4, ex]
theorem f32 {s : DS} (os : s.ok) {e4 e14 e15 : Option W} : ∃ (s' : DS) (x : PyData), s'.ok ∧ nd x = true ∧ exs1 G29 f_law_3_2 [e0, some (.l s.enc), e2, e3, e4, e5, e6, e7, e8, e9, e10, e11, e12, e13, e14, e15, some (.d (cD ls)), e17, e18, e19, e20, e21, e22, e23, e24, e25] = .nx [e0, some (.l s'.enc), e2, e3, e4, e5, e6, e7, e8, e9, e10, e11, e12, e13, e14, e15, some (.d (cD ls)), e17, e18, some (.d (x)), e20, e21, e22, e23, e24, e25] := by
  obtain ⟨i, s1, hi, o1, e⟩ := tdc s os 6 (by omega) (by omega)
  cases ls with
  | none =>
    obtain ⟨x, hx, ex⟩ := at_in (xs := [.none, .none, .none, .int (0 + 1), .int (0 - 1), .bool true]) (i := i) (by simp; omega)
    refine ⟨s1, x, o1, ?_, ?_⟩
    · simp only [List.mem_cons, List.not_mem_nil, or_false] at hx
      rcases hx with rfl | rfl | rfl | rfl | rfl | rfl <;> rfl
    · have ex : L2.atI [.none, .none, .none, .int 1, .int (-1), .bool true] (i : Int) = some x := ex
      simp_arith [f_law_3_2, c_law, e, cD, ex]
  | some j =>
    obtain ⟨x, hx, ex⟩ := at_in (xs := [.int j, .int j, .none, .int (j + 1), .int (j - 1), .bool true]) (i := i) (by simp; omega)
    refine ⟨s1, x, o1, ?_, ?_⟩
    · simp only [List.mem_cons, List.not_mem_nil, or_false] at hx
      rcases hx with rfl | rfl | rfl | rfl | rfl | rfl <;> rfl
    · cases hj : j != 0 with
      | true => simp_arith [f_law_3_2, c_law, e, cD, hj, ex]
      | false =>
        obtain rfl : j = 0 := by simpa using hj
        have ex : L2.atI [.int 0, .int 0, .none, .int 1, .int (-1), .bool true] (i : Int) = some x := ex
        simp_arith [f_law_3_2, c_law, e, cD, hj, ex]
theorem f33 (hm : Okm ms) (hn : n ≤ 120) {x c : PyData} (hx : nd x = true) (hx2 : Nd2 x) (hc : nd c = true) {e15 e16 : Option W} : exs1 G29 f_law_3_3 [e0, e1, e2, e3, some (.d (MT ms)), e5, e6, e7, e8, e9, e10, e11, e12, e13, some (.d (.int (n : Int))), e15, e16, e17, some (.d (x)), some (.d (c)), e20, e21, e22, e23, e24, e25] = .nx [e0, e1, e2, e3, some (.d (MT ms)), e5, e6, e7, e8, e9, e10, e11, e12, e13, some (.d (.int (n : Int))), e15, e16, e17, some (.d (x)), some (.d (c)), e20, e21, e22, e23, e24, e25] := by
  obtain ⟨code, h1, h2⟩ := told1 (costs_both hm hn hx hx2 hc)
  have q := due_ne code
  simp_arith [f_law_3_3, c_law, h1, h2, q]
end
end K57
end Ev

set_option maxRecDepth 100000
namespace Ev
open PySem
namespace K57
theorem min2i (a b : Int) : minX [.int a, .int b] = some (.v (.int (if b < a then b else a))) := by
  rw [D.minX_ints (i := a) (r := [b]) rfl]
  unfold least least
  rfl
/-- hours of each machine that it can have -/
def Shr (ms : List Mc) (O : List (Option Int)) : Prop := ∀ j < O.length, ∀ i, O.getD j none = some i → i ≤ (ms.getD j m0).m
section
variable {ms : List Mc} {n : Nat} {O : List (Option Int)} {e0 e1 e2 e3 e4 e5 e6 e7 e8 e9 e10 e11 e12 e13 e14 e15 e16 e17 e18 e19 e20 e21 e22 e23 e24 e25 : Option W}
theorem f34 {e4 : Option W} : exs1 G29 f_law_3_4 [e0, e1, e2, e3, e4, e5, e6, e7, e8, e9, e10, e11, e12, e13, some (.d (.int (n : Int))), e15, e16, e17, e18, e19, e20, e21, e22, e23, e24, e25] = .nx [e0, e1, e2, e3, e4, e5, e6, e7, e8, e9, e10, e11, e12, e13, some (.d (.int (n : Int))), e15, e16, e17, e18, e19, some (.l ([])), e21, some (.d (.int (n : Int))), e23, e24, e25] := by
  simp_arith [f_law_3_4]
set_option maxHeartbeats 1000000 in
theorem f35 (hm : Okm ms) {l : Int} {s : DS} (os : s.ok) : ∃ (s' : DS) (O : List (Option Int)) (l' : Int) (w7 w23 : Option W), s'.ok ∧ O.length = ms.length ∧ Shr ms O ∧ exs1 G29 f_law_3_5 [e0, some (.l s.enc), e2, e3, some (.d (MT ms)), e5, e6, e7, e8, e9, e10, e11, e12, e13, e14, e15, e16, e17, e18, e19, some (.l ([])), e21, some (.d (.int l)), e23, e24, e25] = .nx [e0, some (.l s'.enc), e2, e3, some (.d (MT ms)), e5, e6, w7, e8, e9, e10, e11, e12, e13, e14, e15, e16, e17, e18, e19, some (.l (O.map cD)), e21, some (.d (.int l')), w23, e24, e25] := by
  have hm6 : ms.length ≤ 6 := hm.1.2
  simp_arith [f_law_3_5]
  generalize hg : forGo _ _ _ = o
  obtain ⟨_, rfl, s', O, l', w7, w23, o1, hO, hS, rfl⟩ := D.loop hg (fun k e => ∃ (s' : DS) (O : List (Option Int)) (l' : Int) (w7 w23 : Option W), s'.ok ∧ O.length = k ∧ Shr ms O ∧ e = [e0, some (.l s'.enc), e2, e3, some (.d (MT ms)), e5, e6, w7, e8, e9, e10, e11, e12, e13, e14, e15, e16, e17, e18, e19, some (.l (O.map cD)), e21, some (.d (.int l')), w23, e24, e25]) ⟨s, [], l, _, _, os, rfl, fun j h => absurd h (Nat.not_lt_zero _), rfl⟩ (by
    rintro k c _ hk ⟨s, O, l, w7, w23, os, hO, hS, rfl⟩ J Q hJ
    obtain ⟨hkm, hkc⟩ := List.getElem?_eq_some_iff.mp hk
    have hc : ms.getD k m0 = c := by rw [List.getD_eq_getElem?_getD, hk]; rfl
    have okc := hm.2 c (hc ▸ getD_memM hkm)
    obtain ⟨⟨_, _⟩, ⟨_, _⟩, ⟨_, _⟩, cm⟩ := okc
    obtain ⟨q, s1, hq, o1, d1⟩ := tdc s os ((c.m : Int) + 1) (by omega) (by omega)
    obtain ⟨i, s2, hi, o2, d2⟩ := tdc s1 o1 4 (by omega) (by omega)
    have mn := min2i l (c.m : Int)
    have mle : (if (c.m : Int) < l then (c.m : Int) else l) ≤ c.m := by split <;> omega
    generalize (if (c.m : Int) < l then (c.m : Int) else l) = mv at mn mle
    obtain ⟨x, hx, ex⟩ := at_in (xs := [.none, .int mv, .int mv, .int (q : Int)]) (i := i) (by simp; omega)
    obtain ⟨o, rfl, ho⟩ : ∃ o : Option Int, x = cD o ∧ ∀ i, o = some i → i ≤ c.m := by
      simp only [List.mem_cons, List.not_mem_nil, or_false] at hx
      rcases hx with rfl | rfl | rfl | rfl
      · exact ⟨none, rfl, by simp⟩
      · exact ⟨some mv, rfl, by simp; omega⟩
      · exact ⟨some mv, rfl, by simp; omega⟩
      · exact ⟨some q, rfl, by simp; omega⟩
    have hS2 : Shr ms (O ++ [o]) := by
      intro j hj i hi
      rw [List.length_append] at hj
      by_cases h : j < O.length
      · rw [List.getD_eq_getElem?_getD, List.getElem?_append_left h, ← List.getD_eq_getElem?_getD] at hi
        exact hS j h i hi
      · obtain rfl : j = k := by simp at hj; omega
        rw [List.getD_eq_getElem?_getD, List.getElem?_append_right (by omega), hO, Nat.sub_self] at hi
        rw [hc]
        exact ho i hi
    have fin : ∀ (l' : Int) (w23 : Option W), J [e0, some (.l s2.enc), e2, e3, some (.d (MT ms)), e5, e6, some (.d (mD c)), e8, e9, e10, e11, e12, e13, e14, e15, e16, e17, e18, e19, some (.l (O.map cD ++ [cD o])), e21, some (.d (.int l')), w23, e24, e25] := fun l' w23 => hJ _ ⟨s2, O ++ [o], l', _, _, o2, by simp [hO], hS2, by rw [List.map_append]; rfl⟩
    have hOl : (O.map cD).length ≤ 1000 := by rw [List.length_map]; omega
    have hOl2 : O.length ≤ 1000 := by omega
    cases o with
    | none =>
      have ex : L2.atI [PyData.none, .int mv, .int mv, .int (q : Int)] (i : Int) = some PyData.none := ex
      by_cases c0 : 0 ≤ l
      · simp_arith [f_law_2, c_law, mD, d1, d2, mn, ex, decide_eq_true c0]
        exact fin _ _
      · simp_arith [f_law_2, c_law, mD, d1, d2, mn, ex, decide_eq_false c0]
        exact fin _ _
    | some v =>
      have ex : L2.atI [PyData.none, .int mv, .int mv, .int (q : Int)] (i : Int) = some (PyData.int v) := ex
      cases hv : v != 0 with
      | true =>
        by_cases c0 : v ≤ l
        · simp_arith [f_law_2, c_law, mD, d1, d2, mn, ex, hv, decide_eq_true c0]
          exact fin _ _
        · simp_arith [f_law_2, c_law, mD, d1, d2, mn, ex, hv, decide_eq_false c0]
          exact fin _ _
      | false =>
        by_cases c0 : 0 ≤ l
        · simp_arith [f_law_2, c_law, mD, d1, d2, mn, ex, hv, decide_eq_true c0]
          exact fin _ _
        · simp_arith [f_law_2, c_law, mD, d1, d2, mn, ex, hv, decide_eq_false c0]
          exact fin _ _)
  exact ⟨s', O, l', w7, w23, o1, hO, hS, rfl⟩
theorem f36 (hO : O.length ≤ 6) : exs1 G29 f_law_3_6 [e0, e1, e2, e3, e4, e5, e6, e7, e8, e9, e10, e11, e12, e13, e14, e15, e16, e17, e18, e19, some (.l (O.map cD)), e21, e22, e23, e24, e25] = .nx [e0, e1, e2, e3, e4, e5, e6, e7, e8, e9, e10, e11, e12, e13, e14, e15, e16, e17, e18, e19, some (.d (RT O)), e21, e22, e23, e24, e25] := by
  simp_arith [f_law_3_6]
theorem f37 (hm : Okm ms) (hO : O.length = ms.length) {s : DS} (os : s.ok) : ∃ (s' : DS) (x : PyData), s'.ok ∧ nd x = true ∧ (∀ xs, x = .tuple xs → xs.length ≤ 1000 ∧ ∀ y ∈ xs, nd y = true) ∧ exs1 G29 f_law_3_7 [e0, some (.l s.enc), e2, e3, some (.d (MT ms)), e5, e6, e7, e8, e9, e10, e11, e12, e13, e14, e15, e16, e17, e18, e19, some (.d (RT O)), e21, e22, e23, e24, e25] = .nx [e0, some (.l s'.enc), e2, e3, some (.d (MT ms)), e5, e6, e7, e8, e9, e10, e11, e12, e13, e14, e15, e16, e17, some (.d (x)), e19, some (.d (RT O)), e21, e22, e23, e24, e25] := by
  have hm6 : ms.length ≤ 6 := hm.1.2
  have hm1 : 1 ≤ ms.length := hm.1.1
  obtain ⟨b, hb⟩ := bnd O
  have tb : Tm (b + 1000000000000000000000000000000) 200 1 (RT O) := (RT_tm (b := b) (L := 200) (by omega) hb).mono (Nat.le_add_right _ _) (Nat.le_refl _) (Nat.le_refl _)
  obtain ⟨y, s1, o1, ty, e1⟩ := t_bent (k := 1) os (by omega) tb (Nat.le_add_left _ _) (by omega) (by omega)
  have e1 : m_law_bent [.l s.enc, .d (RT O), .d (.int 1)] = .ok (.v y, [some (.l s1.enc), some (.d (RT O)), some (.d (.int 1))]) := e1
  obtain ⟨i, s2, hi, o2, e2⟩ := tdc s1 o1 6 (by omega) (by omega)
  obtain ⟨x, hx, ex⟩ := at_in (xs := [RT O, RT O, RT (O.take (O.length - 1)), y, .tuple ((O.take (O.length - 1)).map cD ++ [.int (((ms.getD (ms.length - 1) m0).m : Int) + 1)]), .none]) (i := i) (by simp; omega)
  have a : L2.atI (ms.map mD) (-1) = some (mD (ms.getD (ms.length - 1) m0)) := by
    rw [D.atI_neg1 _ (by rw [List.length_map]; omega), List.length_map, List.getElem?_map, List.getElem?_eq_getElem (by omega), List.getD_eq_getElem?_getD, List.getElem?_eq_getElem (by omega)]; rfl
  have k1 : cut (O.map cD) none (some (-1)) = (O.take (O.length - 1)).map cD := by rw [D.cut_map, D.cut_m1]
  have q4 : (O.take (O.length - 1)).length ≤ 200 := by simp; omega
  have nds : ∀ {Q : List (Option Int)}, ∀ y ∈ Q.map cD, nd y = true := fun y hy => by
    obtain ⟨o, _, rfl⟩ := List.mem_map.mp hy
    exact nd_cD o
  have hx2 : nd x = true ∧ (∀ xs, x = .tuple xs → xs.length ≤ 1000 ∧ ∀ y ∈ xs, nd y = true) := by
    simp only [List.mem_cons, List.not_mem_nil, or_false] at hx
    rcases hx with rfl | rfl | rfl | rfl | rfl | rfl
    · exact ⟨rfl, fun xs h => by cases h; exact ⟨by simp; omega, nds⟩⟩
    · exact ⟨rfl, fun xs h => by cases h; exact ⟨by simp; omega, nds⟩⟩
    · exact ⟨rfl, fun xs h => by cases h; exact ⟨by simp; omega, nds⟩⟩
    · refine ⟨ty.nd, fun xs h => ?_⟩
      subst h
      exact ⟨Nat.le_trans ty.1 (by omega), fun y hy => (ty.2 y hy).nd⟩
    · refine ⟨rfl, fun xs h => ?_⟩
      cases h
      refine ⟨by simp; omega, fun y hy => ?_⟩
      rcases List.mem_append.mp hy with h | h
      · exact nds y h
      · rw [List.mem_singleton.mp h]; rfl
    · exact ⟨rfl, fun xs h => by cases h⟩
  refine ⟨s2, x, o2, hx2.1, hx2.2, ?_⟩
  generalize ms.getD (ms.length - 1) m0 = c at *
  obtain ⟨r, f, p, m⟩ := c
  have a : L2.atI (ms.map mD) (-1) = some (.tuple [.int r, .int f, .int p, .int (m : Int)]) := a
  simp_arith [f_law_3_7, c_law, e1, e2, a, k1, ex]
theorem asO {xs : List Nat} {f : Nat → Option Int} (h : ∀ k ∈ xs, ∃ i, f k = some i) : ∃ l : List Int, (xs.map fun k => cD (f k)) = l.map .int := by
  induction xs with
  | nil => exact ⟨[], rfl⟩
  | cons x xs ih =>
    obtain ⟨l, hl⟩ := ih fun k hk => h k (by simp [hk])
    obtain ⟨i, hi⟩ := h x (by simp)
    exact ⟨i :: l, by rw [List.map_cons, hl, hi]; rfl⟩
theorem f38 (hm : Okm ms) (hO : O.length = ms.length) (hS : Shr ms O) : ∃ p : Int, exs1 G29 f_law_3_8 [e0, e1, e2, e3, some (.d (MT ms)), e5, e6, e7, e8, e9, e10, e11, e12, e13, e14, e15, e16, e17, e18, e19, some (.d (RT O)), e21, e22, e23, e24, e25] = .nx [e0, e1, e2, e3, some (.d (MT ms)), e5, e6, e7, e8, e9, e10, e11, e12, e13, e14, e15, e16, e17, e18, e19, some (.d (RT O)), some (.d (.int p)), e22, e23, e24, e25] := by
  have hm6 : ms.length ≤ 6 := hm.1.2
  obtain ⟨l, hl⟩ := asO (xs := List.range O.length) (f := fun k => costO (ms.getD k m0) (O.getD k none)) fun k hk => by
    have hk := List.mem_range.mp hk
    have := hS k hk
    cases h : O.getD k none with
    | none => exact ⟨0, rfl⟩
    | some i => exact ⟨_, if_neg (show ¬ ((ms.getD k m0).m : Int) < i by have := this i h; omega)⟩
  have ll : l.length = O.length := by
    have := congrArg List.length hl
    simpa using this.symm
  refine ⟨l.sum, ?_⟩
  simp_arith [f_law_3_8]
  generalize hg : lcGo _ _ _ _ = o
  have ho := D.lcm hg (fun k : Nat => cD (costO (ms.getD k m0) (O.getD k none))) fun k hk => by
    have hk := List.mem_range.mp hk
    have hc := hm.2 _ (getD_memM (ms := ms) (k := k) (by omega))
    have e := t_lcost hc (O.getD k none)
    simp_arith [c_law, at_M (ms := ms) (k := k) (by omega), at_c hk, e]
  subst ho
  rw [List.nil_append, hl]
  simp_arith [ll]
theorem f39 {p : Int} {s : DS} (os : s.ok) {e4 e20 : Option W} : ∃ (s' : DS) (x : PyData), s'.ok ∧ nd x = true ∧ exs1 G29 f_law_3_9 [e0, some (.l s.enc), e2, e3, e4, e5, e6, e7, e8, e9, e10, e11, e12, e13, e14, e15, e16, e17, e18, e19, e20, some (.d (.int p)), e22, e23, e24, e25] = .nx [e0, some (.l s'.enc), e2, e3, e4, e5, e6, e7, e8, e9, e10, e11, e12, e13, e14, e15, e16, e17, e18, some (.d (x)), e20, some (.d (.int p)), e22, e23, e24, e25] := by
  obtain ⟨i, s1, hi, o1, e⟩ := tdc s os 6 (by omega) (by omega)
  obtain ⟨x, hx, ex⟩ := at_in (xs := [.int p, .int p, .int (p - 1), .int (p + 1), .none, .bool true]) (i := i) (by simp; omega)
  refine ⟨s1, x, o1, ?_, ?_⟩
  · simp only [List.mem_cons, List.not_mem_nil, or_false] at hx
    rcases hx with rfl | rfl | rfl | rfl | rfl | rfl <;> rfl
  · simp_arith [f_law_3_9, c_law, e, ex]
theorem f310 (hm : Okm ms) (hn : n ≤ 120) {x c : PyData} (hx : nd x = true) (hx2 : ∀ xs, x = .tuple xs → xs.length ≤ 1000 ∧ ∀ y ∈ xs, nd y = true) (hc : nd c = true) {e20 : Option W} : exs1 G29 f_law_3_10 [e0, e1, e2, e3, some (.d (MT ms)), e5, e6, e7, e8, e9, e10, e11, e12, e13, some (.d (.int (n : Int))), e15, e16, e17, some (.d (x)), some (.d (c)), e20, e21, e22, e23, e24, e25] = .nx [e0, e1, e2, e3, some (.d (MT ms)), e5, e6, e7, e8, e9, e10, e11, e12, e13, some (.d (.int (n : Int))), e15, e16, e17, some (.d (x)), some (.d (c)), e20, e21, e22, e23, e24, e25] := by
  obtain ⟨code, h1, h2⟩ := told0 (hours_both hm hn hx hx2 hc)
  have q := due_ne code
  simp_arith [f_law_3_10, c_law, h1, h2, q]
end
end K57
end Ev

set_option maxRecDepth 100000
namespace Ev
open PySem
namespace K57
theorem step {G : Tab} {s : MS} {r : List MS} {e e1 : Env} {R : Ou} (h : exs1 G s e = .nx e1) (h2 : exs G r e1 = R) : exs G (s :: r) e = R := by
  rw [D.exs_cons, h, D.seq_nx]; exact h2
section
variable {ms : List Mc} {n : Nat} {R : List (List (Option Int))} {ls : Option Int} {e0 e1 e2 e3 e4 e5 e6 e7 e8 e9 e10 e11 e12 e13 e14 e15 e16 e17 e18 e19 e20 e21 e22 e23 e24 e25 : Option W}
theorem f3 (hm : Okm ms) (hn : n ≤ 120) (hR : R.length = ms.length + 1) (hr : ∀ r ∈ R, r.length = n + 1) {s : DS} (os : s.ok) : ∃ (s' : DS) (w7 w17 w18 w19 w20 w21 w22 w23 : Option W), s'.ok ∧ exs G29 f_law_3 [e0, some (.l s.enc), e2, e3, some (.d (MT ms)), e5, e6, e7, e8, e9, e10, e11, e12, e13, some (.d (.int (n : Int))), some (.d (.tuple (R.map RT))), some (.d (cD ls)), e17, e18, e19, e20, e21, e22, e23, e24, e25] = .nx [e0, some (.l s'.enc), e2, e3, some (.d (MT ms)), e5, e6, w7, e8, e9, e10, e11, e12, e13, some (.d (.int (n : Int))), some (.d (.tuple (R.map RT))), some (.d (cD ls)), w17, w18, w19, w20, w21, w22, w23, e24, e25] := by
  have hm6 : ms.length ≤ 6 := hm.1.2
  have h200 : ∀ r ∈ R, r.length ≤ 200 := fun r h => by rw [hr r h]; omega
  have h0 := f30 (n := n) (ls := ls) hR h200 (e0 := e0) (e1 := some (.l s.enc)) (e2 := e2) (e3 := e3) (e5 := e5) (e6 := e6) (e7 := e7) (e8 := e8) (e9 := e9) (e10 := e10) (e11 := e11) (e12 := e12) (e13 := e13) (e17 := e17) (e18 := e18) (e19 := e19) (e20 := e20) (e21 := e21) (e22 := e22) (e23 := e23) (e24 := e24) (e25 := e25)
  obtain ⟨s1, x, o1, hx, hx2, h1⟩ := f31 (ls := ls) hm hn hR hr os (e0 := e0) (e2 := e2) (e3 := e3) (e5 := e5) (e6 := e6) (e7 := e7) (e8 := e8) (e9 := e9) (e10 := e10) (e11 := e11) (e12 := e12) (e13 := e13) (e18 := e18) (e19 := e19) (e20 := e20) (e21 := e21) (e22 := e22) (e23 := e23) (e24 := e24) (e25 := e25)
  obtain ⟨s2, c, o2, hc, h2⟩ := f32 (ls := ls) o1 (e0 := e0) (e2 := e2) (e3 := e3) (e4 := some (.d (MT ms))) (e5 := e5) (e6 := e6) (e7 := e7) (e8 := e8) (e9 := e9) (e10 := e10) (e11 := e11) (e12 := e12) (e13 := e13) (e14 := some (.d (.int (n : Int)))) (e15 := some (.d (.tuple (R.map RT)))) (e17 := some (.d (RT (lastR R ls ms.length)))) (e18 := some (.d (x))) (e19 := e19) (e20 := e20) (e21 := e21) (e22 := e22) (e23 := e23) (e24 := e24) (e25 := e25)
  have h3 := f33 hm hn hx hx2 hc (e0 := e0) (e1 := some (.l s2.enc)) (e2 := e2) (e3 := e3) (e5 := e5) (e6 := e6) (e7 := e7) (e8 := e8) (e9 := e9) (e10 := e10) (e11 := e11) (e12 := e12) (e13 := e13) (e15 := some (.d (.tuple (R.map RT)))) (e16 := some (.d (cD ls))) (e17 := some (.d (RT (lastR R ls ms.length)))) (e20 := e20) (e21 := e21) (e22 := e22) (e23 := e23) (e24 := e24) (e25 := e25)
  have h4 := f34 (n := n) (e0 := e0) (e1 := some (.l s2.enc)) (e2 := e2) (e3 := e3) (e4 := some (.d (MT ms))) (e5 := e5) (e6 := e6) (e7 := e7) (e8 := e8) (e9 := e9) (e10 := e10) (e11 := e11) (e12 := e12) (e13 := e13) (e15 := some (.d (.tuple (R.map RT)))) (e16 := some (.d (cD ls))) (e17 := some (.d (RT (lastR R ls ms.length)))) (e18 := some (.d (x))) (e19 := some (.d (c))) (e20 := e20) (e21 := e21) (e22 := e22) (e23 := e23) (e24 := e24) (e25 := e25)
  obtain ⟨s3, O, l, w7, w23, o3, hO, hS, h5⟩ := f35 hm (l := (n : Int)) o2 (e0 := e0) (e2 := e2) (e3 := e3) (e5 := e5) (e6 := e6) (e7 := e7) (e8 := e8) (e9 := e9) (e10 := e10) (e11 := e11) (e12 := e12) (e13 := e13) (e14 := some (.d (.int (n : Int)))) (e15 := some (.d (.tuple (R.map RT)))) (e16 := some (.d (cD ls))) (e17 := some (.d (RT (lastR R ls ms.length)))) (e18 := some (.d (x))) (e19 := some (.d (c))) (e21 := e21) (e23 := e23) (e24 := e24) (e25 := e25)
  have h6 := f36 (O := O) (by omega) (e0 := e0) (e1 := some (.l s3.enc)) (e2 := e2) (e3 := e3) (e4 := some (.d (MT ms))) (e5 := e5) (e6 := e6) (e7 := w7) (e8 := e8) (e9 := e9) (e10 := e10) (e11 := e11) (e12 := e12) (e13 := e13) (e14 := some (.d (.int (n : Int)))) (e15 := some (.d (.tuple (R.map RT)))) (e16 := some (.d (cD ls))) (e17 := some (.d (RT (lastR R ls ms.length)))) (e18 := some (.d (x))) (e19 := some (.d (c))) (e21 := e21) (e22 := some (.d (.int l))) (e23 := w23) (e24 := e24) (e25 := e25)
  obtain ⟨s4, z, o4, hz, hz2, h7⟩ := f37 hm hO o3 (e0 := e0) (e2 := e2) (e3 := e3) (e5 := e5) (e6 := e6) (e7 := w7) (e8 := e8) (e9 := e9) (e10 := e10) (e11 := e11) (e12 := e12) (e13 := e13) (e14 := some (.d (.int (n : Int)))) (e15 := some (.d (.tuple (R.map RT)))) (e16 := some (.d (cD ls))) (e17 := some (.d (RT (lastR R ls ms.length)))) (e18 := some (.d (x))) (e19 := some (.d (c))) (e21 := e21) (e22 := some (.d (.int l))) (e23 := w23) (e24 := e24) (e25 := e25)
  obtain ⟨p, h8⟩ := f38 hm hO hS (e0 := e0) (e1 := some (.l s4.enc)) (e2 := e2) (e3 := e3) (e5 := e5) (e6 := e6) (e7 := w7) (e8 := e8) (e9 := e9) (e10 := e10) (e11 := e11) (e12 := e12) (e13 := e13) (e14 := some (.d (.int (n : Int)))) (e15 := some (.d (.tuple (R.map RT)))) (e16 := some (.d (cD ls))) (e17 := some (.d (RT (lastR R ls ms.length)))) (e18 := some (.d (z))) (e19 := some (.d (c))) (e21 := e21) (e22 := some (.d (.int l))) (e23 := w23) (e24 := e24) (e25 := e25)
  obtain ⟨s5, c2, o5, hc2, h9⟩ := f39 (p := p) o4 (e0 := e0) (e2 := e2) (e3 := e3) (e4 := some (.d (MT ms))) (e5 := e5) (e6 := e6) (e7 := w7) (e8 := e8) (e9 := e9) (e10 := e10) (e11 := e11) (e12 := e12) (e13 := e13) (e14 := some (.d (.int (n : Int)))) (e15 := some (.d (.tuple (R.map RT)))) (e16 := some (.d (cD ls))) (e17 := some (.d (RT (lastR R ls ms.length)))) (e18 := some (.d (z))) (e19 := some (.d (c))) (e20 := some (.d (RT O))) (e22 := some (.d (.int l))) (e23 := w23) (e24 := e24) (e25 := e25)
  have h10 := f310 hm hn hz hz2 hc2 (e0 := e0) (e1 := some (.l s5.enc)) (e2 := e2) (e3 := e3) (e5 := e5) (e6 := e6) (e7 := w7) (e8 := e8) (e9 := e9) (e10 := e10) (e11 := e11) (e12 := e12) (e13 := e13) (e15 := some (.d (.tuple (R.map RT)))) (e16 := some (.d (cD ls))) (e17 := some (.d (RT (lastR R ls ms.length)))) (e20 := some (.d (RT O))) (e21 := some (.d (.int p))) (e22 := some (.d (.int l))) (e23 := w23) (e24 := e24) (e25 := e25)
  refine ⟨s5, w7, some (.d (RT (lastR R ls ms.length))), some (.d (z)), some (.d (c2)), some (.d (RT O)), some (.d (.int p)), some (.d (.int l)), w23, o5, ?_⟩
  unfold f_law_3
  exact step h0 <| step h1 <| step h2 <| step h3 <| step h4 <| step h5 <| step h6 <| step h7 <| step h8 <| step h9 <| step h10 <| rfl
theorem f42 {g : Bool} {s : DS} (os : s.ok) : ∃ (s' : DS) (ms : List Mc) (w5 w13 : Option W), s'.ok ∧ Okm ms ∧ exs1 G29 f_law_4_2 [e0, some (.l s.enc), e2, some (.d (.bool g)), some (.l ([])), e5, e6, e7, e8, e9, e10, e11, e12, e13, e14, e15, e16, e17, e18, e19, e20, e21, e22, e23, e24, e25] = .nx [e0, some (.l s'.enc), e2, some (.d (.bool g)), some (.l (ms.map mD)), w5, e6, e7, e8, e9, e10, e11, e12, w13, e14, e15, e16, e17, e18, e19, e20, e21, e22, e23, e24, e25] := by
  have turn : ∀ (N : Nat), N ≤ 6 → ∀ (s : DS), s.ok → ∀ o, forGo (D.forT G29 (.n 5) f_law_0) ((List.range N).map fun k : Nat => .int (k : Int)) [e0, some (.l s.enc), e2, some (.d (.bool g)), some (.l ([])), e5, e6, e7, e8, e9, e10, e11, e12, e13, e14, e15, e16, e17, e18, e19, e20, e21, e22, e23, e24, e25] = o → ∃ (s' : DS) (ms : List Mc) (w5 w13 : Option W), s'.ok ∧ (ms.length = N ∧ ∀ c ∈ ms, c.ok) ∧ o = .nx [e0, some (.l s'.enc), e2, some (.d (.bool g)), some (.l (ms.map mD)), w5, e6, e7, e8, e9, e10, e11, e12, w13, e14, e15, e16, e17, e18, e19, e20, e21, e22, e23, e24, e25] := by
    intro N hN s os o hg
    obtain ⟨_, rfl, s', M, w5, w13, o1, hM, rfl⟩ := D.loopR hg (fun k e => ∃ (s' : DS) (ms : List Mc) (w5 w13 : Option W), s'.ok ∧ (ms.length = k ∧ ∀ c ∈ ms, c.ok) ∧ e = [e0, some (.l s'.enc), e2, some (.d (.bool g)), some (.l (ms.map mD)), w5, e6, e7, e8, e9, e10, e11, e12, w13, e14, e15, e16, e17, e18, e19, e20, e21, e22, e23, e24, e25]) ⟨s, [], _, _, os, ⟨rfl, by simp⟩, rfl⟩ (by
      rintro k _ hk ⟨s, M, w5, w13, os, ⟨hl, hM⟩, rfl⟩ J Q hJ
      have l1 : (M.map mD).length ≤ 1000 := by rw [List.length_map]; omega
      have l2 : M.length ≤ 1000 := by omega
      cases g with
      | true =>
        obtain ⟨m, s1, hm, o1, d1⟩ := tdc s os 21 (by omega) (by omega)
        obtain ⟨r, s2, hr, o2, d2⟩ := tdc s1 o1 9 (by omega) (by omega)
        obtain ⟨f, s3, hf, o3, d3⟩ := tdc s2 o2 ((m : Int) + 1) (by omega) (by omega)
        obtain ⟨p, s4, hp, o4, d4⟩ := tdc s3 o3 5 (by omega) (by omega)
        simp_arith [f_law_0, c_law, d1, d2, d3, d4]
        refine hJ _ ⟨s4, M ++ [⟨r, f, p, m⟩], _, _, o4, ⟨by simp [hl], fun c hc => ?_⟩, by rw [List.map_append]; rfl⟩
        rcases List.mem_append.mp hc with h | h
        · exact hM c h
        · rw [List.mem_singleton.mp h]; exact ⟨⟨by show (0 : Int) ≤ r; omega, by show (r : Int) ≤ 100; omega⟩, ⟨by show (0 : Int) ≤ f; omega, by show (f : Int) ≤ m; omega⟩, ⟨by show (0 : Int) ≤ p; omega, by show (p : Int) ≤ 100; omega⟩, by show m ≤ 100; omega⟩
      | false =>
        obtain ⟨m, s1, hm, o1, d1⟩ := tdc s os 6 (by omega) (by omega)
        obtain ⟨r, s2, hr, o2, d2⟩ := tdc s1 o1 9 (by omega) (by omega)
        obtain ⟨f, s3, hf, o3, d3⟩ := tdc s2 o2 ((m : Int) + 1) (by omega) (by omega)
        obtain ⟨p, s4, hp, o4, d4⟩ := tdc s3 o3 5 (by omega) (by omega)
        simp_arith [f_law_0, c_law, d1, d2, d3, d4]
        refine hJ _ ⟨s4, M ++ [⟨r, f, p, m⟩], _, _, o4, ⟨by simp [hl], fun c hc => ?_⟩, by rw [List.map_append]; rfl⟩
        rcases List.mem_append.mp hc with h | h
        · exact hM c h
        · rw [List.mem_singleton.mp h]; exact ⟨⟨by show (0 : Int) ≤ r; omega, by show (r : Int) ≤ 100; omega⟩, ⟨by show (0 : Int) ≤ f; omega, by show (f : Int) ≤ m; omega⟩, ⟨by show (0 : Int) ≤ p; omega, by show (p : Int) ≤ 100; omega⟩, by show m ≤ 100; omega⟩)
    exact ⟨s', M, w5, w13, o1, hM, rfl⟩
  cases g with
  | true =>
    obtain ⟨s', M, w5, w13, o1, ⟨h1, h2⟩, e⟩ := turn 6 (by omega) s os _ rfl
    refine ⟨s', M, w5, w13, o1, ⟨⟨by omega, by omega⟩, h2⟩, ?_⟩
    simp_arith [f_law_4_2]
    rw [e]; rfl
  | false =>
    obtain ⟨N, s0, hN, o0, d0⟩ := tdc s os 3 (by omega) (by omega)
    obtain ⟨s', M, w5, w13, o1, ⟨h1, h2⟩, e⟩ := turn (N + 1) (by omega) s0 o0 _ rfl
    refine ⟨s', M, w5, w13, o1, ⟨⟨by omega, by omega⟩, h2⟩, ?_⟩
    simp_arith [f_law_4_2, c_law, d0]
    rw [e]; rfl
end
end K57
end Ev

set_option maxRecDepth 100000
namespace Ev
open PySem
namespace K57
section
variable {ms : List Mc} {n : Nat} {R : List (List (Option Int))} {ls : Option Int} {e0 e1 e2 e3 e4 e5 e6 e7 e8 e9 e10 e11 e12 e13 e14 e15 e16 e17 e18 e19 e20 e21 e22 e23 e24 e25 : Option W}
theorem f40 {s : DS} (os : s.ok) {e4 : Option W} : ∃ (s' : DS) (g : Bool), s'.ok ∧ exs1 G29 f_law_4_0 [e0, some (.l s.enc), e2, e3, e4, e5, e6, e7, e8, e9, e10, e11, e12, e13, e14, e15, e16, e17, e18, e19, e20, e21, e22, e23, e24, e25] = .nx [e0, some (.l s'.enc), e2, some (.d (.bool g)), e4, e5, e6, e7, e8, e9, e10, e11, e12, e13, e14, e15, e16, e17, e18, e19, e20, e21, e22, e23, e24, e25] := by
  obtain ⟨i, s1, hi, o1, d⟩ := tdc s os 6 (by omega) (by omega)
  refine ⟨s1, decide ((i : Int) = 0), o1, ?_⟩
  simp_arith [f_law_4_0, c_law, d]
theorem f41 {e4 : Option W} : exs1 G29 f_law_4_1 [e0, e1, e2, e3, e4, e5, e6, e7, e8, e9, e10, e11, e12, e13, e14, e15, e16, e17, e18, e19, e20, e21, e22, e23, e24, e25] = .nx [e0, e1, e2, e3, some (.l ([])), e5, e6, e7, e8, e9, e10, e11, e12, e13, e14, e15, e16, e17, e18, e19, e20, e21, e22, e23, e24, e25] := by
  simp_arith [f_law_4_1]
theorem f43 (hm : Okm ms) {g : Bool} {s : DS} (os : s.ok) : ∃ (s' : DS) (n : Nat), s'.ok ∧ n ≤ 49 ∧ exs1 G29 f_law_4_3 [e0, some (.l s.enc), e2, some (.d (.bool g)), some (.l (ms.map mD)), e5, e6, e7, e8, e9, e10, e11, e12, e13, e14, e15, e16, e17, e18, e19, e20, e21, e22, e23, e24, e25] = .nx [e0, some (.l s'.enc), e2, some (.d (.bool g)), some (.d (MT ms)), e5, e6, e7, e8, e9, e10, e11, e12, e13, some (.d (.int (n : Int))), e15, e16, e17, e18, e19, e20, e21, e22, e23, e24, e25] := by
  have hm6 : ms.length ≤ 6 := hm.1.2
  cases g with
  | true =>
    obtain ⟨i, s1, hi, o1, d⟩ := tdc s os 20 (by omega) (by omega)
    refine ⟨s1, 30 + i, o1, by omega, ?_⟩
    rw [show ((30 + i : Nat) : Int) = 30 + (i : Int) by omega]
    simp_arith [f_law_4_3, c_law, d]
  | false =>
    obtain ⟨i, s1, hi, o1, d⟩ := tdc s os 7 (by omega) (by omega)
    refine ⟨s1, i, o1, by omega, ?_⟩
    simp_arith [f_law_4_3, c_law, d]
def row0 (n : Nat) : List (Option Int) := some 0 :: List.replicate n none
theorem rep_none (n : Nat) : rep n [PyData.none] = (List.replicate n (none : Option Int)).map cD := by
  induction n with
  | zero => rfl
  | succ n ih => rw [List.replicate_succ, List.map_cons, ← ih]; rfl
theorem f44 (hn : n ≤ 120) {e4 : Option W} : exs1 G29 f_law_4_4 [e0, e1, e2, e3, e4, e5, e6, e7, e8, e9, e10, e11, e12, e13, some (.d (.int (n : Int))), e15, e16, e17, e18, e19, e20, e21, e22, e23, e24, e25] = .nx [e0, e1, e2, e3, e4, e5, some (.l ([RT (row0 n)])), e7, e8, e9, e10, e11, e12, e13, some (.d (.int (n : Int))), e15, e16, e17, e18, e19, e20, e21, e22, e23, e24, e25] := by
  have h := rep_none n
  have hl : (rep n [PyData.none]).length ≤ 200 := by rw [h]; simp; omega
  have e : RT (row0 n) = .tuple (.int 0 :: rep n [PyData.none]) := by rw [h]; rfl
  rw [e]
  have q : -2 ^ 63 ≤ (n : Int) ∧ (n : Int) ≤ 100000 ∧ n * 1 ≤ 1000000 := ⟨by omega, by omega, by omega⟩
  simp_arith [f_law_4_4, if_pos q]
theorem f45 (hm : Okm ms) (hn : n ≤ 120) : ∃ (R : List (List (Option Int))) (w7 : Option W), R.length = ms.length + 1 ∧ (∀ r ∈ R, r.length = n + 1) ∧ exs1 G29 f_law_4_5 [e0, e1, e2, e3, some (.d (MT ms)), e5, some (.l ([RT (row0 n)])), e7, e8, e9, e10, e11, e12, e13, e14, e15, e16, e17, e18, e19, e20, e21, e22, e23, e24, e25] = .nx [e0, e1, e2, e3, some (.d (MT ms)), e5, some (.l (R.map RT)), w7, e8, e9, e10, e11, e12, e13, e14, e15, e16, e17, e18, e19, e20, e21, e22, e23, e24, e25] := by
  have hm6 : ms.length ≤ 6 := hm.1.2
  simp_arith [f_law_4_5]
  generalize hg : forGo _ _ _ = o
  obtain ⟨_, rfl, R, w7, hR, hr, rfl⟩ := D.loop hg (fun k e => ∃ (R : List (List (Option Int))) (w7 : Option W), R.length = k + 1 ∧ (∀ r ∈ R, r.length = n + 1) ∧ e = [e0, e1, e2, e3, some (.d (MT ms)), e5, some (.l (R.map RT)), w7, e8, e9, e10, e11, e12, e13, e14, e15, e16, e17, e18, e19, e20, e21, e22, e23, e24, e25]) ⟨[row0 n], _, rfl, by simp [row0], rfl⟩ (by
    rintro k c _ hk ⟨R, w7, hR, hr, rfl⟩ J Q hJ
    have okc := hm.2 c (List.mem_of_getElem? hk)
    have hkm : k < ms.length := (List.getElem?_eq_some_iff.mp hk).1
    have a := last_R R hR
    have l := hr _ (getD_memR (R := R) (k := k) (by omega))
    have d := t_lnext (r := R.getD k []) okc (by omega)
    have l2 : (nx (R.getD k []) c).length = n + 1 := by rw [nx_len, l]
    generalize nx (R.getD k []) c = r2 at *
    generalize R.getD k [] = r1 at *
    have l3 : R.length ≤ 1000 := by omega
    simp_arith [f_law_1, c_law, a, d]
    refine hJ _ ⟨R ++ [r2], _, by simp [hR], fun r h => ?_, by rw [List.map_append]; rfl⟩
    rcases List.mem_append.mp h with h | h
    · exact hr r h
    · rw [List.mem_singleton.mp h]; exact l2)
  exact ⟨R, w7, hR, hr, rfl⟩
theorem f46 (hn : n ≤ 120) (hm : Okm ms) (hR : R.length = ms.length + 1) (hr : ∀ r ∈ R, r.length = n + 1) {e4 : Option W} : ∃ ls : Option Int, exs1 G29 f_law_4_6 [e0, e1, e2, e3, e4, e5, some (.l (R.map RT)), e7, e8, e9, e10, e11, e12, e13, some (.d (.int (n : Int))), e15, e16, e17, e18, e19, e20, e21, e22, e23, e24, e25] = .nx [e0, e1, e2, e3, e4, e5, some (.l (R.map RT)), e7, e8, e9, e10, e11, e12, e13, some (.d (.int (n : Int))), some (.d (.tuple (R.map RT))), some (.d (cD ls)), e17, e18, e19, e20, e21, e22, e23, e24, e25] := by
  have hm6 : ms.length ≤ 6 := hm.1.2
  have a := last_R R hR
  have l := hr _ (getD_memR (R := R) (k := ms.length) (by omega))
  have b := at_c (r := R.getD ms.length []) (k := n) (by omega)
  refine ⟨(R.getD ms.length []).getD n none, ?_⟩
  generalize R.getD ms.length [] = r1 at *
  have l3 : R.length ≤ 1000 := by omega
  simp_arith [f_law_4_6, a, b]
theorem f47 (hm : Okm ms) (hn : n ≤ 120) (hR : R.length = ms.length + 1) (hr : ∀ r ∈ R, r.length = n + 1) {g : Bool} {s : DS} (os : s.ok) : ∃ (s' : DS) (w5 w7 w17 w18 w19 w20 w21 w22 w23 : Option W), s'.ok ∧ exs1 G29 f_law_4_7 [e0, some (.l s.enc), e2, some (.d (.bool g)), some (.d (MT ms)), e5, e6, e7, e8, e9, e10, e11, e12, e13, some (.d (.int (n : Int))), some (.d (.tuple (R.map RT))), some (.d (cD ls)), e17, e18, e19, e20, e21, e22, e23, e24, e25] = .nx [e0, some (.l s'.enc), e2, some (.d (.bool g)), some (.d (MT ms)), w5, e6, w7, e8, e9, e10, e11, e12, e13, some (.d (.int (n : Int))), some (.d (.tuple (R.map RT))), some (.d (cD ls)), w17, w18, w19, w20, w21, w22, w23, e24, e25] := by
  have turn : ∀ (N : Nat), ∀ o, forGo (D.forT G29 (.n 5) f_law_3) ((List.range N).map fun k : Nat => .int (k : Int)) [e0, some (.l s.enc), e2, some (.d (.bool g)), some (.d (MT ms)), e5, e6, e7, e8, e9, e10, e11, e12, e13, some (.d (.int (n : Int))), some (.d (.tuple (R.map RT))), some (.d (cD ls)), e17, e18, e19, e20, e21, e22, e23, e24, e25] = o → ∃ (s' : DS) (w5 w7 w17 w18 w19 w20 w21 w22 w23 : Option W), s'.ok ∧ o = .nx [e0, some (.l s'.enc), e2, some (.d (.bool g)), some (.d (MT ms)), w5, e6, w7, e8, e9, e10, e11, e12, e13, some (.d (.int (n : Int))), some (.d (.tuple (R.map RT))), some (.d (cD ls)), w17, w18, w19, w20, w21, w22, w23, e24, e25] := by
    intro N o hg
    obtain ⟨_, rfl, s', w5, w7, w17, w18, w19, w20, w21, w22, w23, o1, rfl⟩ := D.loopR hg (fun k e => ∃ (s' : DS) (w5 w7 w17 w18 w19 w20 w21 w22 w23 : Option W), s'.ok ∧ e = [e0, some (.l s'.enc), e2, some (.d (.bool g)), some (.d (MT ms)), w5, e6, w7, e8, e9, e10, e11, e12, e13, some (.d (.int (n : Int))), some (.d (.tuple (R.map RT))), some (.d (cD ls)), w17, w18, w19, w20, w21, w22, w23, e24, e25]) ⟨s, _, _, _, _, _, _, _, _, _, os, rfl⟩ (by
      rintro k _ hk ⟨s, w5, w7, w17, w18, w19, w20, w21, w22, w23, os, rfl⟩ J Q hJ
      obtain ⟨s2, v7, v17, v18, v19, v20, v21, v22, v23, o2, e⟩ := f3 (ls := ls) hm hn hR hr os (e0 := e0) (e2 := e2) (e3 := some (.d (.bool g))) (e5 := some (.d (.int (k : Int)))) (e6 := e6) (e7 := w7) (e8 := e8) (e9 := e9) (e10 := e10) (e11 := e11) (e12 := e12) (e13 := e13) (e17 := w17) (e18 := w18) (e19 := w19) (e20 := w20) (e21 := w21) (e22 := w22) (e23 := w23) (e24 := e24) (e25 := e25)
      simp_arith [e]
      exact hJ _ ⟨s2, _, _, _, _, _, _, _, _, _, o2, rfl⟩)
    exact ⟨s', w5, w7, w17, w18, w19, w20, w21, w22, w23, o1, rfl⟩
  cases g with
  | true =>
    obtain ⟨s', w5, w7, w17, w18, w19, w20, w21, w22, w23, o1, e⟩ := turn 2 _ rfl
    refine ⟨s', w5, w7, w17, w18, w19, w20, w21, w22, w23, o1, ?_⟩
    simp_arith [f_law_4_7]
    rw [e]; rfl
  | false =>
    obtain ⟨s', w5, w7, w17, w18, w19, w20, w21, w22, w23, o1, e⟩ := turn 4 _ rfl
    refine ⟨s', w5, w7, w17, w18, w19, w20, w21, w22, w23, o1, ?_⟩
    simp_arith [f_law_4_7]
    rw [e]; rfl
end
end K57
end Ev

set_option maxRecDepth 100000
namespace Ev
open PySem
namespace K57
section
variable {e0 e1 e2 e3 e4 e5 e6 e7 e8 e9 e10 e11 e12 e13 e14 e15 e16 e17 e18 e19 e20 e21 e22 e23 e24 e25 : Option W}
theorem f4 {s : DS} (os : s.ok) : ∃ (s' : DS) (w3 w4 w5 w6 w7 w8 w9 w10 w11 w12 w13 w14 w15 w16 w17 w18 w19 w20 w21 w22 w23 w24 w25 : Option W), s'.ok ∧ exs G29 f_law_4 [e0, some (.l s.enc), e2, e3, e4, e5, e6, e7, e8, e9, e10, e11, e12, e13, e14, e15, e16, e17, e18, e19, e20, e21, e22, e23, e24, e25] = .nx [e0, some (.l s'.enc), e2, w3, w4, w5, w6, w7, w8, w9, w10, w11, w12, w13, w14, w15, w16, w17, w18, w19, w20, w21, w22, w23, w24, w25] := by
  obtain ⟨s1, g, o1, h0⟩ := f40 os (e0 := e0) (e2 := e2) (e3 := e3) (e4 := e4) (e5 := e5) (e6 := e6) (e7 := e7) (e8 := e8) (e9 := e9) (e10 := e10) (e11 := e11) (e12 := e12) (e13 := e13) (e14 := e14) (e15 := e15) (e16 := e16) (e17 := e17) (e18 := e18) (e19 := e19) (e20 := e20) (e21 := e21) (e22 := e22) (e23 := e23) (e24 := e24) (e25 := e25)
  have h1 := f41  (e0 := e0) (e1 := some (.l s1.enc)) (e2 := e2) (e3 := some (.d (.bool g))) (e4 := e4) (e5 := e5) (e6 := e6) (e7 := e7) (e8 := e8) (e9 := e9) (e10 := e10) (e11 := e11) (e12 := e12) (e13 := e13) (e14 := e14) (e15 := e15) (e16 := e16) (e17 := e17) (e18 := e18) (e19 := e19) (e20 := e20) (e21 := e21) (e22 := e22) (e23 := e23) (e24 := e24) (e25 := e25)
  obtain ⟨s2, ms, w5, w13, o2, hm, h2⟩ := f42 (g := g) o1 (e0 := e0) (e2 := e2) (e5 := e5) (e6 := e6) (e7 := e7) (e8 := e8) (e9 := e9) (e10 := e10) (e11 := e11) (e12 := e12) (e13 := e13) (e14 := e14) (e15 := e15) (e16 := e16) (e17 := e17) (e18 := e18) (e19 := e19) (e20 := e20) (e21 := e21) (e22 := e22) (e23 := e23) (e24 := e24) (e25 := e25)
  obtain ⟨s3, n, o3, hn, h3⟩ := f43 hm (g := g) o2 (e0 := e0) (e2 := e2) (e5 := w5) (e6 := e6) (e7 := e7) (e8 := e8) (e9 := e9) (e10 := e10) (e11 := e11) (e12 := e12) (e13 := w13) (e14 := e14) (e15 := e15) (e16 := e16) (e17 := e17) (e18 := e18) (e19 := e19) (e20 := e20) (e21 := e21) (e22 := e22) (e23 := e23) (e24 := e24) (e25 := e25)
  have hn : n ≤ 120 := by omega
  have h4 := f44 hn (e0 := e0) (e1 := some (.l s3.enc)) (e2 := e2) (e3 := some (.d (.bool g))) (e4 := some (.d (MT ms))) (e5 := w5) (e6 := e6) (e7 := e7) (e8 := e8) (e9 := e9) (e10 := e10) (e11 := e11) (e12 := e12) (e13 := w13) (e15 := e15) (e16 := e16) (e17 := e17) (e18 := e18) (e19 := e19) (e20 := e20) (e21 := e21) (e22 := e22) (e23 := e23) (e24 := e24) (e25 := e25)
  obtain ⟨R, w7, hR, hr, h5⟩ := f45 hm hn (e0 := e0) (e1 := some (.l s3.enc)) (e2 := e2) (e3 := some (.d (.bool g))) (e5 := w5) (e7 := e7) (e8 := e8) (e9 := e9) (e10 := e10) (e11 := e11) (e12 := e12) (e13 := w13) (e14 := some (.d (.int (n : Int)))) (e15 := e15) (e16 := e16) (e17 := e17) (e18 := e18) (e19 := e19) (e20 := e20) (e21 := e21) (e22 := e22) (e23 := e23) (e24 := e24) (e25 := e25)
  obtain ⟨ls, h6⟩ := f46 hn hm hR hr (e0 := e0) (e1 := some (.l s3.enc)) (e2 := e2) (e3 := some (.d (.bool g))) (e4 := some (.d (MT ms))) (e5 := w5) (e7 := w7) (e8 := e8) (e9 := e9) (e10 := e10) (e11 := e11) (e12 := e12) (e13 := w13) (e15 := e15) (e16 := e16) (e17 := e17) (e18 := e18) (e19 := e19) (e20 := e20) (e21 := e21) (e22 := e22) (e23 := e23) (e24 := e24) (e25 := e25)
  obtain ⟨s4, u5, u7, u17, u18, u19, u20, u21, u22, u23, o4, h7⟩ := f47 (ls := ls) hm hn hR hr (g := g) o3 (e0 := e0) (e2 := e2) (e5 := w5) (e6 := some (.l (R.map RT))) (e7 := w7) (e8 := e8) (e9 := e9) (e10 := e10) (e11 := e11) (e12 := e12) (e13 := w13) (e17 := e17) (e18 := e18) (e19 := e19) (e20 := e20) (e21 := e21) (e22 := e22) (e23 := e23) (e24 := e24) (e25 := e25)
  obtain ⟨y8, hy8, s5, o5, h8⟩ := l8 o4 (e0 := e0) (e2 := e2) (e3 := some (.d (.bool g))) (e4 := some (.d (MT ms))) (e5 := u5) (e6 := some (.l (R.map RT))) (e7 := u7) (e8 := e8) (e9 := e9) (e10 := e10) (e11 := e11) (e12 := e12) (e13 := w13) (e14 := some (.d (.int (n : Int)))) (e15 := some (.d (.tuple (R.map RT)))) (e16 := some (.d (cD ls))) (e17 := u17) (e18 := u18) (e19 := u19) (e20 := u20) (e21 := u21) (e22 := u22) (e23 := u23) (e24 := e24) (e25 := e25)
  have h9 := s9 y8 hy8 (e0 := e0) (e1 := some (.l s5.enc)) (e2 := e2) (e3 := some (.d (.bool g))) (e4 := some (.d (MT ms))) (e5 := u5) (e6 := some (.l (R.map RT))) (e7 := u7) (e9 := e9) (e10 := e10) (e11 := e11) (e12 := e12) (e13 := w13) (e14 := some (.d (.int (n : Int)))) (e15 := some (.d (.tuple (R.map RT)))) (e16 := some (.d (cD ls))) (e17 := u17) (e18 := u18) (e19 := u19) (e20 := u20) (e21 := u21) (e22 := u22) (e23 := u23) (e24 := e24) (e25 := e25)
  obtain ⟨s6, o6, h10⟩ := l10 hm o5 (e0 := e0) (e2 := e2) (e3 := some (.d (.bool g))) (e5 := u5) (e6 := some (.l (R.map RT))) (e7 := u7) (e8 := some (.d (y8))) (e9 := e9) (e10 := e10) (e11 := e11) (e12 := e12) (e13 := w13) (e14 := some (.d (.int (n : Int)))) (e15 := some (.d (.tuple (R.map RT)))) (e16 := some (.d (cD ls))) (e17 := u17) (e18 := u18) (e19 := u19) (e20 := u20) (e21 := u21) (e22 := u22) (e23 := u23) (e24 := e24) (e25 := e25)
  obtain ⟨y9, hy9, s7, o7, h11⟩ := l11 o6 (e0 := e0) (e2 := e2) (e3 := some (.d (.bool g))) (e4 := some (.d (MT ms))) (e5 := u5) (e6 := some (.l (R.map RT))) (e7 := u7) (e8 := some (.d (y8))) (e9 := e9) (e10 := e10) (e11 := e11) (e12 := e12) (e13 := w13) (e14 := some (.d (.int (n : Int)))) (e15 := some (.d (.tuple (R.map RT)))) (e16 := some (.d (cD ls))) (e17 := u17) (e18 := u18) (e19 := u19) (e20 := u20) (e21 := u21) (e22 := u22) (e23 := u23) (e24 := e24) (e25 := e25)
  have h12 := l12 hm hy9 (e0 := e0) (e1 := some (.l s7.enc)) (e2 := e2) (e3 := some (.d (.bool g))) (e5 := u5) (e6 := some (.l (R.map RT))) (e7 := u7) (e8 := some (.d (y8))) (e10 := e10) (e11 := e11) (e12 := e12) (e13 := w13) (e14 := some (.d (.int (n : Int)))) (e15 := some (.d (.tuple (R.map RT)))) (e16 := some (.d (cD ls))) (e17 := u17) (e18 := u18) (e19 := u19) (e20 := u20) (e21 := u21) (e22 := u22) (e23 := u23) (e24 := e24) (e25 := e25)
  obtain ⟨s8, o8, h13⟩ := l13 hm o7 (e0 := e0) (e2 := e2) (e3 := some (.d (.bool g))) (e5 := u5) (e6 := some (.l (R.map RT))) (e7 := u7) (e8 := some (.d (y8))) (e9 := some (.d (y9))) (e10 := e10) (e11 := e11) (e12 := e12) (e13 := w13) (e14 := some (.d (.int (n : Int)))) (e15 := some (.d (.tuple (R.map RT)))) (e16 := some (.d (cD ls))) (e17 := u17) (e18 := u18) (e19 := u19) (e20 := u20) (e21 := u21) (e22 := u22) (e23 := u23) (e24 := e24) (e25 := e25)
  obtain ⟨y10, hy10, s09, o9, h14⟩ := l14 o8 (e0 := e0) (e2 := e2) (e3 := some (.d (.bool g))) (e4 := some (.d (MT ms))) (e5 := u5) (e6 := some (.l (R.map RT))) (e7 := u7) (e8 := some (.d (y8))) (e9 := some (.d (y9))) (e10 := e10) (e11 := e11) (e12 := e12) (e13 := w13) (e14 := some (.d (.int (n : Int)))) (e15 := some (.d (.tuple (R.map RT)))) (e16 := some (.d (cD ls))) (e17 := u17) (e18 := u18) (e19 := u19) (e20 := u20) (e21 := u21) (e22 := u22) (e23 := u23) (e24 := e24) (e25 := e25)
  have h15 := s15 y10 hy10 (e0 := e0) (e1 := some (.l s09.enc)) (e2 := e2) (e3 := some (.d (.bool g))) (e4 := some (.d (MT ms))) (e5 := u5) (e6 := some (.l (R.map RT))) (e7 := u7) (e8 := some (.d (y8))) (e9 := some (.d (y9))) (e11 := e11) (e12 := e12) (e13 := w13) (e14 := some (.d (.int (n : Int)))) (e15 := some (.d (.tuple (R.map RT)))) (e16 := some (.d (cD ls))) (e17 := u17) (e18 := u18) (e19 := u19) (e20 := u20) (e21 := u21) (e22 := u22) (e23 := u23) (e24 := e24) (e25 := e25)
  have h16 := s16 y10 hy10 (e0 := e0) (e1 := some (.l s09.enc)) (e2 := e2) (e3 := some (.d (.bool g))) (e4 := some (.d (MT ms))) (e5 := u5) (e6 := some (.l (R.map RT))) (e7 := u7) (e8 := some (.d (y8))) (e9 := some (.d (y9))) (e11 := e11) (e12 := e12) (e13 := w13) (e14 := some (.d (.int (n : Int)))) (e15 := some (.d (.tuple (R.map RT)))) (e16 := some (.d (cD ls))) (e17 := u17) (e18 := u18) (e19 := u19) (e20 := u20) (e21 := u21) (e22 := u22) (e23 := u23) (e24 := e24) (e25 := e25)
  obtain ⟨y11, hy11, s010, o10, h17⟩ := l17 o9 (e0 := e0) (e2 := e2) (e3 := some (.d (.bool g))) (e4 := some (.d (MT ms))) (e5 := u5) (e6 := some (.l (R.map RT))) (e7 := u7) (e8 := some (.d (y8))) (e9 := some (.d (y9))) (e10 := some (.d (y10))) (e11 := e11) (e12 := e12) (e13 := w13) (e14 := some (.d (.int (n : Int)))) (e15 := some (.d (.tuple (R.map RT)))) (e16 := some (.d (cD ls))) (e17 := u17) (e18 := u18) (e19 := u19) (e20 := u20) (e21 := u21) (e22 := u22) (e23 := u23) (e24 := e24) (e25 := e25)
  have h18 := s18 y11 hy11 (e0 := e0) (e1 := some (.l s010.enc)) (e2 := e2) (e3 := some (.d (.bool g))) (e4 := some (.d (MT ms))) (e5 := u5) (e6 := some (.l (R.map RT))) (e7 := u7) (e8 := some (.d (y8))) (e9 := some (.d (y9))) (e10 := some (.d (y10))) (e12 := e12) (e13 := w13) (e14 := some (.d (.int (n : Int)))) (e15 := some (.d (.tuple (R.map RT)))) (e16 := some (.d (cD ls))) (e17 := u17) (e18 := u18) (e19 := u19) (e20 := u20) (e21 := u21) (e22 := u22) (e23 := u23) (e24 := e24) (e25 := e25)
  obtain ⟨s11, o11, h19⟩ := l19 o10 (e0 := e0) (e2 := e2) (e3 := some (.d (.bool g))) (e4 := some (.d (MT ms))) (e5 := u5) (e6 := some (.l (R.map RT))) (e7 := u7) (e8 := some (.d (y8))) (e9 := some (.d (y9))) (e10 := some (.d (y10))) (e11 := some (.d (y11))) (e12 := e12) (e13 := w13) (e14 := some (.d (.int (n : Int)))) (e15 := some (.d (.tuple (R.map RT)))) (e16 := some (.d (cD ls))) (e17 := u17) (e18 := u18) (e19 := u19) (e20 := u20) (e21 := u21) (e22 := u22) (e23 := u23) (e24 := e24) (e25 := e25)
  have h20 := s20 y9 hy9 (e0 := e0) (e1 := some (.l s11.enc)) (e2 := e2) (e3 := some (.d (.bool g))) (e4 := some (.d (MT ms))) (e5 := u5) (e6 := some (.l (R.map RT))) (e7 := u7) (e8 := some (.d (y8))) (e10 := some (.d (y10))) (e11 := some (.d (y11))) (e12 := e12) (e13 := w13) (e14 := some (.d (.int (n : Int)))) (e15 := some (.d (.tuple (R.map RT)))) (e16 := some (.d (cD ls))) (e17 := u17) (e18 := u18) (e19 := u19) (e20 := u20) (e21 := u21) (e22 := u22) (e23 := u23) (e24 := e24) (e25 := e25)
  have h21 := s21  (e0 := e0) (e1 := some (.l s11.enc)) (e2 := e2) (e3 := some (.d (.bool g))) (e4 := some (.d (MT ms))) (e5 := u5) (e6 := some (.l (R.map RT))) (e7 := u7) (e8 := some (.d (y8))) (e9 := some (.d (y9))) (e10 := some (.d (y10))) (e11 := some (.d (y11))) (e13 := w13) (e14 := some (.d (.int (n : Int)))) (e15 := some (.d (.tuple (R.map RT)))) (e16 := some (.d (cD ls))) (e17 := u17) (e18 := u18) (e19 := u19) (e20 := u20) (e21 := u21) (e22 := u22) (e23 := u23) (e24 := e24) (e25 := e25)
  refine ⟨s11, some (.d (.bool g)), some (.d (MT ms)), u5, some (.l (R.map RT)), u7, some (.d (y8)), some (.d (y9)), some (.d (y10)), some (.d (y11)), some (.l ([S "argument begin", S "argument many", S "argument many", S "argument last"])), w13, some (.d (.int (n : Int))), some (.d (.tuple (R.map RT))), some (.d (cD ls)), u17, u18, u19, u20, u21, u22, u23, e24, e25, o11, ?_⟩
  unfold f_law_4
  exact step h0 <| step h1 <| step h2 <| step h3 <| step h4 <| step h5 <| step h6 <| step h7 <| step h8 <| step h9 <| step h10 <| step h11 <| step h12 <| step h13 <| step h14 <| step h15 <| step h16 <| step h17 <| step h18 <| step h19 <| step h20 <| step h21 <| rfl
theorem law_ok (ns : List Int) (h : ns.length ≤ 63) : ∃ os, m_law [.r (ns.map .int)] = .ok (.v (.bool true), os) := by
  obtain ⟨s, os, e0⟩ := t0 ns
  rw [r_law]
  simp_arith [b_law, s_law_0, s_law_1, c_law, e0]
  generalize hg : forGo _ _ _ = o
  have hg : forGo (D.forT G29 (.n 2) f_law_4) ((List.range 3).map fun k : Nat => .int (k : Int)) _ = o := hg
  obtain ⟨_, rfl, s', w2, w3, w4, w5, w6, w7, w8, w9, w10, w11, w12, w13, w14, w15, w16, w17, w18, w19, w20, w21, w22, w23, w24, w25, o1, rfl⟩ := D.loopR hg (fun k e => ∃ (s' : DS) (w2 w3 w4 w5 w6 w7 w8 w9 w10 w11 w12 w13 w14 w15 w16 w17 w18 w19 w20 w21 w22 w23 w24 w25 : Option W), s'.ok ∧ e = [some (.r (ns.map .int)), some (.l s'.enc), w2, w3, w4, w5, w6, w7, w8, w9, w10, w11, w12, w13, w14, w15, w16, w17, w18, w19, w20, w21, w22, w23, w24, w25]) ⟨s, _, _, _, _, _, _, _, _, _, _, _, _, _, _, _, _, _, _, _, _, _, _, _, _, os, rfl⟩ (by
    rintro k _ hk ⟨s, w2, w3, w4, w5, w6, w7, w8, w9, w10, w11, w12, w13, w14, w15, w16, w17, w18, w19, w20, w21, w22, w23, w24, w25, os, rfl⟩ J Q hJ
    obtain ⟨s2, v3, v4, v5, v6, v7, v8, v9, v10, v11, v12, v13, v14, v15, v16, v17, v18, v19, v20, v21, v22, v23, v24, v25, o2, e⟩ := f4 os (e0 := some (.r (ns.map .int))) (e2 := some (.d (.int (k : Int)))) (e3 := w3) (e4 := w4) (e5 := w5) (e6 := w6) (e7 := w7) (e8 := w8) (e9 := w9) (e10 := w10) (e11 := w11) (e12 := w12) (e13 := w13) (e14 := w14) (e15 := w15) (e16 := w16) (e17 := w17) (e18 := w18) (e19 := w19) (e20 := w20) (e21 := w21) (e22 := w22) (e23 := w23) (e24 := w24) (e25 := w25)
    simp_arith [e]
    exact hJ _ ⟨s2, _, _, _, _, _, _, _, _, _, _, _, _, _, _, _, _, _, _, _, _, _, _, _, _, o2, rfl⟩)
  simp_arith [s_law_2]
  exact ⟨_, rfl⟩
end
end K57
end Ev

set_option maxRecDepth 100000
/-! Ev, part AG: a text's own errors, from what stands written. -/
namespace Ev
open PySem PySem.Spec PySem.W L2 L2H NdefX PyProof.Rows
abbrev excMro (Card : Addr) : List Value := [.ref Card, .type "ValueError", .type "Exception", .type "BaseException", .type "object"]
section
variable {P : Program} {w : World} {K : Frag} {mg : Str → Option Value} {base : Heap}
/-- one class, to be raised -/
theorem er_one {C Card fI cda cc : Addr} {x qual msg slf fld : Str} {st : Stmt} {p0 p1 p2 p3 p4 p5 p6 p7 p8 p9 : Pos} {ar : Arg} {nm q : Str} {N : Addr} {bs : List Value} {sn : List Str} {sub : List Value} {ab : Bool} {col : Option Bool} {dd : Option Addr} {k0 k1 k2 k3 k5 : Option Value}
    {oc : Value} {od an : Option Addr} {osl : Array (Option Value)} {doc pm ct : Value} {ccl : Value} {cdd : Option Addr} {ccs : Array (Option Value)} {cvs : Array Value} {file : Str} {tf : Tok} {cl : Value} {cld : Option Addr} {csl : Array (Option Value)} {cd : ClassData}
    (hb : defBody st = initB msg slf fld fld 0 p0 p1 p2 p3 p4 p5 p6 p7 p8 p9) (hs : defScope st = initSc slf fld)
    (hp : ((defArgs st).posonlyargs ++ (defArgs st).args).head? = some ar) (har : ar.arg = slf)
    (hbi : ∀ (cd doc pm : Value) (an : Option Addr) (cl : List (Str × Addr)) (ct : Value) (us : List Value), us.length = 2 → bindArgs (fnX "__init__" qual (defArgs st) (defBody st) (defScope st) cl .none .none doc pm an cd ct) ⟨us, []⟩ = pure ([slf, fld].zip us))
    (S : NScope [slf, fld, "__class__"] [slf, fld] ["__class__"] (initSc slf fld)) (hsu : (initSc slf fld).names.lookup ("super" : Str) = some .globalImplicit) (hcl : (initSc slf fld).names.lookup ("__class__" : Str) = some .free)
    (hd1 : (slf == ("__debug__" : Str)) = false) (hd2 : (slf == ("__classdict__" : Str)) = false) (hd3 : (fld == ("__debug__" : Str)) = false) (hd4 : (fld == ("__classdict__" : Str)) = false)
    (hsw : ∀ env : PySem.Env, swapsWith (.Name fld p8) (some (.Attribute (.Name slf p6) fld p7)) p9.line env = pure false)
    (hev : ∀ env : PySem.Env, ∃ pl, eval (.Call (.Attribute (.Call (.Name "super" p0) [] [] p1) "__init__" p2) [.Constant (.str msg) 0 p3] [] p4) env = (do
      let ov ← attributeBase (.Call (.Name "super" p0) [] [] p1) "__init__" env (eval (.Call (.Name "super" p0) [] [] p1) env)
      standAt p2.atName
      let (f, first) ← holding [ov] (getMethod ov "__init__" pl)
      callWith p4 f first (backTo p4 (starEach [.Constant (.str msg) 0 p3] env)) []))
    (e : mg x = some (.ref C)) (hC : K.lookup C = some (excClassObj nm q C N bs (excMro Card) true sn sub ab col dd k0 k1 k2 k3 k5 "ValueError.__new__")) (sa : findIn K (.ref C) "__setattr__" = some (some (.builtin "object.__setattr__")))
    (exC : subIn K (.ref C) (.type "BaseException") = some true) (ve : subIn K (.ref C) (.type "ValueError") = some true) (tyC : typeIn K (.ref C) = some (.type "type")) (kC : keepIn K (.ref C) = true)
    (iC : findIn K (.ref C) "__init__" = some (some (.ref fI))) (tI : typeIn K (.ref fI) = some (.type "function"))
    (lk : K.lookup fI = some ⟨oc, od, .func (fnX "__init__" qual (defArgs st) (defBody st) (defScope st) [("__class__", cc)] .none .none doc pm an (.ref cda) ct), osl⟩) (hcd : codeIn K (.ref cda) qual = true)
    (co : K.lookup cda = some ⟨ccl, cdd, .fields cvs, ccs⟩) (hf : cvs[2]? = some (.str file tf)) (hfile : ((P.main.file : Str) == file) = true) (ce : K.lookup cc = some ⟨cl, cld, .cell (some (.ref C)), csl⟩)
    (hcls : clsIn K C = some cd) (self : mroIn K C (.ref C) = some true) (sup : ks_superIn K C C "__init__" = some (some (.builtin "ValueError.__init__"))) (hno : findIn K (.ref C) fld = some none)
    (opq : nsIn K cStatics "thirdparty.any" = some none) (hmg : mg "super" = none) (htop : (P.main.scope.names.lookup ("super" : Str)).isSome = false) :
    (∃ (fI : Addr) (fd : FuncData) (ps : List Str), findIn K (.ref C) "__init__" = some (some (.ref fI)) ∧ typeIn K (.ref fI) = some (.type "function") ∧ FnOk P w K mg base CXn 1 fI fd ps (spInit C fld) ∧ Binds K fd ps []) ∧ OexC K C ∧ mg x = some (.ref C) := by
  have hrefs : PySem.HandSPX.refsVE (excMro Card) = true := rfl
  have O : OexC K C := ⟨⟨nm, q, N, bs, excMro Card, sn, sub, ab, col, dd, k0, k1, k2, k3, k5, hC, hrefs⟩, sa, exC, tyC, kC⟩
  refine ⟨⟨fI, _, [slf, fld], iC, tI, ?_, .all (hbi (.ref cda) doc pm an [("__class__", cc)] ct)⟩, O, e⟩
  rw [hb, hs]
  rw [hb, hs] at lk
  exact init_fn ⟨O, ⟨oc, od, osl, lk⟩, ⟨ccl, cdd, ccs, cvs, file, tf, co, hf, hfile⟩, ⟨cl, cld, csl, ce⟩, ⟨cd, hcls⟩, self, sup, ve, opq⟩ S hsu hcl hp har hcd hmg hno htop hd1 hd2 hd3 hd4 hsw hev
theorem scope_of {N ps : List Str} {slf arg : Str} (h : nscB N ps ["__class__"] (initSc slf arg) = true) : NScope N ps ["__class__"] (initSc slf arg) := nscope_by h
end
end Ev

namespace Ev.K57
open PySem PySem.Spec L2 PyProof.Rows
def iS (i : Nat) : Stmt := inClass (topS i) 0
theorem ib1 : defBody (iS 2) = initB "the deck is refused" "self" "reason" "reason" 0 ⟨7, 8, 7, 13⟩ ⟨7, 8, 7, 15⟩ ⟨7, 8, 7, 24⟩ ⟨7, 25, 7, 46⟩ ⟨7, 8, 7, 47⟩ ⟨7, 8, 7, 47⟩ ⟨8, 8, 8, 12⟩ ⟨8, 8, 8, 19⟩ ⟨8, 22, 8, 28⟩ ⟨8, 8, 8, 28⟩ := by kernel_rfl
theorem is1 : defScope (iS 2) = initSc "self" "reason" := by kernel_rfl
theorem ib2 : defBody (iS 3) = initB "an argument is refused" "self" "reason" "reason" 0 ⟨12, 8, 12, 13⟩ ⟨12, 8, 12, 15⟩ ⟨12, 8, 12, 24⟩ ⟨12, 25, 12, 49⟩ ⟨12, 8, 12, 50⟩ ⟨12, 8, 12, 50⟩ ⟨13, 8, 13, 12⟩ ⟨13, 8, 13, 19⟩ ⟨13, 22, 13, 28⟩ ⟨13, 8, 13, 28⟩ := by kernel_rfl
theorem is2 : defScope (iS 3) = initSc "self" "reason" := by kernel_rfl
theorem ib3 : defBody (iS 4) = initB "the paper is refused" "self" "reason" "reason" 0 ⟨17, 8, 17, 13⟩ ⟨17, 8, 17, 15⟩ ⟨17, 8, 17, 24⟩ ⟨17, 25, 17, 47⟩ ⟨17, 8, 17, 48⟩ ⟨17, 8, 17, 48⟩ ⟨18, 8, 18, 12⟩ ⟨18, 8, 18, 19⟩ ⟨18, 22, 18, 28⟩ ⟨18, 8, 18, 28⟩ := by kernel_rfl
theorem is3 : defScope (iS 4) = initSc "self" "reason" := by kernel_rfl
theorem hal : ∀ e ∈ fs30, e ∈ fs30 := fun _ h => h
set_option maxHeartbeats 0 in
theorem all_mk {P : Program} {w : World} {K : PySem.W.Frag} {mg : Str → Option Value} {fa : Addr} {h : Heap} (X : K.In h) (G : h.Ns mainGlobals mg) (hfa : mg "law" = some (.ref fa))
    {f0 : Addr} {oc0 kV0 dc0 pm0 cd0 ct0 : Value} {od0 an0 : Option Addr} {sl0 : Array (Option Value)} (a0 : PySem.W.nsIn K mainGlobals "_law_start" = some (some (.ref f0)))
    (l0 : K.lookup f0 = some ⟨oc0, od0, .func (PySem.W.fnOf "_law_start" "_law_start" (defArgs (topS 34)) (defBody (topS 34)) (defScope (topS 34)) .none kV0 dc0 pm0 an0 cd0 ct0), sl0⟩)
    (c0 : PySem.W.codeIn K cd0 "_law_start" = true)
    (k0 : PySem.W.keepIn K (.ref f0) = true)
    {f1 : Addr} {oc1 kV1 dc1 pm1 cd1 ct1 : Value} {od1 an1 : Option Addr} {sl1 : Array (Option Value)} (a1 : PySem.W.nsIn K mainGlobals "_law_draw" = some (some (.ref f1)))
    (l1 : K.lookup f1 = some ⟨oc1, od1, .func (PySem.W.fnOf "_law_draw" "_law_draw" (defArgs (topS 35)) (defBody (topS 35)) (defScope (topS 35)) .none kV1 dc1 pm1 an1 cd1 ct1), sl1⟩)
    (c1 : PySem.W.codeIn K cd1 "_law_draw" = true)
    (k1 : PySem.W.keepIn K (.ref f1) = true)
    {f2 : Addr} {oc2 kV2 dc2 pm2 cd2 ct2 : Value} {od2 an2 : Option Addr} {sl2 : Array (Option Value)} (a2 : PySem.W.nsIn K mainGlobals "is_integer" = some (some (.ref f2)))
    (l2 : K.lookup f2 = some ⟨oc2, od2, .func (PySem.W.fnOf "is_integer" "is_integer" (defArgs (topS 6)) (defBody (topS 6)) (defScope (topS 6)) .none kV2 dc2 pm2 an2 cd2 ct2), sl2⟩)
    (c2 : PySem.W.codeIn K cd2 "is_integer" = true)
    (k2 : PySem.W.keepIn K (.ref f2) = true)
    {f3 : Addr} {oc3 kV3 dc3 pm3 cd3 ct3 : Value} {od3 an3 : Option Addr} {sl3 : Array (Option Value)} (a3 : PySem.W.nsIn K mainGlobals "is_money" = some (some (.ref f3)))
    (l3 : K.lookup f3 = some ⟨oc3, od3, .func (PySem.W.fnOf "is_money" "is_money" (defArgs (topS 14)) (defBody (topS 14)) (defScope (topS 14)) .none kV3 dc3 pm3 an3 cd3 ct3), sl3⟩)
    (c3 : PySem.W.codeIn K cd3 "is_money" = true)
    (k3 : PySem.W.keepIn K (.ref f3) = true)
    {f4 : Addr} {oc4 kV4 dc4 pm4 cd4 ct4 : Value} {od4 an4 : Option Addr} {sl4 : Array (Option Value)} (a4 : PySem.W.nsIn K mainGlobals "check_machines" = some (some (.ref f4)))
    (l4 : K.lookup f4 = some ⟨oc4, od4, .func (PySem.W.fnOf "check_machines" "check_machines" (defArgs (topS 15)) (defBody (topS 15)) (defScope (topS 15)) .none kV4 dc4 pm4 an4 cd4 ct4), sl4⟩)
    (c4 : PySem.W.codeIn K cd4 "check_machines" = true)
    (k4 : PySem.W.keepIn K (.ref f4) = true)
    {f5 : Addr} {oc5 kV5 dc5 pm5 cd5 ct5 : Value} {od5 an5 : Option Addr} {sl5 : Array (Option Value)} (a5 : PySem.W.nsIn K mainGlobals "check_hours" = some (some (.ref f5)))
    (l5 : K.lookup f5 = some ⟨oc5, od5, .func (PySem.W.fnOf "check_hours" "check_hours" (defArgs (topS 16)) (defBody (topS 16)) (defScope (topS 16)) .none kV5 dc5 pm5 an5 cd5 ct5), sl5⟩)
    (c5 : PySem.W.codeIn K cd5 "check_hours" = true)
    (k5 : PySem.W.keepIn K (.ref f5) = true)
    {f6 : Addr} {oc6 kV6 dc6 pm6 cd6 ct6 : Value} {od6 an6 : Option Addr} {sl6 : Array (Option Value)} (a6 : PySem.W.nsIn K mainGlobals "cost_of" = some (some (.ref f6)))
    (l6 : K.lookup f6 = some ⟨oc6, od6, .func (PySem.W.fnOf "cost_of" "cost_of" (defArgs (topS 17)) (defBody (topS 17)) (defScope (topS 17)) .none kV6 dc6 pm6 an6 cd6 ct6), sl6⟩)
    (c6 : PySem.W.codeIn K cd6 "cost_of" = true)
    (k6 : PySem.W.keepIn K (.ref f6) = true)
    {f7 : Addr} {oc7 kV7 dc7 pm7 cd7 ct7 : Value} {od7 an7 : Option Addr} {sl7 : Array (Option Value)} (a7 : PySem.W.nsIn K mainGlobals "accept_hours" = some (some (.ref f7)))
    (l7 : K.lookup f7 = some ⟨oc7, od7, .func (PySem.W.fnOf "accept_hours" "accept_hours" (defArgs (topS 23)) (defBody (topS 23)) (defScope (topS 23)) .none kV7 dc7 pm7 an7 cd7 ct7), sl7⟩)
    (c7 : PySem.W.codeIn K cd7 "accept_hours" = true)
    (k7 : PySem.W.keepIn K (.ref f7) = true)
    {f8 : Addr} {oc8 kV8 dc8 pm8 cd8 ct8 : Value} {od8 an8 : Option Addr} {sl8 : Array (Option Value)} (a8 : PySem.W.nsIn K mainGlobals "machine_cost" = some (some (.ref f8)))
    (l8 : K.lookup f8 = some ⟨oc8, od8, .func (PySem.W.fnOf "machine_cost" "machine_cost" (defArgs (topS 18)) (defBody (topS 18)) (defScope (topS 18)) .none kV8 dc8 pm8 an8 cd8 ct8), sl8⟩)
    (c8 : PySem.W.codeIn K cd8 "machine_cost" = true)
    (k8 : PySem.W.keepIn K (.ref f8) = true)
    {f9 : Addr} {oc9 kV9 dc9 pm9 cd9 ct9 : Value} {od9 an9 : Option Addr} {sl9 : Array (Option Value)} (a9 : PySem.W.nsIn K mainGlobals "next_costs" = some (some (.ref f9)))
    (l9 : K.lookup f9 = some ⟨oc9, od9, .func (PySem.W.fnOf "next_costs" "next_costs" (defArgs (topS 19)) (defBody (topS 19)) (defScope (topS 19)) .none kV9 dc9 pm9 an9 cd9 ct9), sl9⟩)
    (c9 : PySem.W.codeIn K cd9 "next_costs" = true)
    (k9 : PySem.W.keepIn K (.ref f9) = true)
    {f10 : Addr} {oc10 kV10 dc10 pm10 cd10 ct10 : Value} {od10 an10 : Option Addr} {sl10 : Array (Option Value)} (a10 : PySem.W.nsIn K mainGlobals "accept_costs" = some (some (.ref f10)))
    (l10 : K.lookup f10 = some ⟨oc10, od10, .func (PySem.W.fnOf "accept_costs" "accept_costs" (defArgs (topS 24)) (defBody (topS 24)) (defScope (topS 24)) .none kV10 dc10 pm10 an10 cd10 ct10), sl10⟩)
    (c10 : PySem.W.codeIn K cd10 "accept_costs" = true)
    (k10 : PySem.W.keepIn K (.ref f10) = true)
    {f11 : Addr} {oc11 kV11 dc11 pm11 cd11 ct11 : Value} {od11 an11 : Option Addr} {sl11 : Array (Option Value)} (a11 : PySem.W.nsIn K mainGlobals "costs_in" = some (some (.ref f11)))
    (l11 : K.lookup f11 = some ⟨oc11, od11, .func (PySem.W.fnOf "costs_in" "costs_in" (defArgs (topS 20)) (defBody (topS 20)) (defScope (topS 20)) .none kV11 dc11 pm11 an11 cd11 ct11), sl11⟩)
    (c11 : PySem.W.codeIn K cd11 "costs_in" = true)
    (k11 : PySem.W.keepIn K (.ref f11) = true)
    {f12 : Addr} {oc12 kV12 dc12 pm12 cd12 ct12 : Value} {od12 an12 : Option Addr} {sl12 : Array (Option Value)} (a12 : PySem.W.nsIn K mainGlobals "least_costs" = some (some (.ref f12)))
    (l12 : K.lookup f12 = some ⟨oc12, od12, .func (PySem.W.fnOf "least_costs" "least_costs" (defArgs (topS 21)) (defBody (topS 21)) (defScope (topS 21)) .none kV12 dc12 pm12 an12 cd12 ct12), sl12⟩)
    (c12 : PySem.W.codeIn K cd12 "least_costs" = true)
    (k12 : PySem.W.keepIn K (.ref f12) = true)
    {f13 : Addr} {oc13 kV13 dc13 pm13 cd13 ct13 : Value} {od13 an13 : Option Addr} {sl13 : Array (Option Value)} (a13 : PySem.W.nsIn K mainGlobals "best_hours" = some (some (.ref f13)))
    (l13 : K.lookup f13 = some ⟨oc13, od13, .func (PySem.W.fnOf "best_hours" "best_hours" (defArgs (topS 22)) (defBody (topS 22)) (defScope (topS 22)) .none kV13 dc13 pm13 an13 cd13 ct13), sl13⟩)
    (c13 : PySem.W.codeIn K cd13 "best_hours" = true)
    (k13 : PySem.W.keepIn K (.ref f13) = true)
    {f14 : Addr} {oc14 kV14 dc14 pm14 cd14 ct14 : Value} {od14 an14 : Option Addr} {sl14 : Array (Option Value)} (a14 : PySem.W.nsIn K mainGlobals "check_plan" = some (some (.ref f14)))
    (l14 : K.lookup f14 = some ⟨oc14, od14, .func (PySem.W.fnOf "check_plan" "check_plan" (defArgs (topS 25)) (defBody (topS 25)) (defScope (topS 25)) .none kV14 dc14 pm14 an14 cd14 ct14), sl14⟩)
    (c14 : PySem.W.codeIn K cd14 "check_plan" = true)
    (k14 : PySem.W.keepIn K (.ref f14) = true)
    {f15 : Addr} {oc15 kV15 dc15 pm15 cd15 ct15 : Value} {od15 an15 : Option Addr} {sl15 : Array (Option Value)} (a15 : PySem.W.nsIn K mainGlobals "even_from" = some (some (.ref f15)))
    (l15 : K.lookup f15 = some ⟨oc15, od15, .func (PySem.W.fnOf "even_from" "even_from" (defArgs (topS 26)) (defBody (topS 26)) (defScope (topS 26)) .none kV15 dc15 pm15 an15 cd15 ct15), sl15⟩)
    (c15 : PySem.W.codeIn K cd15 "even_from" = true)
    (k15 : PySem.W.keepIn K (.ref f15) = true)
    {f16 : Addr} {oc16 kV16 dc16 pm16 cd16 ct16 : Value} {od16 an16 : Option Addr} {sl16 : Array (Option Value)} (a16 : PySem.W.nsIn K mainGlobals "first_less" = some (some (.ref f16)))
    (l16 : K.lookup f16 = some ⟨oc16, od16, .func (PySem.W.fnOf "first_less" "first_less" (defArgs (topS 28)) (defBody (topS 28)) (defScope (topS 28)) .none kV16 dc16 pm16 an16 cd16 ct16), sl16⟩)
    (c16 : PySem.W.codeIn K cd16 "first_less" = true)
    (k16 : PySem.W.keepIn K (.ref f16) = true)
    {f17 : Addr} {oc17 kV17 dc17 pm17 cd17 ct17 : Value} {od17 an17 : Option Addr} {sl17 : Array (Option Value)} (a17 : PySem.W.nsIn K mainGlobals "best_plans" = some (some (.ref f17)))
    (l17 : K.lookup f17 = some ⟨oc17, od17, .func (PySem.W.fnOf "best_plans" "best_plans" (defArgs (topS 27)) (defBody (topS 27)) (defScope (topS 27)) .none kV17 dc17 pm17 an17 cd17 ct17), sl17⟩)
    (c17 : PySem.W.codeIn K cd17 "best_plans" = true)
    (k17 : PySem.W.keepIn K (.ref f17) = true)
    {f18 : Addr} {oc18 kV18 dc18 pm18 cd18 ct18 : Value} {od18 an18 : Option Addr} {sl18 : Array (Option Value)} (a18 : PySem.W.nsIn K mainGlobals "check_shifts" = some (some (.ref f18)))
    (l18 : K.lookup f18 = some ⟨oc18, od18, .func (PySem.W.fnOf "check_shifts" "check_shifts" (defArgs (topS 29)) (defBody (topS 29)) (defScope (topS 29)) .none kV18 dc18 pm18 an18 cd18 ct18), sl18⟩)
    (c18 : PySem.W.codeIn K cd18 "check_shifts" = true)
    (k18 : PySem.W.keepIn K (.ref f18) = true)
    {f19 : Addr} {oc19 kV19 dc19 pm19 cd19 ct19 : Value} {od19 an19 : Option Addr} {sl19 : Array (Option Value)} (a19 : PySem.W.nsIn K mainGlobals "more_at" = some (some (.ref f19)))
    (l19 : K.lookup f19 = some ⟨oc19, od19, .func (PySem.W.fnOf "more_at" "more_at" (defArgs (topS 30)) (defBody (topS 30)) (defScope (topS 30)) .none kV19 dc19 pm19 an19 cd19 ct19), sl19⟩)
    (c19 : PySem.W.codeIn K cd19 "more_at" = true)
    (k19 : PySem.W.keepIn K (.ref f19) = true)
    {f20 : Addr} {oc20 kV20 dc20 pm20 cd20 ct20 : Value} {od20 an20 : Option Addr} {sl20 : Array (Option Value)} (a20 : PySem.W.nsIn K mainGlobals "shift_cost" = some (some (.ref f20)))
    (l20 : K.lookup f20 = some ⟨oc20, od20, .func (PySem.W.fnOf "shift_cost" "shift_cost" (defArgs (topS 31)) (defBody (topS 31)) (defScope (topS 31)) .none kV20 dc20 pm20 an20 cd20 ct20), sl20⟩)
    (c20 : PySem.W.codeIn K cd20 "shift_cost" = true)
    (k20 : PySem.W.keepIn K (.ref f20) = true)
    {f21 : Addr} {oc21 kV21 dc21 pm21 cd21 ct21 : Value} {od21 an21 : Option Addr} {sl21 : Array (Option Value)} (a21 : PySem.W.nsIn K mainGlobals "cheapest_begin" = some (some (.ref f21)))
    (l21 : K.lookup f21 = some ⟨oc21, od21, .func (PySem.W.fnOf "cheapest_begin" "cheapest_begin" (defArgs (topS 32)) (defBody (topS 32)) (defScope (topS 32)) .none kV21 dc21 pm21 an21 cd21 ct21), sl21⟩)
    (c21 : PySem.W.codeIn K cd21 "cheapest_begin" = true)
    (k21 : PySem.W.keepIn K (.ref f21) = true)
    {f22 : Addr} {oc22 kV22 dc22 pm22 cd22 ct22 : Value} {od22 an22 : Option Addr} {sl22 : Array (Option Value)} (a22 : PySem.W.nsIn K mainGlobals "_law_told" = some (some (.ref f22)))
    (l22 : K.lookup f22 = some ⟨oc22, od22, .func (PySem.W.fnOf "_law_told" "_law_told" (defArgs (topS 38)) (defBody (topS 38)) (defScope (topS 38)) .none kV22 dc22 pm22 an22 cd22 ct22), sl22⟩)
    (c22 : PySem.W.codeIn K cd22 "_law_told" = true)
    (k22 : PySem.W.keepIn K (.ref f22) = true)
    {f23 : Addr} {oc23 kV23 dc23 pm23 cd23 ct23 : Value} {od23 an23 : Option Addr} {sl23 : Array (Option Value)} (a23 : PySem.W.nsIn K mainGlobals "_law_cost" = some (some (.ref f23)))
    (l23 : K.lookup f23 = some ⟨oc23, od23, .func (PySem.W.fnOf "_law_cost" "_law_cost" (defArgs (topS 39)) (defBody (topS 39)) (defScope (topS 39)) .none kV23 dc23 pm23 an23 cd23 ct23), sl23⟩)
    (c23 : PySem.W.codeIn K cd23 "_law_cost" = true)
    (k23 : PySem.W.keepIn K (.ref f23) = true)
    {f24 : Addr} {oc24 kV24 dc24 pm24 cd24 ct24 : Value} {od24 an24 : Option Addr} {sl24 : Array (Option Value)} (a24 : PySem.W.nsIn K mainGlobals "_law_next" = some (some (.ref f24)))
    (l24 : K.lookup f24 = some ⟨oc24, od24, .func (PySem.W.fnOf "_law_next" "_law_next" (defArgs (topS 40)) (defBody (topS 40)) (defScope (topS 40)) .none kV24 dc24 pm24 an24 cd24 ct24), sl24⟩)
    (c24 : PySem.W.codeIn K cd24 "_law_next" = true)
    (k24 : PySem.W.keepIn K (.ref f24) = true)
    {f25 : Addr} {oc25 kV25 dc25 pm25 cd25 ct25 : Value} {od25 an25 : Option Addr} {sl25 : Array (Option Value)} (a25 : PySem.W.nsIn K mainGlobals "_law_whole" = some (some (.ref f25)))
    (l25 : K.lookup f25 = some ⟨oc25, od25, .func (PySem.W.fnOf "_law_whole" "_law_whole" (defArgs (topS 36)) (defBody (topS 36)) (defScope (topS 36)) .none kV25 dc25 pm25 an25 cd25 ct25), sl25⟩)
    (c25 : PySem.W.codeIn K cd25 "_law_whole" = true)
    (k25 : PySem.W.keepIn K (.ref f25) = true)
    {f26 : Addr} {oc26 kV26 dc26 pm26 cd26 ct26 : Value} {od26 an26 : Option Addr} {sl26 : Array (Option Value)} (a26 : PySem.W.nsIn K mainGlobals "_law_costs_due" = some (some (.ref f26)))
    (l26 : K.lookup f26 = some ⟨oc26, od26, .func (PySem.W.fnOf "_law_costs_due" "_law_costs_due" (defArgs (topS 42)) (defBody (topS 42)) (defScope (topS 42)) .none kV26 dc26 pm26 an26 cd26 ct26), sl26⟩)
    (c26 : PySem.W.codeIn K cd26 "_law_costs_due" = true)
    (k26 : PySem.W.keepIn K (.ref f26) = true)
    {f27 : Addr} {oc27 kV27 dc27 pm27 cd27 ct27 : Value} {od27 an27 : Option Addr} {sl27 : Array (Option Value)} (a27 : PySem.W.nsIn K mainGlobals "_law_hours_due" = some (some (.ref f27)))
    (l27 : K.lookup f27 = some ⟨oc27, od27, .func (PySem.W.fnOf "_law_hours_due" "_law_hours_due" (defArgs (topS 41)) (defBody (topS 41)) (defScope (topS 41)) .none kV27 dc27 pm27 an27 cd27 ct27), sl27⟩)
    (c27 : PySem.W.codeIn K cd27 "_law_hours_due" = true)
    (k27 : PySem.W.keepIn K (.ref f27) = true)
    {f28 : Addr} {oc28 kV28 dc28 pm28 cd28 ct28 : Value} {od28 an28 : Option Addr} {sl28 : Array (Option Value)} (a28 : PySem.W.nsIn K mainGlobals "_law_bent" = some (some (.ref f28)))
    (l28 : K.lookup f28 = some ⟨oc28, od28, .func (PySem.W.fnOf "_law_bent" "_law_bent" (defArgs (topS 37)) (defBody (topS 37)) (defScope (topS 37)) .none kV28 dc28 pm28 an28 cd28 ct28), sl28⟩)
    (c28 : PySem.W.codeIn K cd28 "_law_bent" = true)
    (k28 : PySem.W.keepIn K (.ref f28) = true)
    {f29 : Addr} {oc29 kV29 dc29 pm29 cd29 ct29 : Value} {od29 an29 : Option Addr} {sl29 : Array (Option Value)} (a29 : PySem.W.nsIn K mainGlobals "law" = some (some (.ref f29)))
    (l29 : K.lookup f29 = some ⟨oc29, od29, .func (PySem.W.fnOf "law" "law" (defArgs (topS 43)) (defBody (topS 43)) (defScope (topS 43)) .none kV29 dc29 pm29 an29 cd29 ct29), sl29⟩)
    (c29 : PySem.W.codeIn K cd29 "law" = true)
    (k29 : PySem.W.keepIn K (.ref f29) = true)
    (z0 : PySem.W.nsIn K mainGlobals "len" = some none)
    (z1 : PySem.W.nsIn K mainGlobals "all" = some none)
    (z2 : PySem.W.nsIn K mainGlobals "any" = some none)
    (z3 : PySem.W.nsIn K mainGlobals "sum" = some none)
    (z4 : PySem.W.nsIn K mainGlobals "min" = some none)
    (z5 : PySem.W.nsIn K mainGlobals "max" = some none)
    (z6 : PySem.W.nsIn K mainGlobals "sorted" = some none)
    (z7 : PySem.W.nsIn K mainGlobals "abs" = some none)
    (z8 : PySem.W.nsIn K mainGlobals "repr" = some none)
    (z9 : PySem.W.nsIn K mainGlobals "tuple" = some none)
    (z10 : PySem.W.nsIn K mainGlobals "list" = some none)
    (z11 : PySem.W.nsIn K mainGlobals "int" = some none)
    (z12 : PySem.W.nsIn K mainGlobals "bool" = some none)
    (z13 : PySem.W.nsIn K mainGlobals "str" = some none)
    (z14 : PySem.W.nsIn K mainGlobals "isinstance" = some none)
    (z15 : PySem.W.nsIn K mainGlobals "range" = some none)
    (z16 : PySem.W.nsIn K mainGlobals "enumerate" = some none)
    (z17 : PySem.W.nsIn K mainGlobals "zip" = some none)
    (z18 : PySem.W.nsIn K mainGlobals "super" = some none)
    (z19 : PySem.W.nsIn K mainGlobals "ValueError" = some none)
    {t0 : Tok} (cn0 : PySem.W.nsIn K mainGlobals "MAX_SIZE" = some (some (.int 1000000000000 t0)))
    {t1 : Tok} (cn1 : PySem.W.nsIn K mainGlobals "MAX_ROWS" = some (some (.int 60 t1)))
    {t2 : Tok} (cn2 : PySem.W.nsIn K mainGlobals "MAX_PERCENT" = some (some (.int 1000 t2)))
    {t3 : Tok} (cn3 : PySem.W.nsIn K mainGlobals "MAX_MACHINES" = some (some (.int 6 t3)))
    {t4 : Tok} (cn4 : PySem.W.nsIn K mainGlobals "MAX_HOURS" = some (some (.int 120 t4)))
    {t5 : Tok} (cn5 : PySem.W.nsIn K mainGlobals "MAX_SHIFTS" = some (some (.int 6 t5)))
    {C : Addr} (ca : PySem.W.nsIn K mainGlobals "CardError" = some (some (.ref C)))
    (opq : PySem.W.nsIn K cStatics "thirdparty.any" = some none)
    (hn : PySem.W.specialIn K (.builtin "object.__class__") "__get__" = some (some (.builtin "getset_descriptor.__get__")))
    (ht : PySem.W.takesIn K (.builtin "object.__class__") = some true)
    (htop : (P.main.scope.names.lookup ("super" : Str)).isSome = false)
    {C1 fI1 cda1 cc1 N1 : Addr} {nm1 q1 : Str} {bs1 : List Value} {sn1 : List Str} {sub1 : List Value} {ab1 : Bool} {col1 : Option Bool} {dd1 : Option Addr} {ka1 kb1 kc1 kd1 kf1 : Option Value} {oc1x : Value} {od1x an1x : Option Addr} {sl1x : Array (Option Value)} {dc1x pm1x ct1x : Value} {ccl1 : Value} {cdd1 : Option Addr} {ccs1 : Array (Option Value)} {cvs1 : Array Value} {file1 : Str} {tf1 : Tok} {cl1 : Value} {cld1 : Option Addr} {csl1 : Array (Option Value)} {cD1 : ClassData} (E1e : PySem.W.nsIn K mainGlobals "DeckError" = some (some (.ref C1)))
    (E1o : K.lookup C1 = some (excClassObj nm1 q1 C1 N1 bs1 (excMro C) true sn1 sub1 ab1 col1 dd1 ka1 kb1 kc1 kd1 kf1 "ValueError.__new__"))
    (E1s : PySem.W.findIn K (.ref C1) "__setattr__" = some (some (.builtin "object.__setattr__")))
    (E1b : PySem.W.subIn K (.ref C1) (.type "BaseException") = some true)
    (E1v : PySem.W.subIn K (.ref C1) (.type "ValueError") = some true)
    (E1t : PySem.W.typeIn K (.ref C1) = some (.type "type"))
    (E1k : PySem.W.keepIn K (.ref C1) = true)
    (E1i : PySem.W.findIn K (.ref C1) "__init__" = some (some (.ref fI1)))
    (E1f : PySem.W.typeIn K (.ref fI1) = some (.type "function"))
    (E1l : K.lookup fI1 = some ⟨oc1x, od1x, .func (PySem.W.fnX "__init__" "DeckError.__init__" (defArgs (iS 2)) (defBody (iS 2)) (defScope (iS 2)) [("__class__", cc1)] .none .none dc1x pm1x an1x (.ref cda1) ct1x), sl1x⟩)
    (E1d : PySem.W.codeIn K (.ref cda1) "DeckError.__init__" = true)
    (E1c : K.lookup cda1 = some ⟨ccl1, cdd1, .fields cvs1, ccs1⟩)
    (E1g : cvs1[2]? = some (.str file1 tf1))
    (E1h : ((P.main.file : Str) == file1) = true)
    (E1j : K.lookup cc1 = some ⟨cl1, cld1, .cell (some (.ref C1)), csl1⟩)
    (E1m : PySem.W.clsIn K C1 = some cD1)
    (E1n : PySem.W.mroIn K C1 (.ref C1) = some true)
    (E1p : PySem.W.ks_superIn K C1 C1 "__init__" = some (some (.builtin "ValueError.__init__")))
    (E1q : PySem.W.findIn K (.ref C1) "at" = some none)
    (E1r : PySem.W.findIn K (.ref C1) "reason" = some none)
    (E1u : PySem.W.findIn K (.ref C1) "__getattribute__" = some (some (.builtin "BaseException.__getattribute__")))
    (E1w : PySem.W.findIn K (.ref C1) "__getattr__" = some none)
    (E1x : PySem.W.hasDictIn K C1 = true)
    (E1y : PySem.W.findIn K (.ref C1) "__class__" = some (some (.builtin "object.__class__")))
    (E1z : PySem.W.mroIn K C1 (.type "object") = some true)
    (E1A : PySem.W.kitOne K (.ref C1) (.type "ValueError") = some true)
    (E1B : PySem.W.exmOne K (.ref C1) (.ref C) = some true)
    {C2 fI2 cda2 cc2 N2 : Addr} {nm2 q2 : Str} {bs2 : List Value} {sn2 : List Str} {sub2 : List Value} {ab2 : Bool} {col2 : Option Bool} {dd2 : Option Addr} {ka2 kb2 kc2 kd2 kf2 : Option Value} {oc2x : Value} {od2x an2x : Option Addr} {sl2x : Array (Option Value)} {dc2x pm2x ct2x : Value} {ccl2 : Value} {cdd2 : Option Addr} {ccs2 : Array (Option Value)} {cvs2 : Array Value} {file2 : Str} {tf2 : Tok} {cl2 : Value} {cld2 : Option Addr} {csl2 : Array (Option Value)} {cD2 : ClassData} (E2e : PySem.W.nsIn K mainGlobals "ArgumentError" = some (some (.ref C2)))
    (E2o : K.lookup C2 = some (excClassObj nm2 q2 C2 N2 bs2 (excMro C) true sn2 sub2 ab2 col2 dd2 ka2 kb2 kc2 kd2 kf2 "ValueError.__new__"))
    (E2s : PySem.W.findIn K (.ref C2) "__setattr__" = some (some (.builtin "object.__setattr__")))
    (E2b : PySem.W.subIn K (.ref C2) (.type "BaseException") = some true)
    (E2v : PySem.W.subIn K (.ref C2) (.type "ValueError") = some true)
    (E2t : PySem.W.typeIn K (.ref C2) = some (.type "type"))
    (E2k : PySem.W.keepIn K (.ref C2) = true)
    (E2i : PySem.W.findIn K (.ref C2) "__init__" = some (some (.ref fI2)))
    (E2f : PySem.W.typeIn K (.ref fI2) = some (.type "function"))
    (E2l : K.lookup fI2 = some ⟨oc2x, od2x, .func (PySem.W.fnX "__init__" "ArgumentError.__init__" (defArgs (iS 3)) (defBody (iS 3)) (defScope (iS 3)) [("__class__", cc2)] .none .none dc2x pm2x an2x (.ref cda2) ct2x), sl2x⟩)
    (E2d : PySem.W.codeIn K (.ref cda2) "ArgumentError.__init__" = true)
    (E2c : K.lookup cda2 = some ⟨ccl2, cdd2, .fields cvs2, ccs2⟩)
    (E2g : cvs2[2]? = some (.str file2 tf2))
    (E2h : ((P.main.file : Str) == file2) = true)
    (E2j : K.lookup cc2 = some ⟨cl2, cld2, .cell (some (.ref C2)), csl2⟩)
    (E2m : PySem.W.clsIn K C2 = some cD2)
    (E2n : PySem.W.mroIn K C2 (.ref C2) = some true)
    (E2p : PySem.W.ks_superIn K C2 C2 "__init__" = some (some (.builtin "ValueError.__init__")))
    (E2q : PySem.W.findIn K (.ref C2) "at" = some none)
    (E2r : PySem.W.findIn K (.ref C2) "reason" = some none)
    (E2u : PySem.W.findIn K (.ref C2) "__getattribute__" = some (some (.builtin "BaseException.__getattribute__")))
    (E2w : PySem.W.findIn K (.ref C2) "__getattr__" = some none)
    (E2x : PySem.W.hasDictIn K C2 = true)
    (E2y : PySem.W.findIn K (.ref C2) "__class__" = some (some (.builtin "object.__class__")))
    (E2z : PySem.W.mroIn K C2 (.type "object") = some true)
    (E2A : PySem.W.kitOne K (.ref C2) (.type "ValueError") = some true)
    (E2B : PySem.W.exmOne K (.ref C2) (.ref C) = some true)
    {C3 fI3 cda3 cc3 N3 : Addr} {nm3 q3 : Str} {bs3 : List Value} {sn3 : List Str} {sub3 : List Value} {ab3 : Bool} {col3 : Option Bool} {dd3 : Option Addr} {ka3 kb3 kc3 kd3 kf3 : Option Value} {oc3x : Value} {od3x an3x : Option Addr} {sl3x : Array (Option Value)} {dc3x pm3x ct3x : Value} {ccl3 : Value} {cdd3 : Option Addr} {ccs3 : Array (Option Value)} {cvs3 : Array Value} {file3 : Str} {tf3 : Tok} {cl3 : Value} {cld3 : Option Addr} {csl3 : Array (Option Value)} {cD3 : ClassData} (E3e : PySem.W.nsIn K mainGlobals "PaperError" = some (some (.ref C3)))
    (E3o : K.lookup C3 = some (excClassObj nm3 q3 C3 N3 bs3 (excMro C) true sn3 sub3 ab3 col3 dd3 ka3 kb3 kc3 kd3 kf3 "ValueError.__new__"))
    (E3s : PySem.W.findIn K (.ref C3) "__setattr__" = some (some (.builtin "object.__setattr__")))
    (E3b : PySem.W.subIn K (.ref C3) (.type "BaseException") = some true)
    (E3v : PySem.W.subIn K (.ref C3) (.type "ValueError") = some true)
    (E3t : PySem.W.typeIn K (.ref C3) = some (.type "type"))
    (E3k : PySem.W.keepIn K (.ref C3) = true)
    (E3i : PySem.W.findIn K (.ref C3) "__init__" = some (some (.ref fI3)))
    (E3f : PySem.W.typeIn K (.ref fI3) = some (.type "function"))
    (E3l : K.lookup fI3 = some ⟨oc3x, od3x, .func (PySem.W.fnX "__init__" "PaperError.__init__" (defArgs (iS 4)) (defBody (iS 4)) (defScope (iS 4)) [("__class__", cc3)] .none .none dc3x pm3x an3x (.ref cda3) ct3x), sl3x⟩)
    (E3d : PySem.W.codeIn K (.ref cda3) "PaperError.__init__" = true)
    (E3c : K.lookup cda3 = some ⟨ccl3, cdd3, .fields cvs3, ccs3⟩)
    (E3g : cvs3[2]? = some (.str file3 tf3))
    (E3h : ((P.main.file : Str) == file3) = true)
    (E3j : K.lookup cc3 = some ⟨cl3, cld3, .cell (some (.ref C3)), csl3⟩)
    (E3m : PySem.W.clsIn K C3 = some cD3)
    (E3n : PySem.W.mroIn K C3 (.ref C3) = some true)
    (E3p : PySem.W.ks_superIn K C3 C3 "__init__" = some (some (.builtin "ValueError.__init__")))
    (E3q : PySem.W.findIn K (.ref C3) "at" = some none)
    (E3r : PySem.W.findIn K (.ref C3) "reason" = some none)
    (E3u : PySem.W.findIn K (.ref C3) "__getattribute__" = some (some (.builtin "BaseException.__getattribute__")))
    (E3w : PySem.W.findIn K (.ref C3) "__getattr__" = some none)
    (E3x : PySem.W.hasDictIn K C3 = true)
    (E3y : PySem.W.findIn K (.ref C3) "__class__" = some (some (.builtin "object.__class__")))
    (E3z : PySem.W.mroIn K C3 (.type "object") = some true)
    (E3A : PySem.W.kitOne K (.ref C3) (.type "ValueError") = some true)
    (E3B : PySem.W.exmOne K (.ref C3) (.ref C) = some true)
    (I11 : PySem.W.kitOne K (.ref C1) (.ref C1) = some true)
    (I12 : PySem.W.kitOne K (.ref C1) (.ref C2) = some false)
    (I13 : PySem.W.kitOne K (.ref C1) (.ref C3) = some false)
    (I21 : PySem.W.kitOne K (.ref C2) (.ref C1) = some false)
    (I22 : PySem.W.kitOne K (.ref C2) (.ref C2) = some true)
    (I23 : PySem.W.kitOne K (.ref C2) (.ref C3) = some false)
    (I31 : PySem.W.kitOne K (.ref C3) (.ref C1) = some false)
    (I32 : PySem.W.kitOne K (.ref C3) (.ref C2) = some false)
    (I33 : PySem.W.kitOne K (.ref C3) (.ref C3) = some true)
    : ∃ fd : FuncData, (∀ (s : Shared) (v : Value), BindsTo s fd ⟨[v], []⟩ [("script", v)]) ∧ ∀ base : Heap, K.In base → base.Ns mainGlobals mg → FnG P w K mg base (L2.CX P w) 40 fa fd ["script"] (spL K 63) := by
  have e := hfa.symm.trans (PySem.W.mg_of X G a29)
  cases e
  have M : Mo K mg cs := by
    refine ⟨fun x hx => ?_, fun x v e => PySem.W.mg_of X G e, fun x d hx => ?_⟩
    · simp only [known, List.mem_cons, List.not_mem_nil, or_false] at hx
      rcases hx with rfl | rfl | rfl | rfl | rfl | rfl | rfl | rfl | rfl | rfl | rfl | rfl | rfl | rfl | rfl | rfl | rfl | rfl
      · exact PySem.W.mg_none_of X G z0
      · exact PySem.W.mg_none_of X G z1
      · exact PySem.W.mg_none_of X G z2
      · exact PySem.W.mg_none_of X G z3
      · exact PySem.W.mg_none_of X G z4
      · exact PySem.W.mg_none_of X G z5
      · exact PySem.W.mg_none_of X G z6
      · exact PySem.W.mg_none_of X G z7
      · exact PySem.W.mg_none_of X G z8
      · exact PySem.W.mg_none_of X G z9
      · exact PySem.W.mg_none_of X G z10
      · exact PySem.W.mg_none_of X G z11
      · exact PySem.W.mg_none_of X G z12
      · exact PySem.W.mg_none_of X G z13
      · exact PySem.W.mg_none_of X G z14
      · exact PySem.W.mg_none_of X G z15
      · exact PySem.W.mg_none_of X G z16
      · exact PySem.W.mg_none_of X G z17
    · have hm := PySem.mem_of_lookup hx
      simp only [cs, List.mem_cons, Prod.mk.injEq, List.not_mem_nil, or_false] at hm
      rcases hm with ⟨rfl, rfl⟩ | ⟨rfl, rfl⟩ | ⟨rfl, rfl⟩ | ⟨rfl, rfl⟩ | ⟨rfl, rfl⟩ | ⟨rfl, rfl⟩
      · exact ⟨_, V.int 1000000000000, PySem.W.mg_of X G cn0, ⟨_, rfl⟩, fun _ _ => .int _⟩
      · exact ⟨_, V.int 60, PySem.W.mg_of X G cn1, ⟨_, rfl⟩, fun _ _ => .int _⟩
      · exact ⟨_, V.int 1000, PySem.W.mg_of X G cn2, ⟨_, rfl⟩, fun _ _ => .int _⟩
      · exact ⟨_, V.int 6, PySem.W.mg_of X G cn3, ⟨_, rfl⟩, fun _ _ => .int _⟩
      · exact ⟨_, V.int 120, PySem.W.mg_of X G cn4, ⟨_, rfl⟩, fun _ _ => .int _⟩
      · exact ⟨_, V.int 6, PySem.W.mg_of X G cn5, ⟨_, rfl⟩, fun _ _ => .int _⟩
  have F0 := fun_mk (x := "_law_start") (qual := "_law_start") (st := topS 34) l0 c0 k0
  have B0 := F0.binds (ps := ["script"]) fun _ _ _ _ _ _ us hl => match us, hl with | [_], _ => rfl
  have F1 := fun_mk (x := "_law_draw") (qual := "_law_draw") (st := topS 35) l1 c1 k1
  have B1 := F1.binds (ps := ["state", "many"]) fun _ _ _ _ _ _ us hl => match us, hl with | [_, _], _ => rfl
  have F2 := fun_mk (x := "is_integer") (qual := "is_integer") (st := topS 6) l2 c2 k2
  have B2 := F2.binds (ps := ["value"]) fun _ _ _ _ _ _ us hl => match us, hl with | [_], _ => rfl
  have F3 := fun_mk (x := "is_money") (qual := "is_money") (st := topS 14) l3 c3 k3
  have B3 := F3.binds (ps := ["value"]) fun _ _ _ _ _ _ us hl => match us, hl with | [_], _ => rfl
  have F4 := fun_mk (x := "check_machines") (qual := "check_machines") (st := topS 15) l4 c4 k4
  have B4 := F4.binds (ps := ["machines"]) fun _ _ _ _ _ _ us hl => match us, hl with | [_], _ => rfl
  have F5 := fun_mk (x := "check_hours") (qual := "check_hours") (st := topS 16) l5 c5 k5
  have B5 := F5.binds (ps := ["hours"]) fun _ _ _ _ _ _ us hl => match us, hl with | [_], _ => rfl
  have F6 := fun_mk (x := "cost_of") (qual := "cost_of") (st := topS 17) l6 c6 k6
  have B6 := F6.binds (ps := ["machine", "hours"]) fun _ _ _ _ _ _ us hl => match us, hl with | [_, _], _ => rfl
  have F7 := fun_mk (x := "accept_hours") (qual := "accept_hours") (st := topS 23) l7 c7 k7
  have B7 := F7.binds (ps := ["machines", "hours", "rows", "cost"]) fun _ _ _ _ _ _ us hl => match us, hl with | [_, _, _, _], _ => rfl
  have F8 := fun_mk (x := "machine_cost") (qual := "machine_cost") (st := topS 18) l8 c8 k8
  have B8 := F8.binds (ps := ["machines", "number", "hours"]) fun _ _ _ _ _ _ us hl => match us, hl with | [_, _, _], _ => rfl
  have F9 := fun_mk (x := "next_costs") (qual := "next_costs") (st := topS 19) l9 c9 k9
  have B9 := F9.binds (ps := ["row", "machine"]) fun _ _ _ _ _ _ us hl => match us, hl with | [_, _], _ => rfl
  have F10 := fun_mk (x := "accept_costs") (qual := "accept_costs") (st := topS 24) l10 c10 k10
  have B10 := F10.binds (ps := ["machines", "hours", "table", "cost"]) fun _ _ _ _ _ _ us hl => match us, hl with | [_, _, _, _], _ => rfl
  have F11 := fun_mk (x := "costs_in") (qual := "costs_in") (st := topS 20) l11 c11 k11
  have B11 := F11.binds (ps := ["machines", "hours"]) fun _ _ _ _ _ _ us hl => match us, hl with | [_, _], _ => rfl
  have F12 := fun_mk (x := "least_costs") (qual := "least_costs") (st := topS 21) l12 c12 k12
  have B12 := F12.binds (ps := ["machines", "hours"]) fun _ _ _ _ _ _ us hl => match us, hl with | [_, _], _ => rfl
  have F13 := fun_mk (x := "best_hours") (qual := "best_hours") (st := topS 22) l13 c13 k13
  have B13 := F13.binds (ps := ["machines", "hours"]) fun _ _ _ _ _ _ us hl => match us, hl with | [_, _], _ => rfl
  have F14 := fun_mk (x := "check_plan") (qual := "check_plan") (st := topS 25) l14 c14 k14
  have B14 := F14.binds (ps := ["plan", "reason"]) fun _ _ _ _ _ _ us hl => match us, hl with | [_, _], _ => rfl
  have F15 := fun_mk (x := "even_from") (qual := "even_from") (st := topS 26) l15 c15 k15
  have B15 := F15.binds (ps := ["one", "other"]) fun _ _ _ _ _ _ us hl => match us, hl with | [_, _], _ => rfl
  have F16 := fun_mk (x := "first_less") (qual := "first_less") (st := topS 28) l16 c16 k16
  have B16 := F16.binds (ps := ["plan", "other", "ahead"]) fun _ _ _ _ _ _ us hl => match us, hl with | [_, _, _], _ => rfl
  have F17 := fun_mk (x := "best_plans") (qual := "best_plans") (st := topS 27) l17 c17 k17
  have B17 := F17.binds (ps := ["plans"]) fun _ _ _ _ _ _ us hl => match us, hl with | [_], _ => rfl
  have F18 := fun_mk (x := "check_shifts") (qual := "check_shifts") (st := topS 29) l18 c18 k18
  have B18 := F18.binds (ps := ["shifts"]) fun _ _ _ _ _ _ us hl => match us, hl with | [_], _ => rfl
  have F19 := fun_mk (x := "more_at") (qual := "more_at") (st := topS 30) l19 c19 k19
  have B19 := F19.binds (ps := ["shifts", "hour"]) fun _ _ _ _ _ _ us hl => match us, hl with | [_, _], _ => rfl
  have F20 := fun_mk (x := "shift_cost") (qual := "shift_cost") (st := topS 31) l20 c20 k20
  have B20 := F20.binds (ps := ["shifts", "price", "begin", "many"]) fun _ _ _ _ _ _ us hl => match us, hl with | [_, _, _, _], _ => rfl
  have F21 := fun_mk (x := "cheapest_begin") (qual := "cheapest_begin") (st := topS 32) l21 c21 k21
  have B21 := F21.binds (ps := ["shifts", "price", "many", "last"]) fun _ _ _ _ _ _ us hl => match us, hl with | [_, _, _, _], _ => rfl
  have F22 := fun_mk (x := "_law_told") (qual := "_law_told") (st := topS 38) l22 c22 k22
  have B22 := F22.binds (ps := ["which", "a", "b", "c", "d"]) fun _ _ _ _ _ _ us hl => match us, hl with | [_, _, _, _, _], _ => rfl
  have F23 := fun_mk (x := "_law_cost") (qual := "_law_cost") (st := topS 39) l23 c23 k23
  have B23 := F23.binds (ps := ["machine", "hours"]) fun _ _ _ _ _ _ us hl => match us, hl with | [_, _], _ => rfl
  have F24 := fun_mk (x := "_law_next") (qual := "_law_next") (st := topS 40) l24 c24 k24
  have B24 := F24.binds (ps := ["row", "machine"]) fun _ _ _ _ _ _ us hl => match us, hl with | [_, _], _ => rfl
  have F25 := fun_mk (x := "_law_whole") (qual := "_law_whole") (st := topS 36) l25 c25 k25
  have B25 := F25.binds (ps := ["value"]) fun _ _ _ _ _ _ us hl => match us, hl with | [_], _ => rfl
  have F26 := fun_mk (x := "_law_costs_due") (qual := "_law_costs_due") (st := topS 42) l26 c26 k26
  have B26 := F26.binds (ps := ["machines", "hours", "table", "cost"]) fun _ _ _ _ _ _ us hl => match us, hl with | [_, _, _, _], _ => rfl
  have F27 := fun_mk (x := "_law_hours_due") (qual := "_law_hours_due") (st := topS 41) l27 c27 k27
  have B27 := F27.binds (ps := ["machines", "hours", "rows", "cost"]) fun _ _ _ _ _ _ us hl => match us, hl with | [_, _, _, _], _ => rfl
  have F28 := fun_mk (x := "_law_bent") (qual := "_law_bent") (st := topS 37) l28 c28 k28
  have B28 := F28.binds (ps := ["state", "value", "deep"]) fun _ _ _ _ _ _ us hl => match us, hl with | [_, _, _], _ => rfl
  have F29 := fun_mk (x := "law") (qual := "law") (st := topS 43) l29 c29 k29
  have B29 := F29.binds (ps := ["script"]) fun _ _ _ _ _ _ us hl => match us, hl with | [_], _ => rfl
  refine ⟨PySem.W.fnOf "law" "law" (defArgs (topS 43)) (defBody (topS 43)) (defScope (topS 43)) .none kV29 dc29 pm29 an29 cd29 ct29, fun s v => .of_eq rfl, fun base _ _ => ?_⟩
  have hLq : hL (xs.lookup ("TooMany" : Str)).isSome = [1, 2, 3] := by decide +kernel
  have R : Er P w K mg base (fun c => [0, C1, C2, C3, 0].getD c 0) xs tw := by
    refine ⟨fun x c hx => ?_, fun h => (by cases h), fun _ _ => ⟨⟨⟨?g1, ?g2, ?g4, ?g5, ?g6⟩, PySem.W.mg_none_of X G z14, PySem.W.mg_none_of X G z19⟩, C, PySem.W.mg_of X G ca, ?g7⟩⟩
    · have hm := PySem.mem_of_lookup hx
      simp only [xs, List.mem_cons, Prod.mk.injEq, List.not_mem_nil, or_false] at hm
      rcases hm with ⟨rfl, rfl⟩ | ⟨rfl, rfl⟩ | ⟨rfl, rfl⟩
      · exact er_one (C := C1) ib1 is1 rfl rfl (fun _ _ _ _ _ _ us hl => match us, hl with | [_, _], _ => rfl) (scope_of (by decide +kernel)) rfl rfl (by decide) (by decide) (by decide) (by decide) (fun _ => rfl) (fun _ => ⟨_, rfl⟩) (PySem.W.mg_of X G E1e) E1o E1s E1b E1v E1t E1k E1i E1f E1l E1d E1c E1g E1h E1j E1m E1n E1p E1r opq (PySem.W.mg_none_of X G z18) htop
      · exact er_one (C := C2) ib2 is2 rfl rfl (fun _ _ _ _ _ _ us hl => match us, hl with | [_, _], _ => rfl) (scope_of (by decide +kernel)) rfl rfl (by decide) (by decide) (by decide) (by decide) (fun _ => rfl) (fun _ => ⟨_, rfl⟩) (PySem.W.mg_of X G E2e) E2o E2s E2b E2v E2t E2k E2i E2f E2l E2d E2c E2g E2h E2j E2m E2n E2p E2r opq (PySem.W.mg_none_of X G z18) htop
      · exact er_one (C := C3) ib3 is3 rfl rfl (fun _ _ _ _ _ _ us hl => match us, hl with | [_, _], _ => rfl) (scope_of (by decide +kernel)) rfl rfl (by decide) (by decide) (by decide) (by decide) (fun _ => rfl) (fun _ => ⟨_, rfl⟩) (PySem.W.mg_of X G E3e) E3o E3s E3b E3v E3t E3k E3i E3f E3l E3d E3c E3g E3h E3j E3m E3n E3p E3r opq (PySem.W.mg_none_of X G z18) htop
    case g1 =>
      intro c hc
      rw [hLq] at hc
      simp only [List.mem_cons, List.not_mem_nil, or_false] at hc
      rcases hc with rfl | rfl | rfl
      · exact PySem.W.mg_of X G E1e
      · exact PySem.W.mg_of X G E2e
      · exact PySem.W.mg_of X G E3e
    case g2 =>
      intro c hc
      rw [hLq] at hc
      simp only [List.mem_cons, List.not_mem_nil, or_false] at hc
      rcases hc with rfl | rfl | rfl
      · exact ⟨E1u, E1w, E1b, E1x, E1y, hn, ht, E1z⟩
      · exact ⟨E2u, E2w, E2b, E2x, E2y, hn, ht, E2z⟩
      · exact ⟨E3u, E3w, E3b, E3x, E3y, hn, ht, E3z⟩
    case g4 =>
      intro c hc
      rw [hLq] at hc
      simp only [List.mem_cons, List.not_mem_nil, or_false] at hc
      rcases hc with rfl | rfl | rfl
      · exact E1r
      · exact E2r
      · exact E3r
    case g5 =>
      intro c hc d hd
      rw [hLq] at hc hd
      simp only [List.mem_cons, List.not_mem_nil, or_false] at hc hd
      rcases hc with rfl | rfl | rfl <;> rcases hd with rfl | rfl | rfl
      · exact I11
      · exact I12
      · exact I13
      · exact I21
      · exact I22
      · exact I23
      · exact I31
      · exact I32
      · exact I33
    case g6 =>
      intro c hc
      rw [hLq] at hc
      simp only [List.mem_cons, List.not_mem_nil, or_false] at hc
      rcases hc with rfl | rfl | rfl
      · exact E1A
      · exact E2A
      · exact E3A
    case g7 =>
      intro c hc
      rw [hLq] at hc
      simp only [List.mem_cons, List.not_mem_nil, or_false] at hc
      rcases hc with rfl | rfl | rfl
      · exact E1B
      · exact E2B
      · exact E3B
  have q0 : Fns P w K mg base (fun c => [0, C1, C2, C3, 0].getD c 0) fs30 2 fs0 G0 := fns_nil
  have q1 : Fns P w K mg base (fun c => [0, C1, C2, C3, 0].getD c 0) fs30 3 fs1 G1 := fns_cons rfl (by decide +kernel) (by decide +kernel) ⟨_, _, _, fn_ok (by decide) F0 sc_law_start rfl rfl h_law_start M R q0, PySem.W.mg_of X G a0, k0, B0, fun ws h => run_bad h⟩ q0
  have q2 : Fns P w K mg base (fun c => [0, C1, C2, C3, 0].getD c 0) fs30 4 fs2 G2 := fns_cons rfl (by decide +kernel) (by decide +kernel) ⟨_, _, _, fn_ok (by decide) F1 sc_law_draw rfl rfl h_law_draw M R q1, PySem.W.mg_of X G a1, k1, B1, fun ws h => run_bad h⟩ q1
  have q3 : Fns P w K mg base (fun c => [0, C1, C2, C3, 0].getD c 0) fs30 5 fs3 G3 := fns_cons rfl (by decide +kernel) (by decide +kernel) ⟨_, _, _, fn_ok (by decide) F2 sc_is_integer rfl rfl h_is_integer M R q2, PySem.W.mg_of X G a2, k2, B2, fun ws h => run_bad h⟩ q2
  have q4 : Fns P w K mg base (fun c => [0, C1, C2, C3, 0].getD c 0) fs30 6 fs4 G4 := fns_cons rfl (by decide +kernel) (by decide +kernel) ⟨_, _, _, fn_ok (by decide) F3 sc_is_money rfl rfl h_is_money M R q3, PySem.W.mg_of X G a3, k3, B3, fun ws h => run_bad h⟩ q3
  have q5 : Fns P w K mg base (fun c => [0, C1, C2, C3, 0].getD c 0) fs30 7 fs5 G5 := fns_cons rfl (by decide +kernel) (by decide +kernel) ⟨_, _, _, fn_ok (by decide) F4 sc_check_machines rfl rfl h_check_machines M R q4, PySem.W.mg_of X G a4, k4, B4, fun ws h => run_bad h⟩ q4
  have q6 : Fns P w K mg base (fun c => [0, C1, C2, C3, 0].getD c 0) fs30 8 fs6 G6 := fns_cons rfl (by decide +kernel) (by decide +kernel) ⟨_, _, _, fn_ok (by decide) F5 sc_check_hours rfl rfl h_check_hours M R q5, PySem.W.mg_of X G a5, k5, B5, fun ws h => run_bad h⟩ q5
  have q7 : Fns P w K mg base (fun c => [0, C1, C2, C3, 0].getD c 0) fs30 9 fs7 G7 := fns_cons rfl (by decide +kernel) (by decide +kernel) ⟨_, _, _, fn_ok (by decide) F6 sc_cost_of rfl rfl h_cost_of M R q6, PySem.W.mg_of X G a6, k6, B6, fun ws h => run_bad h⟩ q6
  have q8 : Fns P w K mg base (fun c => [0, C1, C2, C3, 0].getD c 0) fs30 10 fs8 G8 := fns_cons rfl (by decide +kernel) (by decide +kernel) ⟨_, _, _, fn_ok (by decide) F7 sc_accept_hours rfl rfl h_accept_hours M R q7, PySem.W.mg_of X G a7, k7, B7, fun ws h => run_bad h⟩ q7
  have q9 : Fns P w K mg base (fun c => [0, C1, C2, C3, 0].getD c 0) fs30 11 fs9 G9 := fns_cons rfl (by decide +kernel) (by decide +kernel) ⟨_, _, _, fn_ok (by decide) F8 sc_machine_cost rfl rfl h_machine_cost M R q8, PySem.W.mg_of X G a8, k8, B8, fun ws h => run_bad h⟩ q8
  have q10 : Fns P w K mg base (fun c => [0, C1, C2, C3, 0].getD c 0) fs30 12 fs10 G10 := fns_cons rfl (by decide +kernel) (by decide +kernel) ⟨_, _, _, fn_ok (by decide) F9 sc_next_costs rfl rfl h_next_costs M R q9, PySem.W.mg_of X G a9, k9, B9, fun ws h => run_bad h⟩ q9
  have q11 : Fns P w K mg base (fun c => [0, C1, C2, C3, 0].getD c 0) fs30 13 fs11 G11 := fns_cons rfl (by decide +kernel) (by decide +kernel) ⟨_, _, _, fn_ok (by decide) F10 sc_accept_costs rfl rfl h_accept_costs M R q10, PySem.W.mg_of X G a10, k10, B10, fun ws h => run_bad h⟩ q10
  have q12 : Fns P w K mg base (fun c => [0, C1, C2, C3, 0].getD c 0) fs30 14 fs12 G12 := fns_cons rfl (by decide +kernel) (by decide +kernel) ⟨_, _, _, fn_ok (by decide) F11 sc_costs_in rfl rfl h_costs_in M R q11, PySem.W.mg_of X G a11, k11, B11, fun ws h => run_bad h⟩ q11
  have q13 : Fns P w K mg base (fun c => [0, C1, C2, C3, 0].getD c 0) fs30 15 fs13 G13 := fns_cons rfl (by decide +kernel) (by decide +kernel) ⟨_, _, _, fn_ok (by decide) F12 sc_least_costs rfl rfl h_least_costs M R q12, PySem.W.mg_of X G a12, k12, B12, fun ws h => run_bad h⟩ q12
  have q14 : Fns P w K mg base (fun c => [0, C1, C2, C3, 0].getD c 0) fs30 16 fs14 G14 := fns_cons rfl (by decide +kernel) (by decide +kernel) ⟨_, _, _, fn_ok (by decide) F13 sc_best_hours rfl rfl h_best_hours M R q13, PySem.W.mg_of X G a13, k13, B13, fun ws h => run_bad h⟩ q13
  have q15 : Fns P w K mg base (fun c => [0, C1, C2, C3, 0].getD c 0) fs30 17 fs15 G15 := fns_cons rfl (by decide +kernel) (by decide +kernel) ⟨_, _, _, fn_ok (by decide) F14 sc_check_plan rfl rfl h_check_plan M R q14, PySem.W.mg_of X G a14, k14, B14, fun ws h => run_bad h⟩ q14
  have q16 : Fns P w K mg base (fun c => [0, C1, C2, C3, 0].getD c 0) fs30 18 fs16 G16 := fns_cons rfl (by decide +kernel) (by decide +kernel) ⟨_, _, _, fn_ok (by decide) F15 sc_even_from rfl rfl h_even_from M R q15, PySem.W.mg_of X G a15, k15, B15, fun ws h => run_bad h⟩ q15
  have q17 : Fns P w K mg base (fun c => [0, C1, C2, C3, 0].getD c 0) fs30 19 fs17 G17 := fns_cons rfl (by decide +kernel) (by decide +kernel) ⟨_, _, _, fn_ok (by decide) F16 sc_first_less rfl rfl h_first_less M R q16, PySem.W.mg_of X G a16, k16, B16, fun ws h => run_bad h⟩ q16
  have q18 : Fns P w K mg base (fun c => [0, C1, C2, C3, 0].getD c 0) fs30 20 fs18 G18 := fns_cons rfl (by decide +kernel) (by decide +kernel) ⟨_, _, _, fn_ok (by decide) F17 sc_best_plans rfl rfl h_best_plans M R q17, PySem.W.mg_of X G a17, k17, B17, fun ws h => run_bad h⟩ q17
  have q19 : Fns P w K mg base (fun c => [0, C1, C2, C3, 0].getD c 0) fs30 21 fs19 G19 := fns_cons rfl (by decide +kernel) (by decide +kernel) ⟨_, _, _, fn_ok (by decide) F18 sc_check_shifts rfl rfl h_check_shifts M R q18, PySem.W.mg_of X G a18, k18, B18, fun ws h => run_bad h⟩ q18
  have q20 : Fns P w K mg base (fun c => [0, C1, C2, C3, 0].getD c 0) fs30 22 fs20 G20 := fns_cons rfl (by decide +kernel) (by decide +kernel) ⟨_, _, _, fn_ok (by decide) F19 sc_more_at rfl rfl h_more_at M R q19, PySem.W.mg_of X G a19, k19, B19, fun ws h => run_bad h⟩ q19
  have q21 : Fns P w K mg base (fun c => [0, C1, C2, C3, 0].getD c 0) fs30 23 fs21 G21 := fns_cons rfl (by decide +kernel) (by decide +kernel) ⟨_, _, _, fn_ok (by decide) F20 sc_shift_cost rfl rfl h_shift_cost M R q20, PySem.W.mg_of X G a20, k20, B20, fun ws h => run_bad h⟩ q20
  have q22 : Fns P w K mg base (fun c => [0, C1, C2, C3, 0].getD c 0) fs30 24 fs22 G22 := fns_cons rfl (by decide +kernel) (by decide +kernel) ⟨_, _, _, fn_ok (by decide) F21 sc_cheapest_begin rfl rfl h_cheapest_begin M R q21, PySem.W.mg_of X G a21, k21, B21, fun ws h => run_bad h⟩ q21
  have q23 : Fns P w K mg base (fun c => [0, C1, C2, C3, 0].getD c 0) fs30 25 fs23 G23 := fns_cons rfl (by decide +kernel) (by decide +kernel) ⟨_, _, _, fn_ok (by decide) F22 sc_law_told rfl rfl h_law_told M R q22, PySem.W.mg_of X G a22, k22, B22, fun ws h => run_bad h⟩ q22
  have q24 : Fns P w K mg base (fun c => [0, C1, C2, C3, 0].getD c 0) fs30 26 fs24 G24 := fns_cons rfl (by decide +kernel) (by decide +kernel) ⟨_, _, _, fn_ok (by decide) F23 sc_law_cost rfl rfl h_law_cost M R q23, PySem.W.mg_of X G a23, k23, B23, fun ws h => run_bad h⟩ q23
  have q25 : Fns P w K mg base (fun c => [0, C1, C2, C3, 0].getD c 0) fs30 27 fs25 G25 := fns_cons rfl (by decide +kernel) (by decide +kernel) ⟨_, _, _, fn_ok (by decide) F24 sc_law_next rfl rfl h_law_next M R q24, PySem.W.mg_of X G a24, k24, B24, fun ws h => run_bad h⟩ q24
  have q26 : Fns P w K mg base (fun c => [0, C1, C2, C3, 0].getD c 0) fs30 28 fs26 G26 := fns_cons rfl (by decide +kernel) (by decide +kernel) ⟨_, _, _, fn_ok (by decide) F25 sc_law_whole rfl rfl h_law_whole M R q25, PySem.W.mg_of X G a25, k25, B25, fun ws h => run_bad h⟩ q25
  have q27 : Fns P w K mg base (fun c => [0, C1, C2, C3, 0].getD c 0) fs30 29 fs27 G27 := fns_cons rfl (by decide +kernel) (by decide +kernel) ⟨_, _, _, fn_ok (by decide) F26 sc_law_costs_due rfl rfl h_law_costs_due M R q26, PySem.W.mg_of X G a26, k26, B26, fun ws h => run_bad h⟩ q26
  have q28 : Fns P w K mg base (fun c => [0, C1, C2, C3, 0].getD c 0) fs30 30 fs28 G28 := fns_cons rfl (by decide +kernel) (by decide +kernel) ⟨_, _, _, fn_ok (by decide) F27 sc_law_hours_due rfl rfl h_law_hours_due M R q27, PySem.W.mg_of X G a27, k27, B27, fun ws h => run_bad h⟩ q27
  have q29 : Fns P w K mg base (fun c => [0, C1, C2, C3, 0].getD c 0) fs30 39 fs29 G29 := fns_cons rfl (by decide +kernel) (by decide +kernel) ⟨_, _, _, rec_ok (by decide) F28 sc_law_bent rfl rfl h_law_bent M R q28 rfl (by decide +kernel) (by decide +kernel) (PySem.W.mg_of X G a28) k28 B28 8, PySem.W.mg_of X G a28, k28, B28, fun ws h => rec_bad h _⟩ (fns_mono (by decide) q28)
  exact law_end (fn_ok (by decide) F29 sc_law rfl rfl h_law M R q29) rfl law_ok
end Ev.K57
open PySem PySem.W PyProof.Rows
set_option maxHeartbeats 0 in
theorem PySem.Challenge.cw_cardspunched_k57_papers_and_arguments_of_holds : PySem.Challenge.rw_cardspunched_k57_papers_and_arguments_of.Holds := by
  w_on; o_law; k_head; (case hw => w_witness2)
  k_fill
  refine Ev.walkG (l := PySem.Challenge.rw_cardspunched_k57_papers_and_arguments_of) (n := 63) (k := 40) (x := "script") (CX := fun w => L2.CX (PySem.Challenge.rw_cardspunched_k57_papers_and_arguments_of).prog w) (sp := fun w => Ev.spL _ 63) rfl (by decide) rfl ⟨rfl, by decide, by decide⟩ (fun w h Y => PySem.W.kIn_of Y) ?F (fun w H a ns hl hH hS => ⟨a, ns, rfl, hl, hH, hS, fun _ => rfl⟩) (fun _ _ _ _ _ h => Ev.cx_false h)
  case F =>
    intro w mg fa h KX G hmg
    refine' Ev.K57.all_mk KX G hmg ?a0 ?l0 ?c0 ?k0 ?a1 ?l1 ?c1 ?k1 ?a2 ?l2 ?c2 ?k2 ?a3 ?l3 ?c3 ?k3 ?a4 ?l4 ?c4 ?k4 ?a5 ?l5 ?c5 ?k5 ?a6 ?l6 ?c6 ?k6 ?a7 ?l7 ?c7 ?k7 ?a8 ?l8 ?c8 ?k8 ?a9 ?l9 ?c9 ?k9 ?a10 ?l10 ?c10 ?k10 ?a11 ?l11 ?c11 ?k11 ?a12 ?l12 ?c12 ?k12 ?a13 ?l13 ?c13 ?k13 ?a14 ?l14 ?c14 ?k14 ?a15 ?l15 ?c15 ?k15 ?a16 ?l16 ?c16 ?k16 ?a17 ?l17 ?c17 ?k17 ?a18 ?l18 ?c18 ?k18 ?a19 ?l19 ?c19 ?k19 ?a20 ?l20 ?c20 ?k20 ?a21 ?l21 ?c21 ?k21 ?a22 ?l22 ?c22 ?k22 ?a23 ?l23 ?c23 ?k23 ?a24 ?l24 ?c24 ?k24 ?a25 ?l25 ?c25 ?k25 ?a26 ?l26 ?c26 ?k26 ?a27 ?l27 ?c27 ?k27 ?a28 ?l28 ?c28 ?k28 ?a29 ?l29 ?c29 ?k29 ?z0 ?z1 ?z2 ?z3 ?z4 ?z5 ?z6 ?z7 ?z8 ?z9 ?z10 ?z11 ?z12 ?z13 ?z14 ?z15 ?z16 ?z17 ?z18 ?z19 ?cn0 ?cn1 ?cn2 ?cn3 ?cn4 ?cn5 ?ca ?opq ?hn ?ht ?htop ?E1e ?E1o ?E1s ?E1b ?E1v ?E1t ?E1k ?E1i ?E1f ?E1l ?E1d ?E1c ?E1g ?E1h ?E1j ?E1m ?E1n ?E1p ?E1q ?E1r ?E1u ?E1w ?E1x ?E1y ?E1z ?E1A ?E1B ?E2e ?E2o ?E2s ?E2b ?E2v ?E2t ?E2k ?E2i ?E2f ?E2l ?E2d ?E2c ?E2g ?E2h ?E2j ?E2m ?E2n ?E2p ?E2q ?E2r ?E2u ?E2w ?E2x ?E2y ?E2z ?E2A ?E2B ?E3e ?E3o ?E3s ?E3b ?E3v ?E3t ?E3k ?E3i ?E3f ?E3l ?E3d ?E3c ?E3g ?E3h ?E3j ?E3m ?E3n ?E3p ?E3q ?E3r ?E3u ?E3w ?E3x ?E3y ?E3z ?E3A ?E3B ?I11 ?I12 ?I13 ?I21 ?I22 ?I23 ?I31 ?I32 ?I33
    (case a0 => k_is); (case l0 => k_is); (case c0 => k_is); (case k0 => k_is); (case a1 => k_is); (case l1 => k_is); (case c1 => k_is); (case k1 => k_is); (case a2 => k_is); (case l2 => k_is); (case c2 => k_is); (case k2 => k_is); (case a3 => k_is); (case l3 => k_is); (case c3 => k_is); (case k3 => k_is); (case a4 => k_is); (case l4 => k_is); (case c4 => k_is); (case k4 => k_is); (case a5 => k_is); (case l5 => k_is); (case c5 => k_is); (case k5 => k_is); (case a6 => k_is); (case l6 => k_is); (case c6 => k_is); (case k6 => k_is); (case a7 => k_is); (case l7 => k_is); (case c7 => k_is); (case k7 => k_is); (case a8 => k_is); (case l8 => k_is); (case c8 => k_is); (case k8 => k_is); (case a9 => k_is); (case l9 => k_is); (case c9 => k_is); (case k9 => k_is); (case a10 => k_is); (case l10 => k_is); (case c10 => k_is); (case k10 => k_is); (case a11 => k_is); (case l11 => k_is); (case c11 => k_is); (case k11 => k_is); (case a12 => k_is); (case l12 => k_is); (case c12 => k_is); (case k12 => k_is); (case a13 => k_is); (case l13 => k_is); (case c13 => k_is); (case k13 => k_is); (case a14 => k_is); (case l14 => k_is); (case c14 => k_is); (case k14 => k_is); (case a15 => k_is); (case l15 => k_is); (case c15 => k_is); (case k15 => k_is); (case a16 => k_is); (case l16 => k_is); (case c16 => k_is); (case k16 => k_is); (case a17 => k_is); (case l17 => k_is); (case c17 => k_is); (case k17 => k_is); (case a18 => k_is); (case l18 => k_is); (case c18 => k_is); (case k18 => k_is); (case a19 => k_is); (case l19 => k_is); (case c19 => k_is); (case k19 => k_is); (case a20 => k_is); (case l20 => k_is); (case c20 => k_is); (case k20 => k_is); (case a21 => k_is); (case l21 => k_is); (case c21 => k_is); (case k21 => k_is); (case a22 => k_is); (case l22 => k_is); (case c22 => k_is); (case k22 => k_is); (case a23 => k_is); (case l23 => k_is); (case c23 => k_is); (case k23 => k_is); (case a24 => k_is); (case l24 => k_is); (case c24 => k_is); (case k24 => k_is); (case a25 => k_is); (case l25 => k_is); (case c25 => k_is); (case k25 => k_is); (case a26 => k_is); (case l26 => k_is); (case c26 => k_is); (case k26 => k_is); (case a27 => k_is); (case l27 => k_is); (case c27 => k_is); (case k27 => k_is); (case a28 => k_is); (case l28 => k_is); (case c28 => k_is); (case k28 => k_is); (case a29 => k_is); (case l29 => k_is); (case c29 => k_is); (case k29 => k_is); (case z0 => k_is); (case z1 => k_is); (case z2 => k_is); (case z3 => k_is); (case z4 => k_is); (case z5 => k_is); (case z6 => k_is); (case z7 => k_is); (case z8 => k_is); (case z9 => k_is); (case z10 => k_is); (case z11 => k_is); (case z12 => k_is); (case z13 => k_is); (case z14 => k_is); (case z15 => k_is); (case z16 => k_is); (case z17 => k_is); (case z18 => k_is); (case z19 => k_is); (case cn0 => k_is); (case cn1 => k_is); (case cn2 => k_is); (case cn3 => k_is); (case cn4 => k_is); (case cn5 => k_is); (case ca => k_is); (case opq => k_is); (case hn => k_is); (case ht => k_is); (case htop => rfl); (case E1e => k_is); (case E1o => k_is); (case E1s => k_is); (case E1b => k_is); (case E1v => k_is); (case E1t => k_is); (case E1k => k_is); (case E1i => k_is); (case E1f => k_is); (case E1l => k_is); (case E1d => k_is); (case E1c => k_is); (case E1g => exact rfl); (case E1h => decide +kernel); (case E1j => k_is); (case E1m => k_is); (case E1n => k_is); (case E1p => ks_is); (case E1q => k_is); (case E1r => k_is); (case E1u => k_is); (case E1w => k_is); (case E1x => k_is); (case E1y => k_is); (case E1z => k_is); (case E1A => kit_is); (case E1B => kts_exm); (case E2e => k_is); (case E2o => k_is); (case E2s => k_is); (case E2b => k_is); (case E2v => k_is); (case E2t => k_is); (case E2k => k_is); (case E2i => k_is); (case E2f => k_is); (case E2l => k_is); (case E2d => k_is); (case E2c => k_is); (case E2g => exact rfl); (case E2h => decide +kernel); (case E2j => k_is); (case E2m => k_is); (case E2n => k_is); (case E2p => ks_is); (case E2q => k_is); (case E2r => k_is); (case E2u => k_is); (case E2w => k_is); (case E2x => k_is); (case E2y => k_is); (case E2z => k_is); (case E2A => kit_is); (case E2B => kts_exm); (case E3e => k_is); (case E3o => k_is); (case E3s => k_is); (case E3b => k_is); (case E3v => k_is); (case E3t => k_is); (case E3k => k_is); (case E3i => k_is); (case E3f => k_is); (case E3l => k_is); (case E3d => k_is); (case E3c => k_is); (case E3g => exact rfl); (case E3h => decide +kernel); (case E3j => k_is); (case E3m => k_is); (case E3n => k_is); (case E3p => ks_is); (case E3q => k_is); (case E3r => k_is); (case E3u => k_is); (case E3w => k_is); (case E3x => k_is); (case E3y => k_is); (case E3z => k_is); (case E3A => kit_is); (case E3B => kts_exm); (case I11 => kit_is); (case I12 => kit_is); (case I13 => kit_is); (case I21 => kit_is); (case I22 => kit_is); (case I23 => kit_is); (case I31 => kit_is); (case I32 => kit_is); (case I33 => kit_is)
