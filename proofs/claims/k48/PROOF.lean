import PyProof.Rows.All
import Wide.All
import OpenK.AllK
import Wide.FinOn
import HandS.ForMost
import HandS.Zip
import HandS.Wide
import HandS.TupAny
import HandS.TupMul
import HandS.IsInst
import HandS.SortInts
import KE.DatumOrd
import PyProof.WalksMore
import HandS.Deep
import HandS.Flow
import HandS.Style
import HandS.Conv
import KE.KTupSum
import HandS.Iter
import KE.GoesEnum
import KE.GoesZip
import HandS.Comp
import HandS.NoneIn
import HandS.Ends
import HandS.Words
import PyProof.ReprRoads
import HandS.Exc
import HandS.ExcInit
import HandS.Nested
import KE.KExcSuper
import KE.KSuper
import HandS.ExcIs
import HandS.ExcField
import HandS.HotCalls
import KE.KExcIs
import PyProof.FitsInt
import KE.KEqDeep
import PyProof.ReprBulk
import KE.RegKIsAll
import KE.RegKTryMore
import KE.RegKSuper
import PySem.Challenge.RW_cardspunched_k48_whole_wear
set_option Elab.async false
set_option linter.all false
/-! Ev, part A: a small language of pure data, its evaluator (no heap: lists that a name owns are values).
The programs' texts are turned into it (part D), and what it answers is what the model answers (parts B to E). -/
namespace Ev
open PySem

/-- what a name holds: data; a list of its own (l); the same while it is walked (k); a list that is only read (r); a def by its number -/
inductive W where
  | d (x : PyData) | l (xs : List PyData) | k (xs : List PyData) | r (xs : List PyData) | f (n : Nat)
abbrev Env := List (Option W)
/-- what an expression gives: data; a new list; the list of a name; a list that is only read; a def -/
inductive Rv where
  | v (x : PyData) | n (xs : List PyData) | p (i : Nat) | r (xs : List PyData) | f (n : Nat)
/-- an outcome: fine; an own error by its class's number and its field; not looked at -/
inductive Rs (α : Type) where
  | ok (a : α) | ex (c : Nat) (a : PyData) | bad
def Rs.bind {α β : Type} : Rs α → (α → Rs β) → Rs β
  | .ok a, g => g a
  | .ex c a, _ => .ex c a
  | .bad, _ => .bad
def ofO {α : Type} : Option α → Rs α
  | some a => .ok a
  | none => .bad

/-- the data of what an expression gave, as it stands in the names now -/
def datW : W → Option PyData
  | .d x => some x
  | .l xs => some (.list xs)
  | .k xs => some (.list xs)
  | .r _ => none
  | .f _ => none
def dat (env : Env) : Rv → Option PyData
  | .v x => some x
  | .n xs => some (.list xs)
  | .p i => match env[i]? with
    | some (some w) => datW w
    | _ => none
  | .r _ => none
  | .f _ => none
/-- the data to be kept elsewhere: a name's own list is its own no more -/
def keep (env : Env) : Rv → Option (Env × PyData)
  | .v x => some (env, x)
  | .n xs => some (env, .list xs)
  | .p i => match env[i]? with
    | some (some (.l xs)) => some (env.set i (some (.d (.list xs))), .list xs)
    | some (some (.d x)) => some (env, x)
    | _ => none
  | .r _ => none
  | .f _ => none
def rdName (env : Env) (i : Nat) : Option Rv := match env[i]? with
  | some (some (.d x)) => some (.v x)
  | some (some (.l _)) => some (.p i)
  | some (some (.k _)) => some (.p i)
  | some (some (.r xs)) => some (.r xs)
  | some (some (.f n)) => some (.f n)
  | _ => none
/-- a name is bound -/
def bindN (env : Env) (i : Nat) : Rv → Option Env
  | .v x => if i < env.length then some (env.set i (some (.d x))) else none
  | .n xs => if i < env.length then some (env.set i (some (.l xs))) else none
  | .f n => if i < env.length then some (env.set i (some (.f n))) else none
  | .p _ => none
  | .r _ => none

/-! ### operations on data -/
inductive BOp where | add | sub | mul | fdiv | mod | pow
  deriving DecidableEq
inductive COp where | eq | ne | lt | le | gt | ge | isN | notN | inn | nin
  deriving DecidableEq
inductive Ty where | int | bool | str | tuple
  deriving DecidableEq
inductive B1 where | len | all | any | sum | min | max | tuple | list | sorted | abs | int | repr
  deriving DecidableEq
inductive B2 where | max | min
  deriving DecidableEq

def asInts : List PyData → Option (List Int)
  | [] => some []
  | .int i :: r => (asInts r).map (i :: ·)
  | _ :: _ => none
/-- the truths of bools and ints -/
def asTr : List PyData → Option (List Bool)
  | [] => some []
  | .bool b :: r => (asTr r).map (b :: ·)
  | .int i :: r => (asTr r).map ((i != 0) :: ·)
  | _ :: _ => none
def rep {α : Type} (n : Nat) (xs : List α) : List α := (List.replicate n xs).flatten
def sml (i : Int) : Bool := decide (-(2 ^ 64) < i) && decide (i < 2 ^ 64)

def opBin : BOp → PyData → PyData → Option Rv
  | .add, .int i, .int j => some (.v (.int (i + j)))
  | .add, .str a, .str b => if a.length + b.length ≤ sizeLine then some (.v (.str (a ++ b))) else none
  | .add, .tuple xs, .tuple ys => if xs.length + ys.length ≤ sizeLine then some (.v (.tuple (xs ++ ys))) else none
  | .add, .list xs, .list ys => if xs.length + ys.length ≤ sizeLine then some (.n (xs ++ ys)) else none
  | .sub, .int i, .int j => some (.v (.int (i - j)))
  | .mul, .int i, .int j => if sml i || sml j || decide (i.natAbs.log2 + j.natAbs.log2 < 1000000) then some (.v (.int (i * j))) else none
  | .mul, .tuple xs, .int k => if -(2 ^ 63) ≤ k ∧ k ≤ 100000 ∧ k.toNat * xs.length ≤ 1000000 then some (.v (.tuple (rep k.toNat xs))) else none
  | .mul, .list xs, .int k => if -(2 ^ 63) ≤ k ∧ k < 2 ^ 63 ∧ xs.length * k.toNat ≤ sizeLine then some (.n (rep k.toNat xs)) else none
  | .fdiv, .int i, .int j => if j ≠ 0 ∧ j.natAbs.log2 < 9000 then some (.v (.int (i.fdiv j))) else none
  | .mod, .int i, .int j => if j ≠ 0 then some (.v (.int (i.fmod j))) else none
  | .pow, .int i, .int j => if 0 ≤ j ∧ j ≤ 1000 ∧ sml i = true then some (.v (.int (i ^ j.toNat))) else none
  | _, _, _ => none

/-- a list of ints or texts told in full -/
def shp (x : PyData) : Bool := SeqAt.shaped x
def cmpI (o : COp) (i j : Int) : Bool := match o with
  | .lt => decide (i < j) | .le => decide (i ≤ j) | .gt => decide (j < i) | .ge => decide (j ≤ i) | _ => false
def opCmp : COp → PyData → PyData → Option Bool
  | .eq, x, y => if shp x && shp y then some (PyData.eqv x y) else none
  | .ne, x, y => if shp x && shp y then some (!PyData.eqv x y) else none
  | .isN, x, .none => some (match x with | .none => true | _ => false)
  | .notN, x, .none => some (match x with | .none => false | _ => true)
  | .inn, x, .list ys => if shp x && shp (.list ys) then some (ys.any fun z => PyData.eqv z x) else none
  | .nin, x, .list ys => if shp x && shp (.list ys) then some (!ys.any fun z => PyData.eqv z x) else none
  | .inn, x, .tuple ys => if shp x && shp (.tuple ys) then some (ys.any fun z => PyData.eqv z x) else none
  | .nin, x, .tuple ys => if shp x && shp (.tuple ys) then some (!ys.any fun z => PyData.eqv z x) else none
  | .lt, .int i, .int j => some (decide (i < j))
  | .le, .int i, .int j => some (decide (i ≤ j))
  | .gt, .int i, .int j => some (decide (j < i))
  | .ge, .int i, .int j => some (decide (j ≤ i))
  | _, _, _ => none

def opSub : PyData → PyData → Option PyData
  | .list xs, .int i => L2.atI xs i
  | .tuple xs, .int i => L2.atI xs i
  | _, _ => none
def cut {α : Type} (xs : List α) (lo hi : Option Int) : List α :=
  (xs.drop (HT.sIx xs.length 0 lo)).take (HT.sIx xs.length xs.length hi - HT.sIx xs.length 0 lo)
def opSlc (lo hi : Option Int) : PyData → Option Rv
  | .list xs => some (.n (cut xs lo hi))
  | .tuple xs => some (.v (.tuple (cut xs lo hi)))
  | _ => none
def tru : PyData → Option Bool
  | .none => some false
  | .bool b => some b
  | .int i => some (i != 0)
  | .list xs => some (!xs.isEmpty)
  | .tuple xs => some (!xs.isEmpty)
  | _ => none
def isTy : Ty → PyData → Option Bool
  | .int, .int _ => some true
  | .int, .bool _ => some true
  | .int, .none => some false
  | .int, .str _ => some false
  | .int, .list _ => some false
  | .int, .tuple _ => some false
  | .bool, .int _ => some false
  | .bool, .bool _ => some true
  | .bool, .none => some false
  | .bool, .str _ => some false
  | .bool, .list _ => some false
  | .bool, .tuple _ => some false
  | .str, .int _ => some false
  | .str, .bool _ => some false
  | .str, .none => some false
  | .str, .str _ => some true
  | .str, .list _ => some false
  | .str, .tuple _ => some false
  | .tuple, .int _ => some false
  | .tuple, .bool _ => some false
  | .tuple, .none => some false
  | .tuple, .str _ => some false
  | .tuple, .list _ => some false
  | .tuple, .tuple _ => some true
  | _, .dict _ => none
def ins (i : Int) : List Int → List Int
  | [] => [i]
  | j :: r => if i ≤ j then i :: j :: r else j :: ins i r
def isort : List Int → List Int
  | [] => []
  | i :: r => ins i (isort r)
def least : Int → List Int → Int
  | m, [] => m
  | m, j :: r => least (if j < m then j else m) r
def most : Int → List Int → Int
  | m, [] => m
  | m, j :: r => most (if m < j then j else m) r
def seqOf : PyData → Option (List PyData)
  | .list xs => some xs
  | .tuple xs => some xs
  | _ => none
/-- the text of a list, a tuple -/
def shw (x : PyData) : Option Rv := if x.showable && decide (x.shown.length ≤ sizeLine) && decide (x.depth ≤ 64) && !x.hasDict then some (.v (.str x.shown)) else none
/-- the first of the least of data that are alike -/
def dmin : List PyData → Option Rv
  | [] => none
  | x :: xs => if ((x :: xs).all fun a => (x :: xs).all fun b => PySem.W.alike a b) && ((x :: xs).all fun a => match a with | .none => false | _ => true) && decide (PyData.depthAll (x :: xs) ≤ 60) && !PyData.hasDictAll (x :: xs) then some (.v (PySem.W.minD x xs)) else none
def minI (xs : List PyData) : Option Rv := (asInts xs).bind fun is => match is with | [] => none | i :: r => some (.v (.int (least i r)))
def minX (xs : List PyData) : Option Rv := match minI xs with
  | some r => some r
  | none => dmin xs
def opB1 : B1 → PyData → Option Rv
  | .len, .list xs => some (.v (.int xs.length))
  | .len, .tuple xs => some (.v (.int xs.length))
  | .len, .str a => if a.length ≤ sizeLine then some (.v (.int a.length)) else none
  | .all, x => (seqOf x).bind fun xs => (asTr xs).map fun bs => .v (.bool (bs.all id))
  | .any, x => (seqOf x).bind fun xs => (asTr xs).map fun bs => .v (.bool (bs.any id))
  | .sum, x => (seqOf x).bind fun xs => (asInts xs).map fun is => .v (.int is.sum)
  | .min, x => (seqOf x).bind minX
  | .max, x => (seqOf x).bind fun xs => (asInts xs).bind fun is => match is with | [] => none | i :: r => some (.v (.int (most i r)))
  | .tuple, .list xs => some (.v (.tuple xs))
  | .tuple, .tuple xs => some (.v (.tuple xs))
  | .list, .list xs => some (.n xs)
  | .list, .tuple xs => some (.n xs)
  | .sorted, .list xs => (asInts xs).map fun is => .n ((isort is).map .int)
  | .abs, .int i => some (.v (.int (if i < 0 then -i else i)))
  | .int, .int i => some (.v (.int i))
  | .int, .bool b => some (.v (.int (if b then 1 else 0)))
  | .repr, x => shw x
  | _, _ => none
def opB2 : B2 → PyData → PyData → Option PyData
  | .max, .int i, .int j => some (.int (if j > i then j else i))
  | .min, .int i, .int j => some (.int (if j < i then j else i))
  | _, _, _ => none
/-- the place of the first that is the same -/
def plc (xs : List PyData) (y : PyData) : Option Nat := if shp (.list xs) && shp y then xs.findIdx? (fun z => PyData.eqv z y) else none
end Ev

/-! Ev, part B: the little language and its evaluator. -/
namespace Ev
open PySem

inductive Tgt where
  | n (i : Nat) | t (ts : List Tgt)
inductive ME where
  | c (x : PyData)
  | v (i : Nat)
  | fn (n : Nat)
  | tup (es : List ME)
  | lst (es : List ME)
  | bin (o : BOp) (a b : ME)
  | neg (a : ME)
  | cmp (o : COp) (a b : ME)
  | chn (o p : COp) (a b c : ME)
  | ch3 (o p q : COp) (a b c d : ME)
  | and (a b : ME)
  | or (a b : ME)
  | not (a : ME)
  | ife (t a b : ME)
  | sub (a i : ME)
  | slc (a : ME) (lo hi : Option ME)
  | rev (a : ME)
  | b1 (o : B1) (a : ME)
  | b2 (o : B2) (a b : ME)
  | isi (a : ME) (t : Ty)
  | lrg (a b : ME)
  | app (i : Nat) (e : ME)
  | ext (i : Nat) (e : ME)
  | popA (i : Nat) (e : ME)
  | idx (i : Nat) (e : ME)
  | call (f : Nat) (as : List ME)
  | callv (tb : List (Str × Nat)) (i : Nat) (as : List ME)
  | lc (own : List Nat) (tg : Tgt) (w : Nat) (its : List ME) (ifs : List ME) (e : ME)
  | bad
/-- how a loop's items are told (w): 0 the items of one; 1, 2, 3 a range; 4 enumerate; 5 zip -/
inductive MS where
  | asg (t : Tgt) (e : ME)
  | par (is : List Nat) (es : List ME)
  | sets (ts : List (Nat × ME)) (es : List ME)
  | mix (ts : List (Nat × Option ME)) (es : List ME)
  | unp (ts : List Tgt) (e : ME)
  | aug (i : Nat) (o : BOp) (e : ME)
  | augs (i : Nat) (ix : ME) (o : BOp) (e : ME)
  | exp (e : ME)
  | ite (t : ME) (a b : List MS)
  | ret (e : ME)
  | retN
  | for_ (tg : Tgt) (w : Nat) (its : List ME) (body : List MS)
  | whl (t : ME) (body : List MS)
  | brk
  | cnt
  | pas
  | rai (c : Nat) (e : ME)
  | tryw (b : List MS)
  | bad

/-- a def, by its arguments: what it gives, and what its parameters hold then -/
abbrev Sem := List W → Rs (Rv × List (Option W))
abbrev Tab := Nat → Option Sem

/-! ### targets -/
mutual
def asgT : Tgt → PyData → Env → Option Env
  | .n i, x, env => if i < env.length then some (env.set i (some (.d x))) else none
  | .t ts, .tuple xs, env => asgTs ts xs env
  | .t _, _, _ => none
def asgTs : List Tgt → List PyData → Env → Option Env
  | [], [], env => some env
  | t :: ts, x :: xs, env => match asgT t x env with
    | some env' => asgTs ts xs env'
    | none => none
  | _, _, _ => none
end

/-! ### walks -/
/-- the items of a thing that is walked; a name's list is locked -/
def lockR (env : Env) : Rv → Option (Env × List PyData × List Nat)
  | .v (.list xs) => some (env, xs, [])
  | .v (.tuple xs) => some (env, xs, [])
  | .n xs => some (env, xs, [])
  | .r xs => some (env, xs, [])
  | .p i => match env[i]? with
    | some (some (.l xs)) => some (env.set i (some (.k xs)), xs, [i])
    | some (some (.k xs)) => some (env, xs, [])
    | some (some (.d (.list xs))) => some (env, xs, [])
    | _ => none
  | _ => none
def unlock1 (env : Env) (i : Nat) : Option Env := match env[i]? with
  | some (some (.k xs)) => some (env.set i (some (.l xs)))
  | _ => none
def unlock : Env → List Nat → Option Env
  | env, [] => some env
  | env, i :: r => match unlock env r with
    | some env' => unlock1 env' i
    | none => none
def upto (lo : Int) : Nat → List PyData
  | 0 => []
  | n + 1 => .int lo :: upto (lo + 1) n
def stepto (lo c : Int) : Nat → List PyData
  | 0 => []
  | n + 1 => .int lo :: stepto (lo + c) c n
def numd (k : Int) : List PyData → List PyData
  | [] => []
  | x :: r => .tuple [.int k, x] :: numd (k + 1) r
def pairs : List PyData → List PyData → List PyData
  | x :: xs, y :: ys => .tuple [x, y] :: pairs xs ys
  | _, _ => []
def triples : List PyData → List PyData → List PyData → List PyData
  | x :: xs, y :: ys, z :: zs => .tuple [x, y, z] :: triples xs ys zs
  | _, _, _ => []
/-- what is walked is a list -/
def isLs : Rv → Bool
  | .v (.tuple _) => false
  | _ => true
def items1 (env : Env) (rs : List Rv) : Option (Env × List PyData × List Nat) := match rs with
  | [.v (.int b)] => if -1000000000000000 ≤ b ∧ b ≤ 1000000000000000 then some (env, upto 0 b.toNat, []) else none
  | _ => none
def items2 (env : Env) (rs : List Rv) : Option (Env × List PyData × List Nat) := match rs with
  | [.v (.int a), .v (.int b)] => if -1000000000000000 ≤ a ∧ a ≤ 1000000000000000 ∧ b ≤ 1000000000000000 ∧ -1000000000000000 ≤ b then some (env, upto a (b - a).toNat, []) else none
  | _ => none
def items3 (env : Env) (rs : List Rv) : Option (Env × List PyData × List Nat) := match rs with
  | [.v (.int a), .v (.int b), .v (.int c)] => if c ≠ 0 ∧ c.natAbs < 1073741824 ∧ Builtin.Range.small a b c = true then some (env, stepto a c (Builtin.Range.rangeSize a b c).toNat, []) else none
  | _ => none
def items4 (env : Env) (rs : List Rv) : Option (Env × List PyData × List Nat) := match rs with
  | [r] => match lockR env r with
    | some (env', xs, ls) => some (env', numd 0 xs, ls)
    | none => none
  | _ => none
def items5 (env : Env) (rs : List Rv) : Option (Env × List PyData × List Nat) := match rs with
  | [r, q] => match lockR env r with
    | some (env', xs, ls) => match lockR env' q with
      | some (env2, ys, ms) => some (env2, pairs xs ys, ls ++ ms)
      | none => none
    | none => none
  | _ => none
def items6 (env : Env) (rs : List Rv) : Option (Env × List PyData × List Nat) := match rs with
  | [r, q, t] => match lockR env r with
    | some (env', xs, ls) => match lockR env' q with
      | some (env2, ys, ms) => match lockR env2 t with
        | some (env3, zs, ns) => some (env3, triples xs ys zs, ls ++ (ms ++ ns))
        | none => none
      | none => none
    | none => none
  | _ => none
def items0 (env : Env) (rs : List Rv) : Option (Env × List PyData × List Nat) := match rs with
  | [r] => lockR env r
  | _ => none
def items : Nat → Env → List Rv → Option (Env × List PyData × List Nat)
  | 0 => items0
  | 1 => items1
  | 2 => items2
  | 3 => items3
  | 4 => items4
  | 5 => items5
  | 6 => items6
  | _ => fun _ _ => none
def wipeE (env : Env) : List Nat → Env
  | [] => env
  | i :: r => (wipeE env r).set i none
/-- behind a comprehension its own names are as they were -/
def restE (env0 env : Env) : List Nat → Env
  | [] => env
  | i :: r => (restE env0 env r).set i (env0.getD i none)

/-! ### calls -/
def lend (env : Env) : List Rv → List Nat → Option (List W)
  | [], _ => some []
  | .v x :: r, ls => (lend env r ls).map (.d x :: ·)
  | .n xs :: r, ls => (lend env r ls).map (.d (.list xs) :: ·)
  | .r xs :: r, ls => (lend env r ls).map (.r xs :: ·)
  | .f n :: r, ls => (lend env r ls).map (.f n :: ·)
  | .p i :: r, ls => if i ∈ ls then none else match env[i]? with
    | some (some (.l xs)) => (lend env r (i :: ls)).map (.l xs :: ·)
    | some (some (.d x)) => (lend env r ls).map (.d x :: ·)
    | _ => none
def back (env : Env) : List Rv → List (Option W) → Env
  | .p i :: r, o :: os => back (match env[i]? with
      | some (some (.l _)) => env.set i o
      | _ => env) r os
  | _ :: r, _ :: os => back env r os
  | _, _ => env
def noLent (env : Env) : List Rv → Bool
  | [] => true
  | .p i :: r => (match env[i]? with
      | some (some (.l _)) => false
      | _ => true) && noLent env r
  | _ :: r => noLent env r
def callW (s : Sem) (env : Env) (rs : List Rv) : Rs (Env × Rv) :=
  match lend env rs [] with
  | none => .bad
  | some ws => match s ws with
    | .ok (r, os) => if os.length = rs.length then .ok (back env rs os, r) else .bad
    | .ex c a => if noLent env rs then .ex c a else .bad
    | .bad => .bad

/-! ### expressions -/
/-- one turn of a comprehension after another -/
def lcGo (turn : PyData → Env → Rs (Env × Option PyData)) : List PyData → Env → List PyData → Rs (Env × List PyData)
  | [], env, acc => .ok (env, acc)
  | x :: xs, env, acc => match turn x env with
    | .ok (env', some y) => lcGo turn xs env' (acc ++ [y])
    | .ok (env', none) => lcGo turn xs env' acc
    | _ => .bad
def keepAll (env : Env) : List Rv → Option (Env × List PyData)
  | [] => some (env, [])
  | r :: rs => match keep env r with
    | some (env', x) => match keepAll env' rs with
      | some (env2, xs) => some (env2, x :: xs)
      | none => none
    | none => none
/-- the name has a list of its own -/
def isL (env : Env) (i : Nat) : Bool := match env[i]? with
  | some (some (.l _)) => true
  | _ => false
def truR (env : Env) (r : Rv) : Option Bool := (dat env r).bind tru
section
variable (G : Tab)
mutual
def ev : ME → Env → Rs (Env × Rv)
  | .c x, env => .ok (env, .v x)
  | .v i, env => match rdName env i with
    | some r => .ok (env, r)
    | none => .bad
  | .fn n, env => .ok (env, .f n)
  | .tup es, env => (evs es env).bind fun p => match keepAll p.1 p.2 with
    | some (env', xs) => if xs.length ≤ sizeLine then .ok (env', .v (.tuple xs)) else .bad
    | none => .bad
  | .lst es, env => (evs es env).bind fun p => match keepAll p.1 p.2 with
    | some (env', xs) => if xs.length ≤ sizeLine then .ok (env', .n xs) else .bad
    | none => .bad
  | .bin o a b, env => (ev a env).bind fun p => (ev b p.1).bind fun q => match dat q.1 p.2, dat q.1 q.2 with
    | some x, some y => (ofO (opBin o x y)).bind fun r => .ok (q.1, r)
    | _, _ => .bad
  | .neg a, env => (ev a env).bind fun p => match dat p.1 p.2 with
    | some (.int i) => .ok (p.1, .v (.int (-i)))
    | _ => .bad
  | .cmp o a b, env => (ev a env).bind fun p => (ev b p.1).bind fun q => match dat q.1 p.2, dat q.1 q.2 with
    | some x, some y => (ofO (opCmp o x y)).bind fun r => .ok (q.1, .v (.bool r))
    | _, _ => .bad
  | .chn o o' a b c, env => (ev a env).bind fun p => (ev b p.1).bind fun q => match dat q.1 p.2, dat q.1 q.2 with
    | some x, some y => (ofO (opCmp o x y)).bind fun r => if r then (ev c q.1).bind fun t => match dat t.1 q.2, dat t.1 t.2 with
        | some y', some z => (ofO (opCmp o' y' z)).bind fun r' => .ok (t.1, .v (.bool r'))
        | _, _ => .bad
      else .ok (q.1, .v (.bool false))
    | _, _ => .bad
  | .ch3 o o' o'' a b c d, env => (ev a env).bind fun p => (ev b p.1).bind fun q => match dat q.1 p.2, dat q.1 q.2 with
    | some x, some y => (ofO (opCmp o x y)).bind fun r => if r then (ev c q.1).bind fun t => match dat t.1 q.2, dat t.1 t.2 with
        | some y', some z => (ofO (opCmp o' y' z)).bind fun r' => if r' then (ev d t.1).bind fun u => match dat u.1 t.2, dat u.1 u.2 with
            | some z', some w => (ofO (opCmp o'' z' w)).bind fun r'' => .ok (u.1, .v (.bool r''))
            | _, _ => .bad
          else .ok (t.1, .v (.bool false))
        | _, _ => .bad
      else .ok (q.1, .v (.bool false))
    | _, _ => .bad
  | .and a b, env => (ev a env).bind fun p => match truR p.1 p.2 with
    | some true => ev b p.1
    | some false => .ok p
    | none => .bad
  | .or a b, env => (ev a env).bind fun p => match truR p.1 p.2 with
    | some true => .ok p
    | some false => ev b p.1
    | none => .bad
  | .not a, env => (ev a env).bind fun p => match truR p.1 p.2 with
    | some k => .ok (p.1, .v (.bool (!k)))
    | none => .bad
  | .ife t a b, env => (ev t env).bind fun p => match truR p.1 p.2 with
    | some true => ev a p.1
    | some false => ev b p.1
    | none => .bad
  | .sub a i, env => (ev a env).bind fun p => (ev i p.1).bind fun q => match dat q.1 p.2, dat q.1 q.2 with
    | some x, some y => (ofO (opSub x y)).bind fun z => .ok (q.1, .v z)
    | _, _ => .bad
  | .slc a lo hi, env => (ev a env).bind fun p => (evo lo p.1).bind fun q => (evo hi q.1).bind fun t => match dat t.1 p.2 with
    | some x => (ofO (opSlc q.2 t.2 x)).bind fun r => .ok (t.1, r)
    | _ => .bad
  | .rev a, env => (ev a env).bind fun p => match dat p.1 p.2 with
    | some (.list xs) => .ok (p.1, .n xs.reverse)
    | some (.tuple xs) => .ok (p.1, .v (.tuple xs.reverse))
    | _ => .bad
  | .b1 o a, env => (ev a env).bind fun p => match o, p.2 with
    | .list, .r xs => .ok (p.1, .n xs)
    | .len, .r xs => .ok (p.1, .v (.int xs.length))
    | _, _ => match dat p.1 p.2 with
      | some x => (ofO (opB1 o x)).bind fun r => .ok (p.1, r)
      | none => .bad
  | .b2 o a b, env => (ev a env).bind fun p => (ev b p.1).bind fun q => match dat q.1 p.2, dat q.1 q.2 with
    | some x, some y => (ofO (opB2 o x y)).bind fun r => .ok (q.1, .v r)
    | _, _ => .bad
  | .isi a t, env => (ev a env).bind fun p => match dat p.1 p.2 with
    | some x => (ofO (isTy t x)).bind fun b => .ok (p.1, .v (.bool b))
    | none => .bad
  | .lrg a b, env => (ev a env).bind fun p => (ev b p.1).bind fun q => match p.2, q.2 with
    | .v (.int i), .v (.int j) => if -1000000 ≤ i ∧ i ≤ 1000000 ∧ -1000000 ≤ j ∧ j ≤ 1000000 then .ok (q.1, .n (upto i (j - i).toNat)) else .bad
    | _, _ => .bad
  | .app i e, env => if isL env i then (ev e env).bind fun p => match keep p.1 p.2 with
    | some (env', x) => match env'[i]? with
      | some (some (.l xs)) => if xs.length < sizeLine then .ok (env'.set i (some (.l (xs ++ [x]))), .v .none) else .bad
      | _ => .bad
    | none => .bad
    else .bad
  | .ext i e, env => if isL env i then (ev e env).bind fun p => match p.1[i]?, dat p.1 p.2 with
    | some (some (.l xs)), some (.list ys) => if xs.length + ys.length ≤ sizeLine then .ok (p.1.set i (some (.l (xs ++ ys))), .v .none) else .bad
    | _, _ => .bad
    else .bad
  | .idx i e, env => if isL env i then (ev e env).bind fun p => match p.1[i]?, dat p.1 p.2 with
    | some (some (.l xs)), some y => match plc xs y with
      | some j => .ok (p.1, .v (.int (j : Nat)))
      | none => .bad
    | _, _ => .bad
    else .bad
  | .popA i e, env => if isL env i then (ev e env).bind fun p => match p.1[i]?, p.2 with
    | some (some (.l xs)), .v (.int k) => if 0 ≤ k then match xs[k.toNat]? with
        | some y => if k < 9223372036854775808 then .ok (p.1.set i (some (.l (xs.eraseIdx k.toNat))), .v y) else .bad
        | none => .bad
      else .bad
    | _, _ => .bad
    else .bad
  | .call f as, env => match G f with
    | none => .bad
    | some s => (evs as env).bind fun p => callW s p.1 p.2
  | .callv tb i as, env => match env[i]? with
    | some (some (.d (.dict [(.str x, .none)]))) => match tb.lookup x with
      | none => .bad
      | some f => match G f with
        | none => .bad
        | some s => (evs as env).bind fun p => callW s p.1 p.2
    | _ => .bad
  | .lc own tg w its ifs e, env => (evs its env).bind fun p => match items w p.1 p.2 with
    | none => .bad
    | some (env1, xs, ls) => match lcGo (fun x en => match asgT tg x en with
          | none => .bad
          | some en1 => (evt ifs en1).bind fun q => if q.2 then (ev e q.1).bind fun t => match keep t.1 t.2 with
              | some (en2, y) => .ok (wipeE en2 own, some y)
              | none => .bad
            else .ok (wipeE q.1 own, none)) xs (wipeE env1 own) [] with
        | .ok (env2, acc) => if acc.length ≤ sizeLine then match unlock (restE env1 env2 own) ls with
            | some env3 => .ok (env3, .n acc)
            | none => .bad
          else .bad
        | _ => .bad
  | .bad, _ => .bad
def evs : List ME → Env → Rs (Env × List Rv)
  | [], env => .ok (env, [])
  | e :: es, env => (ev e env).bind fun p => (evs es p.1).bind fun q => .ok (q.1, p.2 :: q.2)
/-- the tests of a comprehension -/
def evt : List ME → Env → Rs (Env × Bool)
  | [], env => .ok (env, true)
  | e :: es, env => (ev e env).bind fun p => match truR p.1 p.2 with
    | some true => evt es p.1
    | some false => .ok (p.1, false)
    | none => .bad
def evo : Option ME → Env → Rs (Env × Option Int)
  | none, env => .ok (env, none)
  | some e, env => (ev e env).bind fun p => match p.2 with
    | .v (.int i) => .ok (p.1, some i)
    | _ => .bad
end

/-! ### statements -/
inductive Ou where
  | nx (e : Env) | rt (e : Env) (r : Rv) | bk (e : Env) | ct (e : Env) | ex (c : Nat) (a : PyData) | bad
def Ou.of {α : Type} : Rs α → (α → Ou) → Ou
  | .ok a, g => g a
  | .ex c a, _ => .ex c a
  | .bad, _ => .bad
def forGo (turn : PyData → Env → Ou) : List PyData → Env → Ou
  | [], env => .nx env
  | x :: xs, env => match turn x env with
    | .nx e => forGo turn xs e
    | .ct e => forGo turn xs e
    | .bk e => .bk e
    | o => o
def whlGo (test : Env → Rs (Env × Bool)) (body : Env → Ou) : Nat → Env → Ou
  | 0, _ => .bad
  | n + 1, env => match test env with
    | .ok (e, true) => match body e with
      | .nx e' => whlGo test body n e'
      | .ct e' => whlGo test body n e'
      | .bk e' => .nx e'
      | o => o
    | .ok (e, false) => .nx e
    | .ex c a => .ex c a
    | .bad => .bad
/-- the lists that were walked are the names' own again -/
def opened (ls : List Nat) : Ou → Ou
  | .nx e => match unlock e ls with
    | some e' => .nx e'
    | none => .bad
  | .bk e => match unlock e ls with
    | some e' => .nx e'
    | none => .bad
  | .rt e r => match unlock e ls with
    | some e' => .rt e' r
    | none => .bad
  | .ct _ => .bad
  | .ex c a => .ex c a
  | .bad => .bad
/-- names' own lists that are stored anew are kept -/
def settle (env : Env) : List Rv → Option (Env × List Rv)
  | [] => some (env, [])
  | .p i :: rs => match keep env (.p i) with
    | some (e1, x) => match settle e1 rs with
      | some (e2, qs) => some (e2, .v x :: qs)
      | none => none
    | none => none
  | r :: rs => match settle env rs with
    | some (e2, qs) => some (e2, r :: qs)
    | none => none
def bindAll (env : Env) : List Nat → List Rv → Option Env
  | [], [] => some env
  | i :: is, r :: rs => match bindN env i r with
    | some e => bindAll e is rs
    | none => none
  | _, _ => none
/-- places of names' own lists are stored, one after another -/
def setAll (evl : ME → Env → Rs (Env × Rv)) : List (Nat × ME) → List PyData → Env → Option Env
  | [], [], env => some env
  | (i, ix) :: ts, y :: ys, env => if isL env i then match evl ix env with
    | .ok (e1, .v (.int k)) => match e1[i]? with
      | some (some (.l xs)) => match L2.ixN xs.length k with
        | some j => setAll evl ts ys (e1.set i (some (.l (xs.set j y))))
        | none => none
      | _ => none
    | _ => none
    else none
  | _, _, _ => none
/-- names and places are stored, one after another -/
def setMix (evl : ME → Env → Rs (Env × Rv)) : List (Nat × Option ME) → List PyData → Env → Option Env
  | [], [], env => some env
  | (i, none) :: ts, y :: ys, env => if i < env.length then setMix evl ts ys (env.set i (some (.d y))) else none
  | (i, some ix) :: ts, y :: ys, env => if isL env i then match evl ix env with
    | .ok (e1, .v (.int k)) => match e1[i]? with
      | some (some (.l xs)) => match L2.ixN xs.length k with
        | some j => setMix evl ts ys (e1.set i (some (.l (xs.set j y))))
        | none => none
      | _ => none
    | _ => none
    else none
  | _, _, _ => none
/-- name op= value -/
def augT : BOp → PyData → PyData → Option PyData
  | .add, .int i, .int j => some (.int (i + j))
  | .sub, .int i, .int j => some (.int (i - j))
  | .mul, .int i, .int j => if sml i || sml j then some (.int (i * j)) else none
  | .fdiv, .int i, .int j => if 0 < j ∧ j < 1073741824 then some (.int (i / j)) else none
  | .mod, .int i, .int j => if 0 < j then some (.int (i % j)) else none
  | .add, .str a, .str b => if a.length + b.length ≤ sizeLine then some (.str (a ++ b)) else none
  | _, _, _ => none
def turns : Nat := 1000000
/-- the word for an own error by its class and its field -/
def wordD : Nat → PyData → Option Str
  | 0, .int i => if i.natAbs.log2 < 1900 then some (Str.ofString "text " ++ Str.ofString (toString i)) else none
  | 1, .str s => if s.length ≤ 1000 then some (Str.ofString "deck " ++ s) else none
  | 2, .str s => if s.length ≤ 1000 then some (Str.ofString "argument " ++ s) else none
  | 3, .str s => if s.length ≤ 1000 then some (Str.ofString "paper " ++ s) else none
  | 4, .str s => if s.length ≤ 1000 then some (Str.ofString "many " ++ s) else none
  | _, _ => none
/-- no name has a list of its own -/
def noOwn (env : Env) : Bool := env.all fun w => match w with
  | some (.l _) => false
  | some (.k _) => false
  | _ => true
/-- a try whose errors are told by their word -/
def tryO (env : Env) : Ou → Ou
  | .ex c a => match wordD c a with
    | some x => .rt env (.v (.str x))
    | none => .bad
  | .rt e r => .rt e r
  | .nx e => .nx e
  | _ => .bad
mutual
def exs1 : MS → Env → Ou
  | .asg tg e, env => .of (ev G e env) fun p => match p.2 with
    | .v x => match asgT tg x p.1 with
      | some env' => .nx env'
      | none => .bad
    | _ => .bad
  | .par is es, env => .of (evs G es env) fun p => match settle p.1 p.2 with
    | some (e1, qs) => match bindAll e1 is qs with
      | some env' => .nx env'
      | none => .bad
    | none => .bad
  | .sets ts es, env => .of (evs G es env) fun p => match keepAll p.1 p.2 with
    | some (env1, ys) => match setAll (fun e en => ev G e en) ts ys env1 with
      | some env' => .nx env'
      | none => .bad
    | none => .bad
  | .mix ts es, env => .of (evs G es env) fun p => match keepAll p.1 p.2 with
    | some (env1, ys) => match setMix (fun e en => ev G e en) ts ys env1 with
      | some env' => .nx env'
      | none => .bad
    | none => .bad
  | .unp ts e, env => .of (ev G e env) fun p => match p.2 with
    | .n xs => match asgTs ts xs p.1 with
      | some env' => .nx env'
      | none => .bad
    | _ => .bad
  | .aug i o e, env => match rdName env i with
    | some (.v x) => .of (ev G e env) fun p => match dat p.1 p.2 with
      | some y => match augT o x y with
        | some z => if i < p.1.length then .nx (p.1.set i (some (.d z))) else .bad
        | none => .bad
      | none => .bad
    | _ => .bad
  | .augs i ix o e, env => if isL env i then .of (ev G ix env) fun p => match p.2 with
    | .v (.int k) => match p.1[i]? with
      | some (some (.l xs)) => if 0 ≤ k then match xs[k.toNat]? with
        | some x => .of (ev G e p.1) fun q => match dat q.1 q.2 with
          | some y => match augT o x y with
            | some z => match q.1[i]? with
              | some (some (.l ys)) => match L2.ixN ys.length k with
                | some j => .nx (q.1.set i (some (.l (ys.set j z))))
                | none => .bad
              | _ => .bad
            | none => .bad
          | none => .bad
        | none => .bad
        else .bad
      | _ => .bad
    | _ => .bad
    else .bad
  | .exp e, env => .of (ev G e env) fun p => .nx p.1
  | .ite t a b, env => .of (ev G t env) fun p => match truR p.1 p.2 with
    | some true => exs a p.1
    | some false => exs b p.1
    | none => .bad
  | .ret e, env => .of (ev G e env) fun p => .rt p.1 p.2
  | .retN, env => .rt env (.v .none)
  | .for_ tg w its body, env => .of (evs G its env) fun p => match items w p.1 p.2 with
    | none => .bad
    | some (env1, xs, ls) => opened ls (forGo (fun x e => match asgT tg x e with
        | none => .bad
        | some e1 => exs body e1) xs env1)
  | .whl t body, env => whlGo (fun e => (ev G t e).bind fun p => match truR p.1 p.2 with
      | some k => .ok (p.1, k)
      | none => .bad) (fun e => exs body e) turns env
  | .brk, env => .bk env
  | .cnt, env => .ct env
  | .pas, env => .nx env
  | .rai c e, env => .of (ev G e env) fun p => match p.2 with
    | .v x => .ex c x
    | _ => .bad
  | .tryw b, env => if noOwn env then tryO env (exs b env) else .bad
  | .bad, _ => .bad
def exs : List MS → Env → Ou
  | [], env => .nx env
  | s :: r, env => match exs1 s env with
    | .nx e => exs r e
    | o => o
end

/-! ### defs -/
mutual
/-- the names that a statement stores -/
def sto : MS → List Nat
  | .asg t _ => stoT t
  | .par is _ => is
  | .mix ts _ => ts.filterMap fun t => match t.2 with
    | none => some t.1
    | some _ => none
  | .unp ts _ => stoTs ts
  | .aug i _ _ => [i]
  | .ite _ a b => stos a ++ stos b
  | .for_ t _ _ b => stoT t ++ stos b
  | .whl _ b => stos b
  | .tryw b => stos b
  | _ => []
def stos : List MS → List Nat
  | [] => []
  | s :: r => sto s ++ stos r
def stoT : Tgt → List Nat
  | .n i => [i]
  | .t ts => stoTs ts
def stoTs : List Tgt → List Nat
  | [] => []
  | t :: r => stoT t ++ stoTs r
end
/-- an owned list at a parameter that the body stores anew is not looked at -/
def lentOk (st : List Nat) : Nat → List W → Bool
  | _, [] => true
  | i, .l _ :: r => !st.contains i && lentOk st (i + 1) r
  | i, _ :: r => lentOk st (i + 1) r
/-- what is handed back -/
def giveR (env : Env) (ar : Nat) : Rv → Option (Env × Rv)
  | .p i => match env[i]? with
    | some (some (.l xs)) => if i < ar then some (env.set i (some (.d (.list xs))), .v (.list xs)) else some (env.set i none, .n xs)
    | some (some (.d x)) => some (env, .v x)
    | _ => none
  | .r _ => none
  | r => some (env, r)
/-- a def by its body: ar parameters, many names -/
def runDef (ar many : Nat) (body : List MS) : Sem := fun ws =>
  if ws.length = ar ∧ lentOk (stos body) 0 ws = true then
    match exs G body (ws.map some ++ List.replicate (many - ar) none) with
    | .nx e => .ok (.v .none, e.take ar)
    | .rt e r => match giveR e ar r with
      | some (e', r') => .ok (r', e'.take ar)
      | none => .bad
    | .ex c a => .ex c a
    | _ => .bad
  else .bad
end
end Ev

/-! Ev, part C: what it means that names and heap hold what Ev says; steps. -/
namespace Ev
open PySem L2 PyProof.Rows

variable {K : PySem.W.Frag} {fa : Nat → V → Prop}

/-! ### data that nobody changes: its lists stand outside Z -/
mutual
inductive Fz (K : PySem.W.Frag) (H : Hp) (Z : Addr → Prop) : V → PyData → Prop
  | non : Fz K H Z V.non .none
  | bl (b : Bool) : Fz K H Z (V.bl b) (.bool b)
  | int (i : Int) : Fz K H Z (V.int i) (.int i)
  | str (x : Str) : Fz K H Z (V.str x) (.str x)
  | lst {a : Addr} {xs : List V} {ds : List PyData} : H a = some (HO.lst xs) → ¬ Z a → FzAll K H Z xs ds → Fz K H Z (V.ref a) (.list ds)
  | tup {a : Addr} {xs : List V} {ds : List PyData} : SqT K H a xs → FzAll K H Z xs ds → Fz K H Z (V.ref a) (.tuple ds)
  | fn {f : Addr} {x : Str} : PySem.W.nsIn K mainGlobals x = some (some (.ref f)) → Fz K H Z (V.ref f) (.dict [(.str x, .none)])
inductive FzAll (K : PySem.W.Frag) (H : Hp) (Z : Addr → Prop) : List V → List PyData → Prop
  | nil : FzAll K H Z [] []
  | cons {v : V} {vs : List V} {d : PyData} {ds : List PyData} : Fz K H Z v d → FzAll K H Z vs ds → FzAll K H Z (v :: vs) (d :: ds)
end

/-- Z holds lists alone -/
def Zl (Z : Addr → Prop) (H : Hp) : Prop := ∀ a, Z a → ∃ vs, H a = some (HO.lst vs)
/-- a step: outside Mu all stands; Z grows by new ones, loses of Mu alone -/
structure Stp (Mu Z : Addr → Prop) (H : Hp) (Mu' Z' : Addr → Prop) (H' : Hp) : Prop where
  keep : ∀ a o, H a = some o → ¬ Mu a → H' a = some o
  dom : ∀ a o, H a = some o → ∃ o', H' a = some o'
  zold : ∀ a, Z a → ¬ Mu a → Z' a
  znew : ∀ a, Z' a → Z a ∨ H a = none
  mnew : ∀ a, Mu' a → Mu a ∨ H a = none
  muz : ∀ a, Mu a → Z a
  zl : Zl Z H

theorem Stp.refl {Mu Z : Addr → Prop} {H : Hp} (m : ∀ a, Mu a → Z a) (z : Zl Z H) : Stp Mu Z H Mu Z H :=
  ⟨fun _ _ h _ => h, fun _ o h => ⟨o, h⟩, fun _ h _ => h, fun _ h => .inl h, fun _ h => .inl h, m, z⟩
theorem Stp.trans {Mu Z Mu1 Z1 Mu2 Z2 : Addr → Prop} {H H1 H2 : Hp} (s : Stp Mu Z H Mu1 Z1 H1) (t : Stp Mu1 Z1 H1 Mu2 Z2 H2) : Stp Mu Z H Mu2 Z2 H2 := by
  have nm : ∀ a o, H a = some o → ¬ Mu a → ¬ Mu1 a := fun a o h n q => by
    rcases s.mnew a q with q | q
    · exact n q
    · rw [h] at q; cases q
  have dn : ∀ a, H1 a = none → Mu a ∨ H a = none := fun a h => by
    cases q : H a with
    | none => exact .inr rfl
    | some o =>
      obtain ⟨o', q'⟩ := s.dom a o q
      rw [h] at q'; cases q'
  refine ⟨fun a o h n => t.keep a o (s.keep a o h n) (nm a o h n), fun a o h => (let ⟨o1, h1⟩ := s.dom a o h; t.dom a o1 h1), fun a h n => ?_, fun a h => ?_, fun a h => ?_, s.muz, s.zl⟩
  · obtain ⟨vs, q⟩ := s.zl a h
    exact t.zold a (s.zold a h n) (nm a _ q n)
  · rcases t.znew a h with q | q
    · exact s.znew a q
    · rcases dn a q with q | q
      · exact .inl (s.muz a q)
      · exact .inr q
  · rcases t.mnew a h with q | q
    · exact s.mnew a q
    · exact dn a q

theorem SqT.step {Mu Z Mu' Z' : Addr → Prop} {H H' : Hp} {a : Addr} {xs : List V} (s : Stp Mu Z H Mu' Z' H') (h : SqT K H a xs) : SqT K H' a xs := by
  have nl : ∀ b u, H b = some u → (∀ vs, u ≠ .lst vs) → H' b = some u := fun b u q n => s.keep b u q fun m => by
    obtain ⟨vs, e⟩ := s.zl b (s.muz b m)
    rw [q] at e
    exact n vs (Option.some.inj e)
  rcases h with (h | ⟨o, h⟩) | h
  · exact .inl (.inl (nl a _ h fun vs e => by cases e))
  · exact .inl (.inr ⟨o, nl a _ h fun vs e => by cases e⟩)
  · exact .inr h
mutual
theorem Fz.step {Mu Z Mu' Z' : Addr → Prop} {H H' : Hp} (s : Stp Mu Z H Mu' Z' H') : ∀ {v : V} {d : PyData}, Fz K H Z v d → Fz K H' Z' v d
  | _, _, .non => .non
  | _, _, .bl b => .bl b
  | _, _, .int i => .int i
  | _, _, .str x => .str x
  | _, _, .lst h n r => .lst (s.keep _ _ h fun m => n (s.muz _ m)) (fun z => by
      rcases s.znew _ z with q | q
      · exact n q
      · rw [h] at q; cases q) (FzAll.step s r)
  | _, _, .tup h r => .tup (SqT.step s h) (FzAll.step s r)
  | _, _, .fn h => .fn h
theorem FzAll.step {Mu Z Mu' Z' : Addr → Prop} {H H' : Hp} (s : Stp Mu Z H Mu' Z' H') : ∀ {vs : List V} {ds : List PyData}, FzAll K H Z vs ds → FzAll K H' Z' vs ds
  | _, _, .nil => .nil
  | _, _, .cons h r => .cons (Fz.step s h) (FzAll.step s r)
end
mutual
theorem Fz.dp {H : Hp} {Z : Addr → Prop} : ∀ {v : V} {d : PyData}, Fz K H Z v d → d.hasDict = false → Dp K H v d
  | _, _, .non, _ => .non
  | _, _, .bl b, _ => .bl b
  | _, _, .int i, _ => .int i
  | _, _, .str x, _ => .str x
  | _, _, .lst h _ r, n => .lst (.inl (.inl h)) (FzAll.dp r (by simpa only [PyData.hasDict] using n))
  | _, _, .tup h r, n => .tup h (FzAll.dp r (by simpa only [PyData.hasDict] using n))
  | _, _, .fn _, n => by simp [PyData.hasDict] at n
theorem FzAll.dp {H : Hp} {Z : Addr → Prop} : ∀ {vs : List V} {ds : List PyData}, FzAll K H Z vs ds → PyData.hasDictAll ds = false → DpAll K H vs ds
  | _, _, .nil, _ => .nil
  | _, _, .cons h r, n => by
    simp only [PyData.hasDictAll, Bool.or_eq_false_iff] at n
    exact .cons (Fz.dp h n.1) (FzAll.dp r n.2)
end
theorem nodict {d : PyData} (h : SeqAt.shaped d = true) : d.hasDict = false := PyData.hasDict_of_canLay d (SeqAt.canLay_of_shaped h)
section
variable {H : Hp} {Z : Addr → Prop}
theorem FzAll.length : ∀ {vs : List V} {ds : List PyData}, FzAll K H Z vs ds → vs.length = ds.length
  | _, _, .nil => rfl
  | _, _, .cons _ r => by rw [List.length_cons, List.length_cons, FzAll.length r]
theorem FzAll.append : ∀ {vs us : List V} {ds es : List PyData}, FzAll K H Z vs ds → FzAll K H Z us es → FzAll K H Z (vs ++ us) (ds ++ es)
  | _, _, _, _, .nil, q => q
  | _, _, _, _, .cons h r, q => .cons h (FzAll.append r q)
theorem FzAll.get : ∀ {vs : List V} {ds : List PyData} {i : Nat} {d : PyData}, FzAll K H Z vs ds → ds[i]? = some d → ∃ v, vs[i]? = some v ∧ Fz K H Z v d
  | _, _, _, _, .nil, e => by simp at e
  | _, _, 0, _, .cons h _, e => by simp at e; subst e; exact ⟨_, rfl, h⟩
  | _, _, i + 1, d, .cons _ r, e => by
    obtain ⟨v, h1, h2⟩ := FzAll.get (i := i) (d := d) r (by simpa using e)
    exact ⟨v, by simpa using h1, h2⟩
theorem FzAll.getV : ∀ {vs : List V} {ds : List PyData} {i : Nat} {v : V}, FzAll K H Z vs ds → vs[i]? = some v → ∃ d, ds[i]? = some d ∧ Fz K H Z v d
  | _, _, _, _, .nil, e => by simp at e
  | _, _, 0, _, .cons h _, e => by simp at e; subst e; exact ⟨_, rfl, h⟩
  | _, _, i + 1, d, .cons _ r, e => by
    obtain ⟨v, h1, h2⟩ := FzAll.getV (i := i) (v := d) r (by simpa using e)
    exact ⟨v, by simpa using h1, h2⟩
theorem FzAll.set {v : V} {d : PyData} (h : Fz K H Z v d) : ∀ {vs : List V} {ds : List PyData} (i : Nat), FzAll K H Z vs ds → FzAll K H Z (vs.set i v) (ds.set i d)
  | _, _, _, .nil => .nil
  | _, _, 0, .cons _ r => .cons h r
  | _, _, i + 1, .cons q r => .cons q (FzAll.set h i r)
theorem FzAll.take : ∀ {vs : List V} {ds : List PyData} (n : Nat), FzAll K H Z vs ds → FzAll K H Z (vs.take n) (ds.take n)
  | _, _, 0, _ => .nil
  | _, _, _ + 1, .nil => .nil
  | _, _, n + 1, .cons q r => .cons q (FzAll.take n r)
theorem FzAll.drop : ∀ {vs : List V} {ds : List PyData} (n : Nat), FzAll K H Z vs ds → FzAll K H Z (vs.drop n) (ds.drop n)
  | _, _, 0, r => r
  | _, _, _ + 1, .nil => .nil
  | _, _, n + 1, .cons _ r => FzAll.drop n r
theorem FzAll.erase : ∀ {vs : List V} {ds : List PyData} (n : Nat), FzAll K H Z vs ds → FzAll K H Z (vs.eraseIdx n) (ds.eraseIdx n)
  | _, _, _, .nil => .nil
  | _, _, 0, .cons _ r => r
  | _, _, n + 1, .cons q r => .cons q (FzAll.erase n r)
theorem FzAll.rev {vs : List V} {ds : List PyData} (h : FzAll K H Z vs ds) : FzAll K H Z vs.reverse ds.reverse := by
  induction vs generalizing ds with
  | nil => cases h; exact .nil
  | cons v vs ih =>
    cases h with
    | cons q r =>
      rw [List.reverse_cons, List.reverse_cons]
      exact (ih r).append (.cons q .nil)
theorem FzAll.cut {vs : List V} {ds : List PyData} {lo hi : Option Int} (h : FzAll K H Z vs ds) : FzAll K H Z (cutV vs lo hi) (Ev.cut ds lo hi) := by
  unfold cutV Ev.cut
  rw [h.length]
  exact (h.drop _).take _
theorem FzAll.rep {vs : List V} {ds : List PyData} (h : FzAll K H Z vs ds) : ∀ n : Nat, FzAll K H Z (List.replicate n vs).flatten (Ev.rep n ds)
  | 0 => .nil
  | n + 1 => by
    unfold Ev.rep
    rw [List.replicate_succ, List.replicate_succ, List.flatten_cons, List.flatten_cons]
    exact h.append (FzAll.rep h n)
theorem FzAll.ints : ∀ {vs : List V} {ds : List PyData} {is : List Int}, FzAll K H Z vs ds → asInts ds = some is → vs = is.map V.int
  | _, _, _, .nil, e => by cases e; rfl
  | _, _, is, .cons (d := d) h r, e => by
    cases d <;> try (simp [asInts] at e; done)
    rename_i i
    cases h
    simp only [asInts, Option.map_eq_some_iff] at e
    obtain ⟨js, e1, rfl⟩ := e
    rw [FzAll.ints r e1]
    rfl
theorem FzAll.ofInts : ∀ is : List Int, FzAll K H Z (is.map V.int) (is.map PyData.int)
  | [] => .nil
  | i :: r => .cons (.int i) (FzAll.ofInts r)
end

/-- data that is read now: as Fz, but a list at the top may be a name's own -/
inductive Ds (K : PySem.W.Frag) (H : Hp) (Z : Addr → Prop) : V → PyData → Prop
  | of {v : V} {d : PyData} : Fz K H Z v d → Ds K H Z v d
  | own {a : Addr} {xs : List V} {ds : List PyData} : H a = some (HO.lst xs) → FzAll K H Z xs ds → Ds K H Z (V.ref a) (.list ds)
theorem Ds.dp {H : Hp} {Z : Addr → Prop} {v : V} {d : PyData} (h : Ds K H Z v d) (n : d.hasDict = false) : Dp K H v d := by
  cases h with
  | of h => exact h.dp n
  | own h r => exact .lst (.inl (.inl h)) (r.dp (by simpa only [PyData.hasDict] using n))
theorem Ds.list {H : Hp} {Z : Addr → Prop} {v : V} {ds : List PyData} (h : Ds K H Z v (.list ds)) : ∃ a vs, v = V.ref a ∧ H a = some (.lst vs) ∧ FzAll K H Z vs ds := by
  cases h with
  | of h => cases h with | lst h _ r => exact ⟨_, _, rfl, h, r⟩
  | own h r => exact ⟨_, _, rfl, h, r⟩
theorem Ds.tuple {H : Hp} {Z : Addr → Prop} {v : V} {ds : List PyData} (h : Ds K H Z v (.tuple ds)) : ∃ a vs, v = V.ref a ∧ SqT K H a vs ∧ FzAll K H Z vs ds := by
  cases h with
  | of h => cases h with | tup h r => exact ⟨_, _, rfl, h, r⟩
theorem Ds.int {H : Hp} {Z : Addr → Prop} {v : V} {i : Int} (h : Ds K H Z v (.int i)) : v = .int i := by
  cases h with
  | of h => cases h; rfl
theorem Ds.str {H : Hp} {Z : Addr → Prop} {v : V} {i : Str} (h : Ds K H Z v (.str i)) : v = .str i := by
  cases h with
  | of h => cases h; rfl
theorem Ds.bool {H : Hp} {Z : Addr → Prop} {v : V} {i : Bool} (h : Ds K H Z v (.bool i)) : v = .bl i := by
  cases h with
  | of h => cases h; rfl
theorem Ds.none_ {H : Hp} {Z : Addr → Prop} {v : V} (h : Ds K H Z v .none) : v = .non := by
  cases h with
  | of h => cases h; rfl
theorem Ds.dict {H : Hp} {Z : Addr → Prop} {v : V} {kvs : List (PyData × PyData)} (h : Ds K H Z v (.dict kvs)) : ∃ f, v = V.ref f := by
  cases h with
  | of h => cases h with | fn h => exact ⟨_, rfl⟩

/-! ### what a name holds, what an expression gave -/
/-- a list that is known and only read -/
def RdL (K : PySem.W.Frag) (H : Hp) (a : Addr) (vs : List V) : Prop := (∃ o, H a = some (HO.frz o (HO.lst vs))) ∨
  ∃ (o : Obj) (its : Array Value) (n : Nat), K.lookup a = some o ∧ o.cls = .type "list" ∧ o.dict = none ∧ o.data = .seq its n ∧ its.size ≤ sizeLine ∧ Vals vs its.toList
def Wok (K : PySem.W.Frag) (fa : Nat → V → Prop) (H : Hp) (Z : Addr → Prop) : W → V → Prop
  | .d x, v => Fz K H Z v x
  | .l xs, v => ∃ a vs, v = V.ref a ∧ H a = some (.lst vs) ∧ Z a ∧ FzAll K H Z vs xs
  | .k xs, v => ∃ a vs, v = V.ref a ∧ H a = some (.lst vs) ∧ Z a ∧ FzAll K H Z vs xs
  | .r xs, v => ∃ a vs, v = V.ref a ∧ RdL K H a vs ∧ FzAll K H Z vs xs
  | .f n, v => fa n v
/-- the names whose list is theirs -/
def ownd (env : Env) (i : Nat) : Prop := ∃ xs, env[i]? = some (some (W.l xs)) ∨ env[i]? = some (some (W.k xs))
/-- the addresses that may be changed -/
def Own (σ : L2.St) (env : Env) (a : Addr) : Prop := ∃ (i : Nat) (xs : List PyData), env[i]? = some (some (W.l xs)) ∧ σ[i]? = some (some (V.ref a))
structure Eok (K : PySem.W.Frag) (fa : Nat → V → Prop) (H : Hp) (Z : Addr → Prop) (σ : L2.St) (env : Env) : Prop where
  nm : ∀ (i : Nat) (w : W), env[i]? = some (some w) → ∃ v, σ[i]? = some (some v) ∧ Wok K fa H Z w v
  apart : ∀ (i j : Nat) (a : Addr), ownd env i → ownd env j → σ[i]? = some (some (V.ref a)) → σ[j]? = some (some (V.ref a)) → i = j
  zl : Zl Z H
  len : env.length = σ.length
theorem Eok.muz {H : Hp} {Z : Addr → Prop} {σ : L2.St} {env : Env} (h : Eok K fa H Z σ env) : ∀ a, Own σ env a → Z a := fun a ⟨i, xs, e1, e2⟩ => by
  obtain ⟨v, e3, b, vs, rfl, _, hz, _⟩ := h.nm i _ e1
  rw [e2] at e3
  cases e3
  exact hz
theorem RdL.sq {H : Hp} {a : Addr} {vs : List V} (h : RdL K H a vs) : SqL K H a vs := by
  rcases h with h | h
  · exact .inl (.inr h)
  · exact .inr h
theorem RdL.step {Mu Z Mu' Z' : Addr → Prop} {H H' : Hp} {a : Addr} {vs : List V} (s : Stp Mu Z H Mu' Z' H') (h : RdL K H a vs) : RdL K H' a vs := by
  rcases h with ⟨o, h⟩ | h
  · refine .inl ⟨o, s.keep a _ h fun m => ?_⟩
    obtain ⟨ys, e⟩ := s.zl a (s.muz a m)
    rw [h] at e
    cases e
  · exact .inr h
end Ev

/-! Ev, part D: the readings of expressions. -/
namespace Ev
open PySem L2 PyProof.Rows

variable {K : PySem.W.Frag} {fa : Nat → V → Prop}
def RvOk (K : PySem.W.Frag) (fa : Nat → V → Prop) (H0 H : Hp) (Z : Addr → Prop) (σ : L2.St) : Rv → V → Prop
  | .v x, v => Fz K H Z v x
  | .n xs, v => ∃ a vs, v = V.ref a ∧ H a = some (HO.lst vs) ∧ Z a ∧ H0 a = none ∧ FzAll K H Z vs xs
  | .p i, v => σ[i]? = some (some v)
  | .r xs, v => ∃ a vs, v = V.ref a ∧ RdL K H a vs ∧ FzAll K H Z vs xs
  | .f n, v => fa n v

/-- between: from H0 (names env0, owned Z0) to H -/
structure Mid (K : PySem.W.Frag) (fa : Nat → V → Prop) (σ : L2.St) (H0 : Hp) (Z0 : Addr → Prop) (env0 : Env) (H : Hp) (Z : Addr → Prop) (env : Env) : Prop where
  st : Stp (Own σ env0) Z0 H0 (Own σ env) Z H
  mo : ∀ a, Own σ env a → Own σ env0 a
  mw : ∀ i, ownd env i → ownd env0 i
  sl : ∀ (i : Nat) (a : Addr), ownd env i → σ[i]? = some (some (V.ref a)) → ∃ vs, H0 a = some (HO.lst vs)
  kk : ∀ (i : Nat) (xs : List PyData), env[i]? = some (some (W.k xs)) → env0[i]? = some (some (W.k xs))
  ok : Eok K fa H Z σ env
section
variable {σ : L2.St} {H0 H H1 H2 : Hp} {Z0 Z Z1 Z2 : Addr → Prop} {env0 env env1 env2 : Env} {v : V} {r : Rv} {x : PyData}
theorem Eok.slot (h : Eok K fa H Z σ env) {i : Nat} {a : Addr} (o : ownd env i) (e : σ[i]? = some (some (V.ref a))) : Z a ∧ ∃ vs, H a = some (HO.lst vs) := by
  obtain ⟨xs, o | o⟩ := o
  · obtain ⟨v, e1, b, vs, rfl, h1, h2, _⟩ := h.nm i _ o
    rw [e] at e1; cases e1; exact ⟨h2, vs, h1⟩
  · obtain ⟨v, e1, b, vs, rfl, h1, h2, _⟩ := h.nm i _ o
    rw [e] at e1; cases e1; exact ⟨h2, vs, h1⟩
theorem Mid.refl (h : Eok K fa H Z σ env) : Mid K fa σ H Z env H Z env := ⟨.refl h.muz h.zl, fun _ h => h, fun _ h => h, fun _ _ o e => (h.slot o e).2, fun _ _ h => h, h⟩
theorem Mid.trans (a : Mid K fa σ H0 Z0 env0 H1 Z1 env1) (b : Mid K fa σ H1 Z1 env1 H2 Z2 env2) : Mid K fa σ H0 Z0 env0 H2 Z2 env2 :=
  ⟨a.st.trans b.st, fun x h => a.mo x (b.mo x h), fun i h => a.mw i (b.mw i h), fun i x h e => a.sl i x (b.mw i h) e, fun i xs h => a.kk i xs (b.kk i xs h), b.ok⟩
theorem Mid.old (m : Mid K fa σ H0 Z0 env0 H Z env) {a : Addr} (h : Own σ env a) : ∃ vs, H0 a = some (HO.lst vs) := m.st.zl a (m.st.muz a (m.mo a h))
theorem Mid.fresh (m : Mid K fa σ H0 Z0 env0 H Z env) {a : Addr} (h : H a = none) : H0 a = none := by
  cases q : H0 a with
  | none => rfl
  | some o =>
    obtain ⟨o', q'⟩ := m.st.dom a o q
    rw [h] at q'; cases q'
/-- what was given stays so over a further step -/
theorem RvOk.on (m : Mid K fa σ H0 Z0 env0 H Z env) (n : Mid K fa σ H Z env H1 Z1 env1) (h : RvOk K fa H0 H Z σ r v) : RvOk K fa H0 H1 Z1 σ r v := by
  cases r with
  | v x => exact Fz.step n.st h
  | n xs =>
    obtain ⟨a, vs, rfl, h1, h2, h3, h4⟩ := h
    have na : ¬ Own σ env a := fun q => by
      obtain ⟨us, e⟩ := m.old q
      rw [h3] at e; cases e
    exact ⟨a, vs, rfl, n.st.keep a _ h1 na, n.st.zold a h2 na, h3, FzAll.step n.st h4⟩
  | p i => exact h
  | r xs =>
    obtain ⟨a, vs, rfl, h1, h4⟩ := h
    exact ⟨a, vs, rfl, RdL.step n.st h1, FzAll.step n.st h4⟩
  | f k => exact h
theorem RvOk.back (m : Mid K fa σ H0 Z0 env0 H Z env) (h : RvOk K fa H H1 Z1 σ r v) : RvOk K fa H0 H1 Z1 σ r v := by
  cases r with
  | v x => exact h
  | n xs =>
    obtain ⟨a, vs, rfl, h1, h2, h3, h4⟩ := h
    exact ⟨a, vs, rfl, h1, h2, m.fresh h3, h4⟩
  | p i => exact h
  | r xs => exact h
  | f k => exact h
theorem RvOk.ds (e : Eok K fa H Z σ env) (h : RvOk K fa H0 H Z σ r v) (d : dat env r = some x) : Ds K H Z v x := by
  cases r with
  | v y => cases d; exact .of h
  | n xs =>
    cases d
    obtain ⟨a, vs, rfl, h1, _, _, h4⟩ := h
    exact .own h1 h4
  | p i =>
    unfold dat at d
    dsimp only at d
    split at d
    · rename_i w hw
      obtain ⟨v', e1, e2⟩ := e.nm i w hw
      have h : σ[i]? = some (some v) := h
      rw [h] at e1
      cases e1
      cases w with
      | d y => cases d; exact .of e2
      | l xs =>
        cases d
        obtain ⟨a, vs, rfl, h1, _, h4⟩ := e2
        exact .own h1 h4
      | k xs =>
        cases d
        obtain ⟨a, vs, rfl, h1, _, h4⟩ := e2
        exact .own h1 h4
      | r xs => cases d
      | f k => cases d
    · cases d
  | r xs => cases d
  | f k => cases d

/-! ### less is owned -/
def less (Z : Addr → Prop) (a : Addr) : Addr → Prop := fun b => Z b ∧ b ≠ a
mutual
theorem Fz.sub {H : Hp} {Z Z' : Addr → Prop} (s : ∀ a, Z' a → Z a) : ∀ {v : V} {d : PyData}, Fz K H Z v d → Fz K H Z' v d
  | _, _, .non => .non
  | _, _, .bl b => .bl b
  | _, _, .int i => .int i
  | _, _, .str x => .str x
  | _, _, .lst h n r => .lst h (fun z => n (s _ z)) (FzAll.sub s r)
  | _, _, .tup h r => .tup h (FzAll.sub s r)
  | _, _, .fn h => .fn h
theorem FzAll.sub {H : Hp} {Z Z' : Addr → Prop} (s : ∀ a, Z' a → Z a) : ∀ {vs : List V} {ds : List PyData}, FzAll K H Z vs ds → FzAll K H Z' vs ds
  | _, _, .nil => .nil
  | _, _, .cons h r => .cons (Fz.sub s h) (FzAll.sub s r)
end
theorem Wok.sub {a : Addr} {w : W} (h : Wok K fa H Z w v) (n : (∃ xs, w = .l xs ∨ w = .k xs) → v ≠ V.ref a) : Wok K fa H (less Z a) w v := by
  have s : ∀ b, less Z a b → Z b := fun b q => q.1
  cases w with
  | d x => exact Fz.sub s h
  | l xs =>
    obtain ⟨b, vs, rfl, h1, h2, h3⟩ := h
    exact ⟨b, vs, rfl, h1, ⟨h2, fun e => n ⟨xs, .inl rfl⟩ (by rw [e])⟩, FzAll.sub s h3⟩
  | k xs =>
    obtain ⟨b, vs, rfl, h1, h2, h3⟩ := h
    exact ⟨b, vs, rfl, h1, ⟨h2, fun e => n ⟨xs, .inr rfl⟩ (by rw [e])⟩, FzAll.sub s h3⟩
  | r xs =>
    obtain ⟨b, vs, rfl, h1, h3⟩ := h
    exact ⟨b, vs, rfl, h1, FzAll.sub s h3⟩
  | f k => exact h
theorem RvOk.sub {a : Addr} (h : RvOk K fa H0 H Z σ r v) (n : (∃ xs, r = .n xs) → v ≠ V.ref a) : RvOk K fa H0 H (less Z a) σ r v := by
  have s : ∀ b, less Z a b → Z b := fun b q => q.1
  cases r with
  | v x => exact Fz.sub s h
  | n xs =>
    obtain ⟨b, vs, rfl, h1, h2, h3, h4⟩ := h
    exact ⟨b, vs, rfl, h1, ⟨h2, fun e => n ⟨xs, rfl⟩ (by rw [e])⟩, h3, FzAll.sub s h4⟩
  | p i => exact h
  | r xs =>
    obtain ⟨b, vs, rfl, h1, h3⟩ := h
    exact ⟨b, vs, rfl, h1, FzAll.sub s h3⟩
  | f k => exact h
theorem Mid.less {a : Addr} (m : Mid K fa σ H0 Z0 env0 H Z env) (h : H0 a = none ∨ Own σ env0 a) (mo : ∀ b, Own σ env1 b → Own σ env b) (mw : ∀ i, ownd env1 i → ownd env i) (kk : ∀ (i : Nat) (xs : List PyData), env1[i]? = some (some (W.k xs)) → env[i]? = some (some (W.k xs))) (ok : Eok K fa H (less Z a) σ env1) : Mid K fa σ H0 Z0 env0 H (less Z a) env1 := by
  refine ⟨⟨m.st.keep, m.st.dom, fun b hz hm => ⟨m.st.zold b hz hm, fun e => ?_⟩, fun b hz => m.st.znew b hz.1, fun b q => m.st.mnew b (mo b q), m.st.muz, m.st.zl⟩, fun b q => m.mo b (mo b q), fun i q => m.mw i (mw i q), fun i b q e => m.sl i b (mw i q) e, fun i xs q => m.kk i xs (kk i xs q), ok⟩
  subst e
  rcases h with h | h
  · obtain ⟨vs, e⟩ := m.st.zl b hz
    rw [h] at e; cases e
  · exact hm h
theorem Eok.lessNew {a : Addr} (e : Eok K fa H Z σ env) (n : ∀ i, ownd env i → σ[i]? ≠ some (some (V.ref a))) : Eok K fa H (Ev.less Z a) σ env := by
  refine ⟨fun i w h => ?_, e.apart, fun b hb => e.zl b hb.1, e.len⟩
  obtain ⟨v, e1, e2⟩ := e.nm i w h
  refine ⟨v, e1, e2.sub fun hw ev => n i ?_ (by rw [e1, ev])⟩
  obtain ⟨xs, hw | hw⟩ := hw
  · exact ⟨xs, .inl (by rw [h, hw])⟩
  · exact ⟨xs, .inr (by rw [h, hw])⟩
/-- a new list that was given is frozen -/
theorem Mid.freeze (m : Mid K fa σ H0 Z0 env0 H Z env) {a : Addr} (h : H0 a = none) : Mid K fa σ H0 Z0 env0 H (Ev.less Z a) env :=
  m.less (.inl h) (fun _ q => q) (fun _ q => q) (fun _ _ q => q) (m.ok.lessNew fun i o e => by
    obtain ⟨vs, q⟩ := m.sl i a o e
    rw [h] at q; cases q)
theorem getElem?_set_cases {α : Type} {l : List α} {i j : Nat} {x y : α} (h : (l.set i x)[j]? = some y) : (j = i ∧ y = x ∧ i < l.length) ∨ (j ≠ i ∧ l[j]? = some y) := by
  by_cases e : j = i
  · subst e
    have hl : j < l.length := by
      have := (List.getElem?_eq_some_iff.mp h).1
      simpa using this
    rw [List.getElem?_set_self hl] at h
    cases h
    exact .inl ⟨rfl, rfl, hl⟩
  · rw [List.getElem?_set_ne (Ne.symm e)] at h
    exact .inr ⟨e, h⟩
theorem ownd_set {w : Option W} {i j : Nat} (n : ∀ xs, w ≠ some (.l xs) ∧ w ≠ some (.k xs)) (h : ownd (env.set i w) j) : ownd env j ∧ j ≠ i := by
  obtain ⟨xs, h | h⟩ := h
  · rcases getElem?_set_cases h with ⟨_, e, _⟩ | ⟨ne, e⟩
    · exact absurd e.symm (n xs).1
    · exact ⟨⟨xs, .inl e⟩, ne⟩
  · rcases getElem?_set_cases h with ⟨_, e, _⟩ | ⟨ne, e⟩
    · exact absurd e.symm (n xs).2
    · exact ⟨⟨xs, .inr e⟩, ne⟩
theorem Own_set {w : Option W} {i : Nat} {a : Addr} (n : ∀ xs, w ≠ some (.l xs)) (h : Own σ (env.set i w) a) : Own σ env a := by
  obtain ⟨j, xs, e1, e2⟩ := h
  rcases getElem?_set_cases e1 with ⟨_, e, _⟩ | ⟨ne, e⟩
  · exact absurd e.symm (n xs)
  · exact ⟨j, xs, e, e2⟩
/-- a name's own list is frozen -/
theorem Mid.freezeN (m : Mid K fa σ H0 Z0 env0 H Z env) {i : Nat} {xs : List PyData} (h : env[i]? = some (some (.l xs))) : ∃ a vs, σ[i]? = some (some (V.ref a)) ∧ H a = some (HO.lst vs) ∧ FzAll K H (Ev.less Z a) vs xs ∧ (∃ us, H0 a = some (HO.lst us)) ∧
    Mid K fa σ H0 Z0 env0 H (Ev.less Z a) (env.set i (some (.d (.list xs)))) := by
  obtain ⟨v, e1, a, vs, rfl, h1, h2, h3⟩ := m.ok.nm i _ h
  have s : ∀ b, Ev.less Z a b → Z b := fun b q => q.1
  have fz : FzAll K H (Ev.less Z a) vs xs := h3.sub s
  have nd : ∀ ys, (some (W.d (.list xs)) : Option W) ≠ some (.l ys) ∧ (some (W.d (.list xs)) : Option W) ≠ some (.k ys) := fun ys => ⟨fun q => (by cases q), fun q => (by cases q)⟩
  refine ⟨a, vs, e1, h1, fz, m.old ⟨i, xs, h, e1⟩, m.less (.inr (m.mo a ⟨i, xs, h, e1⟩)) (fun b q => Own_set (fun ys => (nd ys).1) q) (fun j q => (ownd_set nd q).1) (fun j ys q => by
    rcases getElem?_set_cases q with ⟨_, e, _⟩ | ⟨_, e⟩
    · cases e
    · exact e) ?_⟩
  refine ⟨fun j w hj => ?_, fun j1 j2 b o1 o2 => m.ok.apart j1 j2 b (ownd_set nd o1).1 (ownd_set nd o2).1, fun b hb => m.ok.zl b hb.1, by rw [List.length_set]; exact m.ok.len⟩
  rcases getElem?_set_cases hj with ⟨rfl, e, _⟩ | ⟨ne, e⟩
  · cases e
    exact ⟨V.ref a, e1, Fz.lst h1 (fun z => z.2 rfl) fz⟩
  · obtain ⟨v', e3, e4⟩ := m.ok.nm j w e
    refine ⟨v', e3, e4.sub fun hw ev => ne ?_⟩
    refine m.ok.apart j i a ?_ ⟨xs, .inl h⟩ (by rw [e3, ev]) e1
    obtain ⟨ys, hw | hw⟩ := hw
    · exact ⟨ys, .inl (by rw [e, hw])⟩
    · exact ⟨ys, .inr (by rw [e, hw])⟩
/-- what was given is kept elsewhere -/
theorem Mid.keep (m : Mid K fa σ H0 Z0 env0 H Z env) (h : RvOk K fa H0 H Z σ r v) (k : Ev.keep env r = some (env1, x)) :
    ∃ Z1, Mid K fa σ H0 Z0 env0 H Z1 env1 ∧ Fz K H Z1 v x ∧ (∀ a, Z1 a → Z a) ∧ (∀ a, Z a → H0 a = none → ((∃ ys, r = .n ys) → v ≠ V.ref a) → Z1 a) := by
  cases r with
  | v y => cases k; exact ⟨Z, m, h, fun _ q => q, fun _ q _ _ => q⟩
  | n xs =>
    cases k
    obtain ⟨a, vs, rfl, h1, h2, h3, h4⟩ := h
    exact ⟨_, m.freeze h3, .lst h1 (fun z => z.2 rfl) (h4.sub fun b q => q.1), fun _ q => q.1, fun b q _ n => ⟨q, fun e => n ⟨_, rfl⟩ (by rw [e])⟩⟩
  | p i =>
    have h : σ[i]? = some (some v) := h
    unfold Ev.keep at k
    dsimp only at k
    split at k
    · rename_i xs hw
      cases k
      obtain ⟨a, vs, e1, h1, fz, ⟨us, q0⟩, m1⟩ := m.freezeN hw
      rw [h] at e1; cases e1
      exact ⟨_, m1, .lst h1 (fun z => z.2 rfl) fz, fun _ q => q.1, fun b q n _ => ⟨q, fun e => by rw [e, q0] at n; cases n⟩⟩
    · rename_i y hw
      cases k
      obtain ⟨v', e1, e2⟩ := m.ok.nm i _ hw
      rw [h] at e1; cases e1
      exact ⟨Z, m, e2, fun _ q => q, fun _ q _ _ => q⟩
    · cases k
  | r xs => cases k
  | f n => cases k
end

/-! ### the reading of an expression -/
/-- what is wanted of an own error: its class's number, its field -/
abbrev XW := Nat → PyData → L2.St → Hp → Prop
/-- what is wanted behind an outcome -/
def Fin (K : PySem.W.Frag) (fa : Nat → V → Prop) (X : XW) (σ : L2.St) (H0 : Hp) (Z0 : Addr → Prop) (env0 : Env) (res : Rs (Env × Rv)) (Q : VK) : Prop :=
  match res with
  | .ok p => ∀ Z' H' v, Mid K fa σ H0 Z0 env0 H' Z' p.1 → RvOk K fa H0 H' Z' σ p.2 v → Q v H'
  | .ex c a => ∀ Mu' Z' H', Stp (Own σ env0) Z0 H0 Mu' Z' H' → X c a σ H'
  | .bad => False
/-- the reading: the names hold what env says, the outcome is m's -/
def tM (K : PySem.W.Frag) (fa : Nat → V → Prop) (X : XW) (m : Env → Rs (Env × Rv)) : TE := fun σ H Q => ∃ Z env, Eok K fa H Z σ env ∧ Fin K fa X σ H Z env (m env) Q
abbrev tE (K : PySem.W.Frag) (fa : Nat → V → Prop) (X : XW) (G : Tab) (e : ME) : TE := tM K fa X (ev G e)
section
variable {X : XW} {G : Tab} {σ : L2.St} {H0 H : Hp} {Z0 Z : Addr → Prop} {env0 env : Env} {Q : VK}
/-- the first part is evaluated, the rest goes on from there -/
theorem Fin.first {m : Env → Rs (Env × Rv)} {k : Env × Rv → Rs (Env × Rv)} (M : Mid K fa σ H0 Z0 env0 H Z env) (h : Fin K fa X σ H0 Z0 env0 ((m env).bind k) Q) :
    tM K fa X m σ H (fun x H1 => ∃ Z1 env1 r, Mid K fa σ H0 Z0 env0 H1 Z1 env1 ∧ Mid K fa σ H Z env H1 Z1 env1 ∧ RvOk K fa H H1 Z1 σ r x ∧ Fin K fa X σ H0 Z0 env0 (k (env1, r)) Q) := by
  refine ⟨Z, env, M.ok, ?_⟩
  cases e : m env with
  | bad => rw [e] at h; exact h
  | ex c a =>
    rw [e] at h
    exact fun Mu' Z' H' s => h Mu' Z' H' (M.st.trans s)
  | ok p =>
    rw [e] at h
    intro Z' H' v m1 hr
    exact ⟨Z', p.1, p.2, M.trans m1, m1, hr, h⟩
end
end Ev

set_option maxHeartbeats 4000000
/-! Ev, part E0: tuples times small numbers; any and all of tuples and of ints. -/
namespace Ev
open PySem L2 PyProof.Rows
theorem mul1_meets (l : Addr) (items : Array Value) (n : Nat) (dd : Option Addr) (sl : Array (Option Value)) (x : Int) (u : Tok) (c0 : (decide (x < -(2 ^ 63)) || decide (x ≥ 2 ^ 63)) = false) (c1 : (items.isEmpty || x == 1) = true) :
    Meets (Builtin.«tuple.__mul__» ⟨[.ref l, .int x u], []⟩) (fun _ R s => s.heap.get? l = some { cls := .type "tuple", dict := dd, data := .seq items n, slots := sl } ∧
      R (.ok (.ret (Value.ref l))) s) :=
  .of_wp fun prog w A R s h => by
    obtain ⟨hp, g, d, tk, os⟩ := s
    obtain ⟨hl, h⟩ := h
    have f1 := AutoSeq1.idx_int
    wp_walk using wpAny_loadPart' hl
    repeat (first
      | (refine wpAny_ite_false (decide_eq_false (by rw [c0]; exact Bool.false_ne_true)) ?_; wp_walk using wpAny_loadPart' hl)
      | (refine wpAny_ite_true (decide_eq_true c1) ?_; wp_walk using wpAny_loadPart' hl))
    exact ⟨_, rfl, h⟩
theorem mul0_meets (l : Addr) (items : Array Value) (n : Nat) (dd : Option Addr) (sl : Array (Option Value)) (x : Int) (u : Tok) (c0 : (decide (x < -(2 ^ 63)) || decide (x ≥ 2 ^ 63)) = false) (c1 : (items.isEmpty || x == 1) = false) (c2 : (decide (x ≤ 0) || items.isEmpty) = true) :
    Meets (Builtin.«tuple.__mul__» ⟨[.ref l, .int x u], []⟩) (fun _ R s => s.heap.get? l = some { cls := .type "tuple", dict := dd, data := .seq items n, slots := sl } ∧
      R (.ok (.ret (Value.ref s.heap.objs.size))) { s with heap := s.heap.push { cls := Value.type "tuple", data := Data.seq #[] }, toks := s.toks }) :=
  .of_wp fun prog w A R s h => by
    obtain ⟨hp, g, d, tk, os⟩ := s
    obtain ⟨hl, h⟩ := h
    have f1 := AutoSeq1.idx_int
    wp_walk using wpAny_loadPart' hl
    repeat (first
      | (refine wpAny_ite_false (decide_eq_false (by rw [c0]; exact Bool.false_ne_true)) ?_; wp_walk using wpAny_loadPart' hl)
      | (refine wpAny_ite_false (decide_eq_false (by rw [c1]; exact Bool.false_ne_true)) ?_; wp_walk using wpAny_loadPart' hl)
      | (refine wpAny_ite_true (decide_eq_true c2) ?_; wp_walk using wpAny_loadPart' hl))
    all_goals first | exact ⟨_, rfl, h⟩ | exact Nat.zero_le _
section
variable {X : Cx}
/-- a tuple several times, by the size of what is made -/
theorem op_repW : OpR X (binaryOp .Mult) (fun x y H Q => ∃ l k xs, x = V.ref l ∧ y = .int k ∧ SqT X.K H l xs ∧ xs ≠ [] ∧ 2 ≤ k ∧ k ≤ 100000 ∧ k.toNat * xs.length ≤ 1000000 ∧ ∀ p, H p = none → Q (.ref p) (upd H p (.tup (List.replicate k.toNat xs).flatten))) := by
  intro pins s σ H x y v u Q I rx ry h
  obtain ⟨l, k, xs, rfl, rfl, hT, hne, h1, h2, hz, q⟩ := h
  cases rx
  obtain ⟨t, rfl⟩ := ry
  obtain ⟨its, r, ⟨⟨cls, dd, data, sl⟩, ho, hc, n, hd⟩, hs⟩ := I.tuple hT
  simp only at hc hd
  subst hc hd
  have hle : its.length = xs.length := r.length.symm
  have hi : its.toArray.isEmpty = false := by
    cases its with
    | nil => exact absurd (List.eq_nil_of_length_eq_zero hle.symm) hne
    | cons a b => rfl
  have sl2 : sizeLine = 16777216 := by decide
  have flen : ∀ {α : Type} (ys : List α), ys.length = xs.length → (List.replicate k.toNat ys).flatten.length ≤ sizeLine := fun ys e => by
    rw [PyProof.Rows.lm_len_rep_flat, e]; omega
  have hm : ((its.toArray.size : Nat) : Int) * k ≤ 1000000 := by
    have e : ((its.toArray.size : Nat) : Int) * k = ((k.toNat * xs.length : Nat) : Int) := by
      rw [List.size_toArray, hle, Int.natCast_mul, Int.mul_comm, Int.toNat_of_nonneg (by omega)]
    omega
  have c0 : (decide (k < -(2 ^ 63)) || decide (k ≥ 2 ^ 63)) = false := by
    rw [decide_eq_false (by omega), decide_eq_false (by omega)] <;> rfl
  have c1 : (its.toArray.isEmpty || k == 1) = false := by
    rw [hi, Bool.false_or, beq_eq_false_iff_ne]
    omega
  have c2 : (decide (k ≤ 0) || its.toArray.isEmpty) = false := by
    rw [hi, Bool.or_false, decide_eq_false (by omega)]
  have c4 : Builtin.Tuple.tupleTooMany (((its.toArray.size : Nat) : Int) * k) = false := by
    unfold Builtin.Tuple.tupleTooMany
    exact decide_eq_false (by omega)
  refine wpAny_binaryOp_repeat_ref (T := "tuple") (U := "int") (by decide) ⟨_, ho, rfl⟩ (fun s' => typeIs_int s' k t) noFill_tuple_mul PySem.F.fills_int_mul PySem.F.slot_int_rmul repeat_tuple PySem.F.slot_int_index.lookup
    (call_meets PySem.F.slot_int_rmul (typeIs_int s k t) PySem.F.entry_int_rmul (PySem.F.args_int_rmul_2 _ _) (int_rmul_tuple k t l its.toArray n dd sl)
      ⟨ho, rfl, ⟨_, ho, rfl⟩, call_meets PySem.F.slot_tuple_mul ⟨_, ho, rfl⟩ PySem.F.entry_tuple_mul (PySem.F.args_tuple_mul_2 _ _) (tuple_mulW l its.toArray n dd sl k t c0 c1 c2 (by omega) c4 (by rw [size_rep, List.size_toArray]; exact flen its hle)) ⟨ho, ?_⟩⟩)
  rw [size_rep]
  exact ⟨.ref s.heap.objs.size, _, I.laid (t' := s.toks) (o := .tup (List.replicate k.toNat xs).flatten) (fun b ob q => Heap.get?_push_of_some _ q) (Nat.le_refl _) ⟨flen xs rfl, _, r.rep k.toNat, IsTup.new _ _⟩, rfl, q _ (I.hok.fresh (Nat.le_refl _))⟩
theorem op_repS : OpR X (binaryOp .Mult) (fun x y H Q => ∃ l k xs, x = V.ref l ∧ y = .int k ∧ SqT X.K H l xs ∧ -(2 ^ 63) ≤ k ∧ k < 2 ^ 63 ∧ ((xs = [] ∨ k = 1) ∧ Q (.ref l) H ∨ xs ≠ [] ∧ k ≤ 0 ∧ ∀ p, H p = none → Q (.ref p) (upd H p (.tup [])))) := by
  intro pins s σ H x y v u Q I rx ry h
  obtain ⟨l, k, xs, rfl, rfl, hT, h1, h2, hq⟩ := h
  cases rx
  obtain ⟨t, rfl⟩ := ry
  obtain ⟨its, r, ⟨⟨cls, dd, data, sl⟩, ho, hc, n, hd⟩, hs⟩ := I.tuple hT
  simp only at hc hd
  subst hc hd
  have hle : its.length = xs.length := r.length.symm
  have c0 : (decide (k < -(2 ^ 63)) || decide (k ≥ 2 ^ 63)) = false := by
    rw [decide_eq_false (by omega), decide_eq_false (by omega)] <;> rfl
  have he : xs ≠ [] → its.toArray.isEmpty = false := fun hne => by
    cases its with
    | nil => exact absurd (List.eq_nil_of_length_eq_zero hle.symm) hne
    | cons a b => rfl
  refine wpAny_binaryOp_repeat_ref (T := "tuple") (U := "int") (by decide) ⟨_, ho, rfl⟩ (fun s' => typeIs_int s' k t) noFill_tuple_mul F.fills_int_mul F.slot_int_rmul repeat_tuple F.slot_int_index.lookup
    (call_meets F.slot_int_rmul (typeIs_int s k t) F.entry_int_rmul (F.args_int_rmul_2 _ _) (int_rmul_tuple k t l its.toArray n dd sl) ⟨ho, rfl, ⟨_, ho, rfl⟩, ?_⟩)
  by_cases c : (its.toArray.isEmpty || k == 1) = true
  · refine call_meets F.slot_tuple_mul ⟨_, ho, rfl⟩ F.entry_tuple_mul (F.args_tuple_mul_2 _ _) (mul1_meets l its.toArray n dd sl k t c0 c) ⟨ho, ?_⟩
    rcases hq with ⟨_, q⟩ | ⟨hne, hk, _⟩
    · exact ⟨.ref l, H, I, rfl, q⟩
    · rw [he hne, Bool.false_or] at c
      have := eq_of_beq c
      omega
  · have c1 : (its.toArray.isEmpty || k == 1) = false := by simpa using c
    rcases hq with ⟨hx, q⟩ | ⟨hne, hk, q⟩
    · exfalso
      rw [Bool.or_eq_false_iff] at c1
      rcases hx with rfl | rfl
      · have e : its = [] := List.eq_nil_of_length_eq_zero hle
        rw [e] at c1
        exact absurd c1.1 (by decide)
      · exact absurd c1.2 (by decide)
    · have c2 : (decide (k ≤ 0) || its.toArray.isEmpty) = true := by rw [decide_eq_true hk] <;> rfl
      refine call_meets F.slot_tuple_mul ⟨_, ho, rfl⟩ F.entry_tuple_mul (F.args_tuple_mul_2 _ _) (mul0_meets l its.toArray n dd sl k t c0 c1 c2) ⟨ho, ?_⟩
      refine ⟨.ref s.heap.objs.size, _, I.laid (t' := s.toks) (o := .tup []) (fun b ob q => Heap.get?_push_of_some _ q) (Nat.le_refl _) ?_, rfl, q _ (I.hok.fresh (Nat.le_refl _))⟩
      exact ⟨Nat.zero_le _, [], .nil, IsTup.new _ _⟩

/-! ### any, all -/
/-- the truth of a bool, an int -/
def TrV : V → Bool → Prop
  | .bl x, b => b = x
  | .int i, b => b = (i != 0)
  | _, _ => False
theorem truth_of {prog : Program} {w : World} {A : Around} {vs : List V} {bs : List Bool} {its : List Value} (r : Vals vs its) (h : Paired TrV vs bs) : TruthOf prog w A (fun i v => its.toArray[i]? = some v) (fun i => bs.getD i false) := fun i u s Q E hv hq => by
  have hv' : its[i]? = some u := by simpa using hv
  have key : ∀ {vs : List V} {bs : List Bool} {its : List Value} {i : Nat}, Vals vs its → Paired TrV vs bs → its[i]? = some u → ∃ v, RelV v u ∧ TrV v (bs.getD i false) := by
    intro vs
    induction vs with
    | nil => intro bs its i r _ e; cases r; simp at e
    | cons v vs ih =>
      intro bs its i r h e
      cases r with
      | cons r1 r2 =>
        cases h with
        | cons h1 h2 =>
          cases i with
          | zero => simp at e; subst e; exact ⟨v, r1, by simpa using h1⟩
          | succ i =>
            obtain ⟨v', q1, q2⟩ := ih r2 h2 (by simpa using e)
            exact ⟨v', q1, by simpa using q2⟩
  obtain ⟨v, q1, q2⟩ := key r h hv'
  have hq : Q (bs.getD i false) s := hq
  cases v with
  | bl x =>
    cases (show u = Value.bool x from q1)
    rw [show bs.getD i false = x from q2] at hq
    exact wpAny_truthy_bool hq
  | int j =>
    obtain ⟨t, rfl⟩ := q1
    rw [show bs.getD i false = (j != 0) from q2] at hq
    exact PyProof.Rows.truthy_int hq
  | _ => exact q2.elim
theorem paired_len {α β : Type} {R : α → β → Prop} : ∀ {xs : List α} {ys : List β}, Paired R xs ys → xs.length = ys.length
  | _, _, .nil => rfl
  | _, _, .cons _ h => by rw [List.length_cons, List.length_cons, paired_len h]
theorem iter_anyT {prog : Program} {w : World} {A : Around} {E : Value → Shared → Prop} {s : Shared} {l : Addr} {items : Array Value} {Q : Value → Shared → Prop} (hl : s.heap.IsTuple l items)
    (h : ∀ s₂ : Shared, s₂ = { s with heap := s.heap.push { cls := .type "tuple_iterator", data := .fields #[.ref l, .int 0 0] } } →
      (s₂.heap.IsTupleIter s.heap.objs.size l 0 ∧ s₂.heap.IsTuple l items) → l ≠ s.heap.objs.size → Q (.ref s.heap.objs.size) s₂) : wpAny (model prog w) A (pyIter (.ref l)) Q E s := by
  have hlt : l < s.heap.objs.size := by obtain ⟨_, e, _⟩ := hl; exact Heap.lt_size e
  exact wpAny_pyIter_tuple hl (h _ rfl ⟨⟨_, Heap.get?_push_size _ rfl, rfl, rfl⟩, hl.at fun o e => Heap.get?_push_of_some _ e⟩ (Nat.ne_of_lt hlt))
def rTr (K : PySem.W.Frag) (f : List Bool → Bool) : List V → Hp → VK → Prop := fun vs H Q => ∃ (a : Addr) (xs : List V) (bs : List Bool), vs = [V.ref a] ∧ (SqL K H a xs ∨ SqT K H a xs) ∧ Paired TrV xs bs ∧ Q (.bl (f bs)) H
theorem cr_anyX (hc : X.calm = true) : CallR X (.builtin "any") (rTr X.K fun bs => bs.any id) := by
  intro pins s σ H vs us Q I r h
  obtain ⟨a, xs, bs, rfl, hs, hb, q⟩ := h
  rw [Vals.ref1 r]
  rcases hs with hs | hs
  · obtain ⟨its, rv, hl, _⟩ := I.list hs
    refine call_any_walk (iter_any hl.isList fun s₂ e2 st hne => ?_)
    subst e2
    refine ⟨_, _, _, _, _, _, _, rfl, Walks.list (A := X.A.in1) (I.ok.hd hc) _ a hne its.toArray, st, truth_of rv hb, fun h' tk hk => ?_⟩
    refine ⟨.bl _, H, I.kept fun b o eo => hk b o (fun hmem => ?_) (Heap.get?_push_of_some _ eo), ?_, q⟩
    · rcases List.mem_cons.mp hmem with e1 | hmem
      · exact absurd (e1 ▸ Heap.lt_size eo) (Nat.lt_irrefl _)
      · cases hmem
    · show Value.bool _ = Value.bool (bs.any id)
      rw [← L2.any_range, List.size_toArray, ← rv.length, paired_len hb]
  · obtain ⟨its, rv, hl, _⟩ := I.tuple hs
    refine call_any_walk (iter_anyT hl fun s₂ e2 st hne => ?_)
    subst e2
    refine ⟨_, _, _, _, _, _, _, rfl, Walks.tuple (A := X.A.in1) (I.ok.hd hc) _ a hne its.toArray, st, truth_of rv hb, fun h' tk hk => ?_⟩
    refine ⟨.bl _, H, I.kept fun b o eo => hk b o (fun hmem => ?_) (Heap.get?_push_of_some _ eo), ?_, q⟩
    · rcases List.mem_cons.mp hmem with e1 | hmem
      · exact absurd (e1 ▸ Heap.lt_size eo) (Nat.lt_irrefl _)
      · cases hmem
    · show Value.bool _ = Value.bool (bs.any id)
      rw [← L2.any_range, List.size_toArray, ← rv.length, paired_len hb]
theorem cr_allX (hc : X.calm = true) : CallR X (.builtin "all") (rTr X.K fun bs => bs.all id) := by
  intro pins s σ H vs us Q I r h
  obtain ⟨a, xs, bs, rfl, hs, hb, q⟩ := h
  rw [Vals.ref1 r]
  rcases hs with hs | hs
  · obtain ⟨its, rv, hl, _⟩ := I.list hs
    refine call_all_walk (iter_any hl.isList fun s₂ e2 st hne => ?_)
    subst e2
    refine ⟨_, _, _, _, _, _, _, rfl, Walks.list (A := X.A.in1) (I.ok.hd hc) _ a hne its.toArray, st, truth_of rv hb, fun h' tk hk => ?_⟩
    refine ⟨.bl _, H, I.kept fun b o eo => hk b o (fun hmem => ?_) (Heap.get?_push_of_some _ eo), ?_, q⟩
    · rcases List.mem_cons.mp hmem with e1 | hmem
      · exact absurd (e1 ▸ Heap.lt_size eo) (Nat.lt_irrefl _)
      · cases hmem
    · show Value.bool _ = Value.bool (bs.all id)
      rw [← L2.all_range, List.size_toArray, ← rv.length, paired_len hb]
  · obtain ⟨its, rv, hl, _⟩ := I.tuple hs
    refine call_all_walk (iter_anyT hl fun s₂ e2 st hne => ?_)
    subst e2
    refine ⟨_, _, _, _, _, _, _, rfl, Walks.tuple (A := X.A.in1) (I.ok.hd hc) _ a hne its.toArray, st, truth_of rv hb, fun h' tk hk => ?_⟩
    refine ⟨.bl _, H, I.kept fun b o eo => hk b o (fun hmem => ?_) (Heap.get?_push_of_some _ eo), ?_, q⟩
    · rcases List.mem_cons.mp hmem with e1 | hmem
      · exact absurd (e1 ▸ Heap.lt_size eo) (Nat.lt_irrefl _)
      · cases hmem
    · show Value.bool _ = Value.bool (bs.all id)
      rw [← L2.all_range, List.size_toArray, ← rv.length, paired_len hb]
end
end Ev

/-! Ev, part E: new objects; operations by values. -/
namespace Ev
open PySem L2 PyProof.Rows

variable {K : PySem.W.Frag} {fa : Nat → V → Prop}
def more (Z : Addr → Prop) (p : Addr) : Addr → Prop := fun b => Z b ∨ b = p
theorem Stp.newT {Mu Z : Addr → Prop} {H : Hp} {p : Addr} {o : HO} (m : ∀ a, Mu a → Z a) (z : Zl Z H) (h : H p = none) : Stp Mu Z H Mu Z (upd H p o) :=
  ⟨fun a u e _ => by rw [upd_ne (ne_of_none e h)]; exact e, fun a u e => ⟨u, by rw [upd_ne (ne_of_none e h)]; exact e⟩, fun _ q _ => q, fun _ q => .inl q, fun _ q => .inl q, m, z⟩
theorem Stp.newL {Mu Z : Addr → Prop} {H : Hp} {p : Addr} {o : HO} (m : ∀ a, Mu a → Z a) (z : Zl Z H) (h : H p = none) : Stp Mu Z H Mu (more Z p) (upd H p o) :=
  ⟨fun a u e _ => by rw [upd_ne (ne_of_none e h)]; exact e, fun a u e => ⟨u, by rw [upd_ne (ne_of_none e h)]; exact e⟩, fun _ q _ => .inl q, fun a q => by
    rcases q with q | q
    · exact .inl q
    · exact .inr (by rw [q]; exact h), fun _ q => .inl q, m, z⟩
section
variable {σ : L2.St} {H0 H : Hp} {Z0 Z : Addr → Prop} {env0 env : Env} {p : Addr} {o : HO} {vs : List V} {ds : List PyData}
/-- names whose lists stand as they stood -/
theorem Eok.stay {Mu Mu' Z' : Addr → Prop} {H' : Hp} (e : Eok K fa H Z σ env) (s : Stp Mu Z H Mu' Z' H') (zl : Zl Z' H') (k : ∀ (i : Nat) (a : Addr), ownd env i → σ[i]? = some (some (V.ref a)) → H' a = H a ∧ Z' a) : Eok K fa H' Z' σ env := by
  refine ⟨fun i w h => ?_, e.apart, zl, e.len⟩
  obtain ⟨v, e1, e2⟩ := e.nm i w h
  refine ⟨v, e1, ?_⟩
  cases w with
  | d x => exact Fz.step s e2
  | l xs =>
    obtain ⟨a, us, rfl, h1, h2, h3⟩ := e2
    obtain ⟨k1, k2⟩ := k i a ⟨xs, .inl h⟩ e1
    exact ⟨a, us, rfl, k1.trans h1, k2, FzAll.step s h3⟩
  | k xs =>
    obtain ⟨a, us, rfl, h1, h2, h3⟩ := e2
    obtain ⟨k1, k2⟩ := k i a ⟨xs, .inr h⟩ e1
    exact ⟨a, us, rfl, k1.trans h1, k2, FzAll.step s h3⟩
  | r xs =>
    obtain ⟨a, us, rfl, h1, h3⟩ := e2
    exact ⟨a, us, rfl, RdL.step s h1, FzAll.step s h3⟩
  | f n => exact e2
theorem Zl.newT (z : Zl Z H) (h : H p = none) : Zl Z (upd H p o) := fun a q => by
  obtain ⟨us, e⟩ := z a q
  exact ⟨us, by rw [upd_ne (ne_of_none e h)]; exact e⟩
theorem Zl.newL (z : Zl Z H) (h : H p = none) : Zl (more Z p) (upd H p (.lst vs)) := fun a q => by
  rcases q with q | q
  · exact Zl.newT z h a q
  · exact ⟨vs, by rw [q]; exact upd_same⟩
theorem Mid.newT (m : Mid K fa σ H0 Z0 env0 H Z env) (h : H p = none) : Mid K fa σ H0 Z0 env0 (upd H p o) Z env := by
  have s : Stp (Own σ env) Z H (Own σ env) Z (upd H p o) := .newT m.ok.muz m.ok.zl h
  refine ⟨m.st.trans s, m.mo, m.mw, m.sl, m.kk, m.ok.stay s (m.ok.zl.newT h) fun i a q e => ?_⟩
  obtain ⟨h1, us, h2⟩ := m.ok.slot q e
  exact ⟨upd_ne (ne_of_none h2 h), h1⟩
theorem Mid.newL (m : Mid K fa σ H0 Z0 env0 H Z env) (h : H p = none) : Mid K fa σ H0 Z0 env0 (upd H p (.lst vs)) (more Z p) env := by
  have s : Stp (Own σ env) Z H (Own σ env) (more Z p) (upd H p (.lst vs)) := .newL m.ok.muz m.ok.zl h
  refine ⟨m.st.trans s, m.mo, m.mw, m.sl, m.kk, m.ok.stay s (m.ok.zl.newL h) fun i a q e => ?_⟩
  obtain ⟨h1, us, h2⟩ := m.ok.slot q e
  exact ⟨upd_ne (ne_of_none h2 h), .inl h1⟩
theorem FzAll.newT (z : Zl Z H) (h : H p = none) (f : FzAll K H Z vs ds) : FzAll K (upd H p o) Z vs ds := f.step (Stp.newT (Mu := fun _ => False) (fun _ q => q.elim) z h)
theorem FzAll.newL (z : Zl Z H) (h : H p = none) (f : FzAll K H Z vs ds) : FzAll K (upd H p o) (more Z p) vs ds := f.step (Stp.newL (Mu := fun _ => False) (fun _ q => q.elim) z h)
end

/-! ### an operation on values that changes nothing -/
/-- what it gives: data that stands, a new tuple, a new list -/
inductive Gv (K : PySem.W.Frag) (H : Hp) (Z : Addr → Prop) (Q : VK) : Rv → Prop
  | v {x : PyData} {v : V} : Fz K H Z v x → Q v H → Gv K H Z Q (.v x)
  | t {ds : List PyData} {vs : List V} : FzAll K H Z vs ds → (∀ p, H p = none → Q (.ref p) (upd H p (.tup vs))) → Gv K H Z Q (.v (.tuple ds))
  | n {ds : List PyData} {vs : List V} : FzAll K H Z vs ds → (∀ p, H p = none → Q (.ref p) (upd H p (.lst vs))) → Gv K H Z Q (.n ds)
/-- the wish that an operation must serve, whatever it gives -/
def Wsh (K : PySem.W.Frag) (H : Hp) (Z : Addr → Prop) (Q : VK) (r : Rv) : Prop := match r with
  | .v x => (∀ v, Fz K H Z v x → Q v H) ∧ (∀ ds vs, x = .tuple ds → FzAll K H Z vs ds → ∀ p, H p = none → Q (.ref p) (upd H p (.tup vs)))
  | .n xs => ∀ vs, FzAll K H Z vs xs → ∀ p, H p = none → Q (.ref p) (upd H p (.lst vs))
  | _ => False
section
variable {X : XW} {σ : L2.St} {H0 H : Hp} {Z0 Z : Addr → Prop} {env0 env : Env} {Q : VK} {r : Rv}
theorem Fin.wsh (m : Mid K fa σ H0 Z0 env0 H Z env) (h : Fin K fa X σ H0 Z0 env0 (.ok (env, r)) Q) (hr : (∃ x, r = .v x) ∨ ∃ xs, r = .n xs) : Wsh K H Z Q r := by
  rcases hr with ⟨x, rfl⟩ | ⟨xs, rfl⟩
  · refine ⟨fun v f => h Z H v m f, fun ds vs e f p hp => ?_⟩
    subst e
    exact h Z _ _ (m.newT hp) (.tup (.inl (.inl upd_same)) (f.newT m.ok.zl hp))
  · intro vs f p hp
    exact h _ _ _ (m.newL hp) ⟨p, vs, rfl, upd_same, .inr rfl, m.fresh hp, f.newL m.ok.zl hp⟩
end
/-- two operands: what a rule of two values asks -/
def rOp2 (K : PySem.W.Frag) (op : PyData → PyData → Option Rv) : R2 := fun x y H Q => ∃ Z dx dy r, Zl Z H ∧ Ds K H Z x dx ∧ Ds K H Z y dy ∧ op dx dy = some r ∧ Wsh K H Z Q r
def rOp1 (K : PySem.W.Frag) (op : PyData → Option Rv) : V → Hp → VK → Prop := fun x H Q => ∃ Z dx r, Zl Z H ∧ Ds K H Z x dx ∧ op dx = some r ∧ Wsh K H Z Q r
theorem OpR.weak {X : Cx} {f : Value → Value → PySem.Sem Value} {r r' : R2} (h : OpR X f r) (w : ∀ x y H Q, r' x y H Q → r x y H Q) : OpR X f r' := fun pins s σ H x y v u Q I rx ry q => h pins s σ H x y v u Q I rx ry (w _ _ _ _ q)

section
variable {X : Cx}
theorem op2_add : OpR X (binaryOp .Add) (rOp2 X.K (opBin .add)) := by
  refine OpR.weak (OpR.or op_add (OpR.or op_add_str (OpR.or op_catA op_cat))) fun x y H Q h => ?_
  obtain ⟨Z, dx, dy, r, zl, hx, hy, e, w⟩ := h
  cases dx <;> cases dy <;> simp only [opBin] at e <;> try (cases e; done)
  · rename_i i j
    cases e
    exact .inl ⟨i, j, hx.int, hy.int, w.1 _ (.int _)⟩
  · rename_i a b
    split at e
    · rename_i hl
      cases e
      exact .inr (.inl ⟨a, b, hx.str, hy.str, hl, w.1 _ (.str _)⟩)
    · cases e
  · rename_i xs ys
    split at e
    · rename_i hl
      cases e
      obtain ⟨a, vs, rfl, h1, f1⟩ := hx.list
      obtain ⟨b, us, rfl, h2, f2⟩ := hy.list
      exact .inr (.inr (.inr ⟨a, b, vs, us, rfl, rfl, h1, h2, by rw [f1.length, f2.length]; exact hl, fun p hp => w _ (f1.append f2) p hp⟩))
    · cases e
  · rename_i xs ys
    split at e
    · rename_i hl
      cases e
      obtain ⟨a, vs, rfl, h1, f1⟩ := hx.tuple
      obtain ⟨b, us, rfl, h2, f2⟩ := hy.tuple
      refine .inr (.inr (.inl ⟨a, b, vs, us, rfl, rfl, h1, h2, by rw [f1.length, f2.length]; exact hl, fun ev => ?_, fun _ ev => ?_, fun _ _ p hp => ?_⟩))
      · subst ev
        cases f1
        exact w.1 _ (.tup h2 f2)
      · subst ev
        cases f2
        rw [List.append_nil] at w
        exact w.1 _ (.tup h1 f1)
      · exact w.2 _ _ rfl (f1.append f2) p hp
    · cases e
theorem op2_sub : OpR X (binaryOp .Sub) (rOp2 X.K (opBin .sub)) := by
  refine OpR.weak op_sub fun x y H Q h => ?_
  obtain ⟨Z, dx, dy, r, zl, hx, hy, e, w⟩ := h
  cases dx <;> cases dy <;> simp only [opBin] at e <;> try (cases e; done)
  rename_i i j
  cases e
  exact ⟨i, j, hx.int, hy.int, w.1 _ (.int _)⟩
theorem op2_mul : OpR X (binaryOp .Mult) (rOp2 X.K (opBin .mul)) := by
  refine OpR.weak (OpR.or (show OpR X (binaryOp .Mult) (rI (fun i j => L2.CMul i j ∨ L2.CMulW i j) fun i j => .int (i * j)) from opI fun _ _ _ _ _ _ _ hc q => mul_int q (hc.elim L2.CMul.ok L2.CMulW.ok)) (OpR.or op_repW (OpR.or op_repS op_rep))) fun x y H Q h => ?_
  obtain ⟨Z, dx, dy, r, zl, hx, hy, e, w⟩ := h
  cases dx <;> cases dy <;> simp only [opBin] at e <;> try (cases e; done)
  · rename_i i j
    split at e
    · rename_i hs
      cases e
      refine .inl ⟨i, j, hx.int, hy.int, ?_, w.1 _ (.int _)⟩
      rw [Bool.or_eq_true, Bool.or_eq_true] at hs
      simp only [sml, Bool.and_eq_true, decide_eq_true_eq] at hs
      exact hs
    · cases e
  · rename_i xs k
    split at e
    · rename_i hl
      cases e
      obtain ⟨a, vs, rfl, h1, f1⟩ := hx.list
      exact .inr (.inr (.inr ⟨a, k, vs, rfl, hy.int, h1, hl.1, hl.2.1, by rw [f1.length]; exact hl.2.2, fun p hp => w _ (f1.rep _) p hp⟩))
    · cases e
  · rename_i xs k
    split at e
    · rename_i hl
      cases e
      obtain ⟨a, vs, rfl, h1, f1⟩ := hx.tuple
      by_cases c1 : vs = [] ∨ k = 1
      · refine .inr (.inr (.inl ⟨a, k, vs, rfl, hy.int, h1, hl.1, by omega, .inl ⟨c1, w.1 _ ?_⟩⟩))
        have e : rep k.toNat xs = xs := by
          rcases c1 with rfl | rfl
          · cases f1
            unfold rep
            generalize k.toNat = n
            induction n with
            | zero => rfl
            | succ n ih => rw [List.replicate_succ, List.flatten_cons, ih] <;> rfl
          · show rep 1 xs = xs
            simp [rep]
        rw [e]
        exact .tup h1 f1
      · by_cases c2 : k ≤ 0
        · refine .inr (.inr (.inl ⟨a, k, vs, rfl, hy.int, h1, hl.1, by omega, .inr ⟨fun e => c1 (.inl e), c2, fun p hp => ?_⟩⟩))
          have e : rep k.toNat xs = [] := by
            rw [show k.toNat = 0 by omega]
            rfl
          rw [e] at w
          exact w.2 _ _ rfl .nil p hp
        · exact .inr (.inl ⟨a, k, vs, rfl, hy.int, h1, fun z => c1 (.inl z), by omega, hl.2.1, by rw [f1.length]; exact hl.2.2, fun p hp => w.2 _ _ rfl (f1.rep _) p hp⟩)
    · cases e
theorem op2_fdiv : OpR X (binaryOp .FloorDiv) (rOp2 X.K (opBin .fdiv)) := by
  refine OpR.weak (show OpR X (binaryOp .FloorDiv) (rI (fun _ j => j ≠ 0 ∧ j.natAbs.log2 < 9000) fun i j => .int (i.fdiv j)) from opI fun _ _ _ _ _ _ _ hc q => floordiv_int hc.1 q (.inl (PyProof.noPylong_of_log2 hc.2))) fun x y H Q h => ?_
  obtain ⟨Z, dx, dy, r, zl, hx, hy, e, w⟩ := h
  cases dx <;> cases dy <;> simp only [opBin] at e <;> try (cases e; done)
  rename_i i j
  split at e
  · rename_i hs
    cases e
    exact ⟨i, j, hx.int, hy.int, hs, w.1 _ (.int _)⟩
  · cases e
theorem op2_mod : OpR X (binaryOp .Mod) (rOp2 X.K (opBin .mod)) := by
  refine OpR.weak op_modN fun x y H Q h => ?_
  obtain ⟨Z, dx, dy, r, zl, hx, hy, e, w⟩ := h
  cases dx <;> cases dy <;> simp only [opBin] at e <;> try (cases e; done)
  rename_i i j
  split at e
  · rename_i hs
    cases e
    exact ⟨i, j, hx.int, hy.int, hs, w.1 _ (.int _)⟩
  · cases e
theorem op2_pow : OpR X (binaryOp .Pow) (rOp2 X.K (opBin .pow)) := by
  refine OpR.weak op_pow fun x y H Q h => ?_
  obtain ⟨Z, dx, dy, r, zl, hx, hy, e, w⟩ := h
  cases dx <;> cases dy <;> simp only [opBin] at e <;> try (cases e; done)
  rename_i i j
  split at e
  · rename_i hs
    cases e
    refine ⟨i, j, hx.int, hy.int, ⟨hs.1, by omega, ?_⟩, w.1 _ (.int _)⟩
    have := hs.2.2
    simp only [sml, Bool.and_eq_true, decide_eq_true_eq] at this
    omega
  · cases e
def opOf : BOp → Operator
  | .add => .Add | .sub => .Sub | .mul => .Mult | .fdiv => .FloorDiv | .mod => .Mod | .pow => .Pow
theorem op2_of (o : BOp) : OpR X (binaryOp (opOf o)) (rOp2 X.K (opBin o)) := by
  cases o
  · exact op2_add
  · exact op2_sub
  · exact op2_mul
  · exact op2_fdiv
  · exact op2_mod
  · exact op2_pow
end
end Ev

/-! Ev, part F: comparisons by values; expressions, one by one. -/
namespace Ev
open PySem L2 PyProof.Rows

/-- two operands compared -/
def rCmp (K : PySem.W.Frag) (o : COp) : R2 := fun x y H Q => ∃ Z dx dy b, Zl Z H ∧ Ds K H Z x dx ∧ Ds K H Z y dy ∧ opCmp o dx dy = some b ∧ Q (.bl b) H
def cmpOf : COp → CmpOp
  | .eq => .Eq | .ne => .NotEq | .lt => .Lt | .le => .LtE | .gt => .Gt | .ge => .GtE | .isN => .Is | .notN => .IsNot | .inn => .In | .nin => .NotIn
section
variable {X : Cx}
theorem op_inTD (hu : X.A.units + 65 < cLine) : OpR X (compareOp .In) (fun x y H Q => ∃ d ds, Dp X.K H x d ∧ Dp X.K H y (.tuple ds) ∧ SeqAt.shaped d = true ∧ SeqAt.shaped (.tuple ds) = true ∧ Q (.bl (ds.any fun z => PyData.eqv z d)) H) := by
  intro pins s σ H x y v u Q I rx ry h
  obtain ⟨d, ds, hd, he, sd, se, q⟩ := h
  obtain ⟨as, r1⟩ := Dp.reads I d x v hd rx
  obtain ⟨bs, r2⟩ := Dp.reads I (.tuple ds) y u he ry
  exact SeqAt.in_tuple_reads r2 r1 (SeqAt.canLay_of_shaped se) (SeqAt.canLay_of_shaped sd) (room_in_shaped sd hu) ⟨.bl _, H, I, rfl, q⟩
theorem op_notInTD (hu : X.A.units + 65 < cLine) : OpR X (compareOp .NotIn) (fun x y H Q => ∃ d ds, Dp X.K H x d ∧ Dp X.K H y (.tuple ds) ∧ SeqAt.shaped d = true ∧ SeqAt.shaped (.tuple ds) = true ∧ Q (.bl (!ds.any fun z => PyData.eqv z d)) H) := by
  intro pins s σ H x y v u Q I rx ry h
  obtain ⟨d, ds, hd, he, sd, se, q⟩ := h
  obtain ⟨as, r1⟩ := Dp.reads I d x v hd rx
  obtain ⟨bs, r2⟩ := Dp.reads I (.tuple ds) y u he ry
  exact SeqAt.notIn_tuple_reads r2 r1 (SeqAt.canLay_of_shaped se) (SeqAt.canLay_of_shaped sd) (room_in_shaped sd hu) ⟨.bl _, H, I, rfl, q⟩
theorem cmp_of (hu : X.A.units + 65 < cLine) (o : COp) : OpR X (compareOp (cmpOf o)) (rCmp X.K o) := by
  have hu4 : X.A.units + 64 < cLine := by omega
  cases o
  · refine OpR.weak (op_eqD hu4) fun x y H Q h => ?_
    obtain ⟨Z, dx, dy, b, zl, hx, hy, e, w⟩ := h
    simp only [opCmp] at e
    split at e
    · rename_i hs
      cases e
      rw [Bool.and_eq_true] at hs
      exact ⟨dx, dy, hx.dp (nodict hs.1), hy.dp (nodict hs.2), hs.1, hs.2, w⟩
    · cases e
  · refine OpR.weak (op_neD hu4) fun x y H Q h => ?_
    obtain ⟨Z, dx, dy, b, zl, hx, hy, e, w⟩ := h
    simp only [opCmp] at e
    split at e
    · rename_i hs
      cases e
      rw [Bool.and_eq_true] at hs
      exact ⟨dx, dy, hx.dp (nodict hs.1), hy.dp (nodict hs.2), hs.1, hs.2, w⟩
    · cases e
  · refine OpR.weak op_lt fun x y H Q h => ?_
    obtain ⟨Z, dx, dy, b, zl, hx, hy, e, w⟩ := h
    cases dx <;> cases dy <;> simp only [opCmp] at e <;> try (cases e; done)
    cases e
    exact ⟨_, _, hx.int, hy.int, w⟩
  · refine OpR.weak op_le fun x y H Q h => ?_
    obtain ⟨Z, dx, dy, b, zl, hx, hy, e, w⟩ := h
    cases dx <;> cases dy <;> simp only [opCmp] at e <;> try (cases e; done)
    cases e
    exact ⟨_, _, hx.int, hy.int, w⟩
  · refine OpR.weak op_gt fun x y H Q h => ?_
    obtain ⟨Z, dx, dy, b, zl, hx, hy, e, w⟩ := h
    cases dx <;> cases dy <;> simp only [opCmp] at e <;> try (cases e; done)
    cases e
    exact ⟨_, _, hx.int, hy.int, w⟩
  · refine OpR.weak op_ge fun x y H Q h => ?_
    obtain ⟨Z, dx, dy, b, zl, hx, hy, e, w⟩ := h
    cases dx <;> cases dy <;> simp only [opCmp] at e <;> try (cases e; done)
    cases e
    exact ⟨_, _, hx.int, hy.int, w⟩
  · refine OpR.weak op_isN fun x y H Q h => ?_
    obtain ⟨Z, dx, dy, b, zl, hx, hy, e, w⟩ := h
    cases dy <;> simp only [opCmp] at e <;> try (cases e; done)
    refine ⟨hy.none_, ?_⟩
    have eb : decide (x = V.non) = b := by
      cases dx <;> simp only at e <;> cases e
      · rw [hx.none_] <;> rfl
      · rw [hx.bool] <;> rfl
      · rw [hx.int] <;> rfl
      · rw [hx.str] <;> rfl
      · obtain ⟨a, vs, rfl, _⟩ := hx.list <;> rfl
      · obtain ⟨a, vs, rfl, _⟩ := hx.tuple <;> rfl
      · obtain ⟨f, rfl⟩ := hx.dict <;> rfl
    rw [eb]
    exact w
  · refine OpR.weak op_notN fun x y H Q h => ?_
    obtain ⟨Z, dx, dy, b, zl, hx, hy, e, w⟩ := h
    cases dy <;> simp only [opCmp] at e <;> try (cases e; done)
    refine ⟨hy.none_, ?_⟩
    have eb : (!decide (x = V.non)) = b := by
      cases dx <;> simp only at e <;> cases e
      · rw [hx.none_] <;> rfl
      · rw [hx.bool] <;> rfl
      · rw [hx.int] <;> rfl
      · rw [hx.str] <;> rfl
      · obtain ⟨a, vs, rfl, _⟩ := hx.list <;> rfl
      · obtain ⟨a, vs, rfl, _⟩ := hx.tuple <;> rfl
      · obtain ⟨f, rfl⟩ := hx.dict <;> rfl
    rw [eb]
    exact w
  · refine OpR.weak (OpR.or (op_inD hu) (op_inTD hu)) fun x y H Q h => ?_
    obtain ⟨Z, dx, dy, b, zl, hx, hy, e, w⟩ := h
    cases dy <;> simp only [opCmp] at e <;> try (cases e; done)
    · split at e
      · rename_i hs
        cases e
        rw [Bool.and_eq_true] at hs
        exact .inl ⟨dx, _, hx.dp (nodict hs.1), hy.dp (nodict hs.2), hs.1, hs.2, w⟩
      · cases e
    · split at e
      · rename_i hs
        cases e
        rw [Bool.and_eq_true] at hs
        exact .inr ⟨dx, _, hx.dp (nodict hs.1), hy.dp (nodict hs.2), hs.1, hs.2, w⟩
      · cases e
  · refine OpR.weak (OpR.or (op_notInD hu) (op_notInTD hu)) fun x y H Q h => ?_
    obtain ⟨Z, dx, dy, b, zl, hx, hy, e, w⟩ := h
    cases dy <;> simp only [opCmp] at e <;> try (cases e; done)
    · split at e
      · rename_i hs
        cases e
        rw [Bool.and_eq_true] at hs
        exact .inl ⟨dx, _, hx.dp (nodict hs.1), hy.dp (nodict hs.2), hs.1, hs.2, w⟩
      · cases e
    · split at e
      · rename_i hs
        cases e
        rw [Bool.and_eq_true] at hs
        exact .inr ⟨dx, _, hx.dp (nodict hs.1), hy.dp (nodict hs.2), hs.1, hs.2, w⟩
      · cases e
end

/-! ### expressions -/
theorem PE.weak {X : Cx} {e : Expr} {t t' : TE} (h : PE X e t) (w : ∀ σ H Q, t' σ H Q → t σ H Q) : PE X e t' := ⟨fun pins s σ H Q I q => h.run pins s σ H Q I (w σ H Q q)⟩
theorem PT.weak {X : Cx} {e : Expr} {t t' : TT} (h : PT X e t) (w : ∀ σ H Q, t' σ H Q → t σ H Q) : PT X e t' := ⟨fun pins s σ H Q I q => h.run pins s σ H Q I (w σ H Q q)⟩
section
variable {X : Cx} {fa : Nat → V → Prop} {XX : XW} {G : Tab} {a b c : Expr} {ma mb mc : ME} {pos : Pos}
theorem s_c {x : PyData} {e : Expr} {v : V} (h : PE X e (tC v)) (f : ∀ H Z, Fz X.K H Z v x) : PE X e (tE X.K fa XX G (.c x)) :=
  PE.weak h fun σ H Q ⟨Z, env, ok, h⟩ => h Z H v (.refl ok) (f H Z)
theorem s_v {i : Nat} {x : Str} (hN : X.N[i]? = some x) (hv : Vis X.env.scope x) (hd : (x == ("__debug__" : Str)) = false) (hcd : (x == ("__classdict__" : Str)) = false) : PE X (.Name x pos) (tE X.K fa XX G (.v i)) := by
  refine PE.weak (pe_var hN hv hd hcd) fun σ H Q ⟨Z, env, ok, h⟩ => ?_
  unfold ev at h
  cases hr : rdName env i with
  | none => rw [hr] at h; exact h.elim
  | some r =>
    rw [hr] at h
    unfold rdName at hr
    split at hr
    · rename_i y hw
      cases hr
      obtain ⟨v, e1, e2⟩ := ok.nm i _ hw
      exact ⟨v, e1, h Z H v (.refl ok) e2⟩
    · rename_i y hw
      cases hr
      obtain ⟨v, e1, e2⟩ := ok.nm i _ hw
      exact ⟨v, e1, h Z H v (.refl ok) e1⟩
    · rename_i y hw
      cases hr
      obtain ⟨v, e1, e2⟩ := ok.nm i _ hw
      exact ⟨v, e1, h Z H v (.refl ok) e1⟩
    · rename_i y hw
      cases hr
      obtain ⟨v, e1, e2⟩ := ok.nm i _ hw
      exact ⟨v, e1, h Z H v (.refl ok) e2⟩
    · rename_i y hw
      cases hr
      obtain ⟨v, e1, e2⟩ := ok.nm i _ hw
      exact ⟨v, e1, h Z H v (.refl ok) e2⟩
    · cases hr
theorem s_fn {n : Nat} {e : Expr} {v : V} (h : PE X e (tC v)) (f : fa n v) : PE X e (tE X.K fa XX G (.fn n)) :=
  PE.weak h fun σ H Q ⟨Z, env, ok, h⟩ => h Z H v (.refl ok) f
theorem tM.mono {m : Env → Rs (Env × Rv)} {σ : L2.St} {H : Hp} {Q Q' : VK} (h : tM X.K fa XX m σ H Q) (w : ∀ v H', Q v H' → Q' v H') : tM X.K fa XX m σ H Q' := by
  obtain ⟨Z, env, ok, h⟩ := h
  refine ⟨Z, env, ok, ?_⟩
  revert h
  cases m env with
  | bad => exact fun z => z
  | ex c a => exact fun z => z
  | ok p => exact fun z Z' H' v m r => w _ _ (z Z' H' v m r)
/-- two parts, then an operation on their data -/
theorem two {σ : L2.St} {H0 : Hp} {Z0 : Addr → Prop} {env0 : Env} {Q : VK} {k : Env → PyData → PyData → Rs (Env × Rv)} (ok : Eok X.K fa H0 Z0 σ env0)
    (h : Fin X.K fa XX σ H0 Z0 env0 ((ev G ma env0).bind fun p => (ev G mb p.1).bind fun q => match dat q.1 p.2, dat q.1 q.2 with | some x, some y => k q.1 x y | _, _ => .bad) Q) :
    tE X.K fa XX G ma σ H0 fun x H1 => tE X.K fa XX G mb σ H1 fun y H2 => ∃ Z2 env2 dx dy, Mid X.K fa σ H0 Z0 env0 H2 Z2 env2 ∧ Ds X.K H2 Z2 x dx ∧ Ds X.K H2 Z2 y dy ∧ Fin X.K fa XX σ H0 Z0 env0 (k env2 dx dy) Q := by
  refine tM.mono (Fin.first (.refl ok) h) fun x H1 ⟨Z1, env1, ra, M1, m1, r1, h1⟩ => ?_
  refine tM.mono (Fin.first M1 h1) fun y H2 ⟨Z2, env2, rb, M2, m2, r2, h2⟩ => ?_
  cases hx : dat env2 ra with
  | none => simp only [hx] at h2; exact h2.elim
  | some dx =>
    cases hy : dat env2 rb with
    | none => simp only [hx, hy] at h2; exact h2.elim
    | some dy =>
      simp only [hx, hy] at h2
      exact ⟨Z2, env2, dx, dy, M2, (RvOk.on M1 m2 r1).ds M2.ok hx, r2.ds M2.ok hy, h2⟩
theorem opBin_v {o : BOp} {x y : PyData} {r : Rv} (h : opBin o x y = some r) : (∃ x, r = .v x) ∨ ∃ xs, r = .n xs := by
  cases o <;> cases x <;> cases y <;> simp only [opBin] at h <;> (repeat' (split at h)) <;> first | (cases h; done) | (cases h; exact .inl ⟨_, rfl⟩) | (cases h; exact .inr ⟨_, rfl⟩)
theorem s_bin (o : BOp) (ha : PE X a (tE X.K fa XX G ma)) (hb : PE X b (tE X.K fa XX G mb)) : PE X (.BinOp a (opOf o) b pos) (tE X.K fa XX G (.bin o ma mb)) := by
  refine PE.weak (pe_op (op2_of o) ha hb) fun σ H Q ⟨Z, env, ok, h⟩ => ?_
  unfold ev at h
  refine tM.mono (two (k := fun e x y => (ofO (opBin o x y)).bind fun r => .ok (e, r)) ok h) fun x H1 h1 => tM.mono h1 fun y H2 ⟨Z2, env2, dx, dy, M, d1, d2, hf⟩ => ?_
  cases hr : opBin o dx dy with
  | none => rw [hr] at hf; exact hf.elim
  | some r =>
    rw [hr] at hf
    exact ⟨Z2, dx, dy, r, M.ok.zl, d1, d2, hr, Fin.wsh M hf (opBin_v hr)⟩
theorem s_cmp (hu : X.A.units + 65 < cLine) (o : COp) (ha : PE X a (tE X.K fa XX G ma)) (hb : PE X b (tE X.K fa XX G mb)) (hm : behindInMarks (cmpOf o) b = false) : PE X (.Compare a [cmpOf o] [b] pos) (tE X.K fa XX G (.cmp o ma mb)) := by
  refine PE.weak (pe_cmpR (cmp_of hu o) ha hb hm) fun σ H Q ⟨Z, env, ok, h⟩ => ?_
  unfold ev at h
  refine tM.mono (two (k := fun e x y => (ofO (opCmp o x y)).bind fun r => .ok (e, .v (.bool r))) ok h) fun x H1 h1 => tM.mono h1 fun y H2 ⟨Z2, env2, dx, dy, M, d1, d2, hf⟩ => ?_
  cases hr : opCmp o dx dy with
  | none => rw [hr] at hf; exact hf.elim
  | some r =>
    rw [hr] at hf
    exact ⟨Z2, dx, dy, r, M.ok.zl, d1, d2, hr, hf Z2 H2 _ M (.bl r)⟩
end
end Ev

/-! Ev, part G: more expressions; tests. -/
namespace Ev
open PySem L2 PyProof.Rows

theorem tru_of {K : PySem.W.Frag} {H : Hp} {Z : Addr → Prop} {v : V} {x : PyData} {k : Bool} (d : Ds K H Z v x) (h : tru x = some k) : TruV K v H k := by
  cases x <;> simp only [tru] at h <;> try (cases h; done)
  · cases h; rw [d.none_]; rfl
  · cases h; rw [d.bool]; rfl
  · cases h; rw [d.int]; rfl
  · cases h
    obtain ⟨a, vs, rfl, h1, f⟩ := d.list
    refine .inl ⟨vs, .inl (.inl h1), ?_⟩
    cases f <;> rfl
  · cases h
    obtain ⟨a, vs, rfl, h1, f⟩ := d.tuple
    refine .inr (.inl ⟨vs, h1, ?_⟩)
    cases f <;> rfl
section
variable {X : Cx} {fa : Nat → V → Prop} {XX : XW} {G : Tab} {a b c : Expr} {ma mb mc : ME} {pos : Pos}
variable {σ : L2.St} {H0 H : Hp} {Z0 Z : Addr → Prop} {env0 env : Env} {r : Rv} {v : V}
theorem RvOk.tru (ok : Eok X.K fa H Z σ env) (h : RvOk X.K fa H0 H Z σ r v) {k : Bool} (e : truR env r = some k) : TruV X.K v H k := by
  unfold truR at e
  cases hd : dat env r with
  | none => rw [hd] at e; cases e
  | some x => rw [hd] at e; exact tru_of (h.ds ok hd) e
/-- one part, then something of it -/
theorem one {Q : VK} {k : Env × Rv → Rs (Env × Rv)} (ok : Eok X.K fa H0 Z0 σ env0) (h : Fin X.K fa XX σ H0 Z0 env0 ((ev G ma env0).bind k) Q) :
    tE X.K fa XX G ma σ H0 fun x H1 => ∃ Z1 env1 r, Mid X.K fa σ H0 Z0 env0 H1 Z1 env1 ∧ RvOk X.K fa H0 H1 Z1 σ r x ∧ Fin X.K fa XX σ H0 Z0 env0 (k (env1, r)) Q :=
  tM.mono (Fin.first (.refl ok) h) fun x H1 ⟨Z1, env1, ra, M1, m1, r1, h1⟩ => ⟨Z1, env1, ra, M1, r1, h1⟩
/-- the outcome of the second part is the outcome -/
theorem Fin.last {m : Env → Rs (Env × Rv)} {Q : VK} (M : Mid X.K fa σ H0 Z0 env0 H Z env) (h : Fin X.K fa XX σ H0 Z0 env0 (m env) Q) : tM X.K fa XX m σ H Q := by
  refine ⟨Z, env, M.ok, ?_⟩
  revert h
  unfold Fin
  cases m env with
  | bad => exact fun z => z
  | ex c a => exact fun z Mu' Z' H' s => z Mu' Z' H' (M.st.trans s)
  | ok p => exact fun z Z' H' v n r => z Z' H' v (M.trans n) (r.back M)

theorem s_neg (ha : PE X a (tE X.K fa XX G ma)) : PE X (.UnaryOp .USub a pos) (tE X.K fa XX G (.neg ma)) := by
  refine PE.weak (pe_un un_neg ha) fun σ H Q ⟨Z, env, ok, h⟩ => ?_
  unfold ev at h
  refine tM.mono (one ok h) fun x H1 ⟨Z1, env1, ra, M, r1, hf⟩ => ?_
  dsimp only at hf
  split at hf
  · rename_i i hd
    exact ⟨i, (r1.ds M.ok hd).int, hf Z1 H1 _ M (.int _)⟩
  · exact hf.elim
theorem s_chn (hu : X.A.units + 65 < cLine) (o o' : COp) (ha : PE X a (tE X.K fa XX G ma)) (hb : PE X b (tE X.K fa XX G mb)) (hc : PE X c (tE X.K fa XX G mc)) (hm : lastMarks [cmpOf o, cmpOf o'] [b, c] = false) :
    PE X (.Compare a [cmpOf o, cmpOf o'] [b, c] pos) (tE X.K fa XX G (.chn o o' ma mb mc)) := by
  refine PE.weak (pe_chain (cmp_of hu o) (cmp_of hu o') ha hb hc hm) fun σ H Q ⟨Z, env, ok, h⟩ => ?_
  unfold ev at h
  refine tM.mono (Fin.first (.refl ok) h) fun x H1 ⟨Z1, env1, ra, M1, m1, r1, h1⟩ => ?_
  refine tM.mono (Fin.first M1 h1) fun y H2 ⟨Z2, env2, rb, M2, m2, r2, h2⟩ => ?_
  dsimp only at h2
  cases hx : dat env2 ra with
  | none => simp only [hx] at h2; exact h2.elim
  | some dx =>
    cases hy : dat env2 rb with
    | none => simp only [hx, hy] at h2; exact h2.elim
    | some dy =>
      simp only [hx, hy] at h2
      cases hr : opCmp o dx dy with
      | none => rw [hr] at h2; exact h2.elim
      | some t =>
        rw [hr] at h2
        refine ⟨Z2, dx, dy, t, M2.ok.zl, (RvOk.on M1 m2 r1).ds M2.ok hx, r2.ds M2.ok hy, hr, t, rfl, ?_⟩
        have h2 : Fin X.K fa XX σ H Z env (if t = true then _ else _) Q := h2
        cases t with
        | false => exact h2 Z2 H2 _ M2 (.bl false)
        | true =>
          refine iteT ?_
          rw [if_pos rfl] at h2
          refine tM.mono (Fin.first M2 h2) fun z H3 ⟨Z3, env3, rc, M3, m3, r3, h3⟩ => ?_
          dsimp only at h3
          cases hy' : dat env3 rb with
          | none => simp only [hy'] at h3; exact h3.elim
          | some dy' =>
            cases hz : dat env3 rc with
            | none => simp only [hy', hz] at h3; exact h3.elim
            | some dz =>
              simp only [hy', hz] at h3
              cases hr' : opCmp o' dy' dz with
              | none => rw [hr'] at h3; exact h3.elim
              | some t' =>
                rw [hr'] at h3
                have r2' : RvOk X.K fa H1 H3 Z3 σ rb y := RvOk.on m2 m3 r2
                exact ⟨Z3, dy', dz, t', M3.ok.zl, r2'.ds M3.ok hy', r3.ds M3.ok hz, hr', h3 Z3 H3 _ M3 (.bl t')⟩
theorem s_and {rest : List Expr} (ha : PE X a (tE X.K fa XX G ma)) (hb : PE X (.BoolOp .And (b :: rest) pos) (tE X.K fa XX G mb)) : PE X (.BoolOp .And (a :: b :: rest) pos) (tE X.K fa XX G (.and ma mb)) := by
  refine PE.weak (pe_andT ha hb) fun σ H Q ⟨Z, env, ok, h⟩ => ?_
  unfold ev at h
  refine tM.mono (one ok h) fun x H1 ⟨Z1, env1, ra, M, r1, hf⟩ => ?_
  dsimp only at hf
  cases ht : truR env1 ra with
  | none => rw [ht] at hf; exact hf.elim
  | some k =>
    rw [ht] at hf
    refine ⟨k, r1.tru M.ok ht, ?_⟩
    cases k with
    | true => exact iteT (Fin.last M hf)
    | false => exact iteF (hf Z1 H1 x M r1)
theorem s_or {rest : List Expr} (ha : PE X a (tE X.K fa XX G ma)) (hb : PE X (.BoolOp .Or (b :: rest) pos) (tE X.K fa XX G mb)) : PE X (.BoolOp .Or (a :: b :: rest) pos) (tE X.K fa XX G (.or ma mb)) := by
  refine PE.weak (pe_orT ha hb) fun σ H Q ⟨Z, env, ok, h⟩ => ?_
  unfold ev at h
  refine tM.mono (one ok h) fun x H1 ⟨Z1, env1, ra, M, r1, hf⟩ => ?_
  dsimp only at hf
  cases ht : truR env1 ra with
  | none => rw [ht] at hf; exact hf.elim
  | some k =>
    rw [ht] at hf
    refine ⟨k, r1.tru M.ok ht, ?_⟩
    cases k with
    | false => exact iteF (Fin.last M hf)
    | true => exact iteT (hf Z1 H1 x M r1)
theorem s_last {op : BoolOp} (ha : PE X a (tE X.K fa XX G ma)) : PE X (.BoolOp op [a] pos) (tE X.K fa XX G ma) := pe_one ha
theorem s_not (ha : PE X a (tE X.K fa XX G ma)) : PE X (.UnaryOp .Not a pos) (tE X.K fa XX G (.not ma)) := by
  refine PE.weak (pe_notT ha) fun σ H Q ⟨Z, env, ok, h⟩ => ?_
  unfold ev at h
  refine tM.mono (one ok h) fun x H1 ⟨Z1, env1, ra, M, r1, hf⟩ => ?_
  dsimp only at hf
  cases ht : truR env1 ra with
  | none => rw [ht] at hf; exact hf.elim
  | some k =>
    rw [ht] at hf
    exact ⟨k, r1.tru M.ok ht, hf Z1 H1 _ M (.bl _)⟩
/-- a test's reading -/
def tT (K : PySem.W.Frag) (fa : Nat → V → Prop) (XX : XW) (G : Tab) (m : ME) : TT := fun σ H Q => tE K fa XX G m σ H fun x H1 => ∃ k, TruV K x H1 k ∧ Q k H1
/-- .. by the outcome -/
def tB (K : PySem.W.Frag) (fa : Nat → V → Prop) (XX : XW) (G : Tab) (m : ME) : TT := fun σ H Q => ∃ Z env, Eok K fa H Z σ env ∧ match ev G m env with
  | .ok p => match truR p.1 p.2 with
    | some k => ∀ Z' H', Mid K fa σ H Z env H' Z' p.1 → Q k H'
    | none => False
  | .ex c a => ∀ Mu' Z' H', Stp (Own σ env) Z H Mu' Z' H' → XX c a σ H'
  | .bad => False
theorem tB.tT {m : ME} {Q : Bool → Hp → Prop} (h : tB X.K fa XX G m σ H Q) : tT X.K fa XX G m σ H Q := by
  obtain ⟨Z, env, ok, h⟩ := h
  refine ⟨Z, env, ok, ?_⟩
  revert h
  unfold Fin
  cases ev G m env with
  | bad => exact fun z => z
  | ex c a => exact fun z => z
  | ok p =>
    intro z Z' H' v n r
    dsimp only at z
    cases ht : truR p.1 p.2 with
    | none => rw [ht] at z; exact z.elim
    | some k =>
      rw [ht] at z
      exact ⟨k, r.tru n.ok ht, z Z' H' n⟩
/-- a test of any plain kind -/
theorem b_any (ha : PE X a (tE X.K fa XX G ma)) (he : ∀ whole, isTrue a X.env whole = (do let v ← whole; standAt a.pos; holding [v] (truthy v))) : PT X a (tB X.K fa XX G ma) :=
  PT.weak (pt_truth ha he) fun σ H Q h => h.tT
theorem tB.two {σ : L2.St} {H0 : Hp} {Z0 : Addr → Prop} {env0 : Env} {Q : Bool → Hp → Prop} {ma mb : ME} {k : Env → PyData → PyData → Rs (Env × Rv)} (e : ev G ma env0 = .bad) : True := trivial
theorem b_cmp (hu : X.A.units + 65 < cLine) (o : COp) (ha : PE X a (tE X.K fa XX G ma)) (hb : PE X b (tE X.K fa XX G mb)) (hm : behindInMarks (cmpOf o) b = false) : PT X (.Compare a [cmpOf o] [b] pos) (tB X.K fa XX G (.cmp o ma mb)) := by
  refine PT.weak (pt_cmpR (cmp_of hu o) ha hb hm) fun σ H Q h => ?_
  obtain ⟨Z, env, ok, h⟩ := h.tT
  unfold ev at h
  refine tM.mono (two (k := fun e x y => (ofO (opCmp o x y)).bind fun r => .ok (e, .v (.bool r))) ok h) fun x H1 h1 => tM.mono h1 fun y H2 ⟨Z2, env2, dx, dy, M, d1, d2, hf⟩ => ?_
  cases hr : opCmp o dx dy with
  | none => rw [hr] at hf; exact hf.elim
  | some r =>
    rw [hr] at hf
    refine ⟨Z2, dx, dy, r, M.ok.zl, d1, d2, hr, r, rfl, ?_⟩
    obtain ⟨k, e, q⟩ := hf Z2 H2 (.bl r) M (.bl r)
    have e : k = r := e
    rw [← e]; exact q
/-- three comparisons in a row, as a test -/
def tRow3 (r r' r'' : R2) (ta tb tc td : TE) : TT := fun σ H Q => ta σ H fun x H1 => tb σ H1 fun y H2 => r x y H2 fun z H3 => ∃ k, z = .bl k ∧
  (if k = true then tc σ H3 fun w H4 => r' y w H4 fun z' H5 => ∃ k', z' = .bl k' ∧ (if k' = true then td σ H5 fun u H6 => r'' w u H6 fun z'' H7 => ∃ k'', z'' = .bl k'' ∧ Q k'' H7 else Q false H5) else Q false H3)
theorem pt_row3 {d : Expr} {o o' o'' : CmpOp} {r r' r'' : R2} {ta tb tc td : TE} (h1 : OpR X (compareOp o) r) (h2 : OpR X (compareOp o') r') (h3 : OpR X (compareOp o'') r'') (pa : PE X a ta) (pb : PE X b tb) (pc : PE X c tc) (pd : PE X d td)
    (hm : lastMarks [o, o', o''] [b, c, d] = false) : PT X (.Compare a [o, o', o''] [b, c, d] pos) (tRow3 r r' r'' ta tb tc td) := by
  refine ⟨fun pins s σ H Q I h => ?_⟩
  refine isTrue_chain (thn (pa.run pins s σ H _ I h) fun va t1 ⟨x, G1, J1, k1, w1⟩ => test_link (thn (pb.run pins t1 σ G1 _ J1 w1) fun vb t2 ⟨y, G2, J2, k2, w2⟩ =>
    thn (h1 pins t2 σ G2 x y va vb _ J2 k1 k2 w2) fun e1 t3 ⟨z, G3, J3, k3, b1, eb, w3⟩ => ?_)) hm
  subst eb
  cases k3
  refine wpAny_truthy_bool ?_
  cases b1 with
  | false => exact ite_ff ⟨G3, J3, w3⟩
  | true =>
    refine ite_tt (test_link (thn (pc.run pins t3 σ G3 _ J3 w3) fun vc t4 ⟨w, G4, J4, k4, w4⟩ => thn (h2 pins t4 σ G4 y w vb vc _ J4 k2 k4 w4) fun e2 t5 ⟨z2, G5, J5, k5, b2, eb2, w5⟩ => ?_))
    subst eb2
    cases k5
    refine wpAny_truthy_bool ?_
    cases b2 with
    | false => exact ite_ff ⟨G5, J5, w5⟩
    | true =>
      refine ite_tt (test_last (thn (pd.run pins t5 σ G5 _ J5 w5) fun vd t6 ⟨u, G6, J6, k6, w6⟩ => thn (h3 pins t6 σ G6 w u vc vd _ J6 k4 k6 w6) fun e3 t7 ⟨z3, G7, J7, k7, b3, eb3, w7⟩ => ?_))
      subst eb3
      cases k7
      exact wpAny_truthy_bool ⟨G7, J7, w7⟩
theorem b_chn (hu : X.A.units + 65 < cLine) (o o' : COp) (ha : PE X a (tE X.K fa XX G ma)) (hb : PE X b (tE X.K fa XX G mb)) (hc : PE X c (tE X.K fa XX G mc)) (hm : lastMarks [cmpOf o, cmpOf o'] [b, c] = false) :
    PT X (.Compare a [cmpOf o, cmpOf o'] [b, c] pos) (tB X.K fa XX G (.chn o o' ma mb mc)) := by
  refine PT.weak (pt_chain (cmp_of hu o) (cmp_of hu o') ha hb hc hm) fun σ H Q h => ?_
  obtain ⟨Z, env, ok, h⟩ := h.tT
  unfold ev at h
  refine tM.mono (Fin.first (.refl ok) h) fun x H1 ⟨Z1, env1, ra, M1, m1, r1, h1⟩ => ?_
  refine tM.mono (Fin.first M1 h1) fun y H2 ⟨Z2, env2, rb, M2, m2, r2, h2⟩ => ?_
  have bl : ∀ (k : Bool) (H : Hp), (∃ k', TruV X.K (.bl k) H k' ∧ Q k' H) → Q k H := fun k H ⟨k', e, q⟩ => by
    have e : k' = k := e
    rw [← e]; exact q
  dsimp only at h2
  cases hx : dat env2 ra with
  | none => simp only [hx] at h2; exact h2.elim
  | some dx =>
    cases hy : dat env2 rb with
    | none => simp only [hx, hy] at h2; exact h2.elim
    | some dy =>
      simp only [hx, hy] at h2
      cases hr : opCmp o dx dy with
      | none => rw [hr] at h2; exact h2.elim
      | some t =>
        rw [hr] at h2
        refine ⟨Z2, dx, dy, t, M2.ok.zl, (RvOk.on M1 m2 r1).ds M2.ok hx, r2.ds M2.ok hy, hr, t, rfl, ?_⟩
        have h2 : Fin X.K fa XX σ H Z env (if t = true then _ else _) _ := h2
        cases t with
        | false => exact ⟨false, rfl, bl _ _ (h2 Z2 H2 _ M2 (.bl false))⟩
        | true =>
          refine iteT ?_
          rw [if_pos rfl] at h2
          refine tM.mono (Fin.first M2 h2) fun z H3 ⟨Z3, env3, rc, M3, m3, r3, h3⟩ => ?_
          dsimp only at h3
          cases hy' : dat env3 rb with
          | none => simp only [hy'] at h3; exact h3.elim
          | some dy' =>
            cases hz : dat env3 rc with
            | none => simp only [hy', hz] at h3; exact h3.elim
            | some dz =>
              simp only [hy', hz] at h3
              cases hr' : opCmp o' dy' dz with
              | none => rw [hr'] at h3; exact h3.elim
              | some t' =>
                rw [hr'] at h3
                have r2' : RvOk X.K fa H1 H3 Z3 σ rb y := RvOk.on m2 m3 r2
                exact ⟨Z3, dy', dz, t', M3.ok.zl, r2'.ds M3.ok hy', r3.ds M3.ok hz, hr', t', rfl, bl _ _ (h3 Z3 H3 _ M3 (.bl t'))⟩
theorem b_ch3 {d : Expr} {md : ME} (hu : X.A.units + 65 < cLine) (o o' o'' : COp) (ha : PE X a (tE X.K fa XX G ma)) (hb : PE X b (tE X.K fa XX G mb)) (hc : PE X c (tE X.K fa XX G mc)) (hd : PE X d (tE X.K fa XX G md)) (hm : lastMarks [cmpOf o, cmpOf o', cmpOf o''] [b, c, d] = false) :
    PT X (.Compare a [cmpOf o, cmpOf o', cmpOf o''] [b, c, d] pos) (tB X.K fa XX G (.ch3 o o' o'' ma mb mc md)) := by
  refine PT.weak (pt_row3 (cmp_of hu o) (cmp_of hu o') (cmp_of hu o'') ha hb hc hd hm) fun σ H Q h => ?_
  obtain ⟨Z, env, ok, h⟩ := h.tT
  unfold ev at h
  refine tM.mono (Fin.first (.refl ok) h) fun x H1 ⟨Z1, env1, ra, M1, m1, r1, h1⟩ => ?_
  refine tM.mono (Fin.first M1 h1) fun y H2 ⟨Z2, env2, rb, M2, m2, r2, h2⟩ => ?_
  have bl : ∀ (k : Bool) (H : Hp), (∃ k', TruV X.K (.bl k) H k' ∧ Q k' H) → Q k H := fun k H ⟨k', e, q⟩ => by
    have e : k' = k := e
    rw [← e]; exact q
  dsimp only at h2
  cases hx : dat env2 ra with
  | none => simp only [hx] at h2; exact h2.elim
  | some dx =>
    cases hy : dat env2 rb with
    | none => simp only [hx, hy] at h2; exact h2.elim
    | some dy =>
      simp only [hx, hy] at h2
      cases hr : opCmp o dx dy with
      | none => rw [hr] at h2; exact h2.elim
      | some t =>
        rw [hr] at h2
        refine ⟨Z2, dx, dy, t, M2.ok.zl, (RvOk.on M1 m2 r1).ds M2.ok hx, r2.ds M2.ok hy, hr, t, rfl, ?_⟩
        have h2 : Fin X.K fa XX σ H Z env (if t = true then _ else _) _ := h2
        cases t with
        | false => exact bl _ _ (h2 Z2 H2 _ M2 (.bl false))
        | true =>
          refine iteT ?_
          rw [if_pos rfl] at h2
          refine tM.mono (Fin.first M2 h2) fun z H3 ⟨Z3, env3, rc, M3, m3, r3, h3⟩ => ?_
          dsimp only at h3
          cases hy' : dat env3 rb with
          | none => simp only [hy'] at h3; exact h3.elim
          | some dy' =>
            cases hz : dat env3 rc with
            | none => simp only [hy', hz] at h3; exact h3.elim
            | some dz =>
              simp only [hy', hz] at h3
              cases hr' : opCmp o' dy' dz with
              | none => rw [hr'] at h3; exact h3.elim
              | some t' =>
                rw [hr'] at h3
                have r2' : RvOk X.K fa H1 H3 Z3 σ rb y := RvOk.on m2 m3 r2
                refine ⟨Z3, dy', dz, t', M3.ok.zl, r2'.ds M3.ok hy', r3.ds M3.ok hz, hr', t', rfl, ?_⟩
                have h3 : Fin X.K fa XX σ H Z env (if t' = true then _ else _) _ := h3
                cases t' with
                | false => exact bl _ _ (h3 Z3 H3 _ M3 (.bl false))
                | true =>
                  refine iteT ?_
                  rw [if_pos rfl] at h3
                  refine tM.mono (Fin.first M3 h3) fun u H4 ⟨Z4, env4, rd, M4, m4, r4, h4⟩ => ?_
                  dsimp only at h4
                  cases hz' : dat env4 rc with
                  | none => simp only [hz'] at h4; exact h4.elim
                  | some dz' =>
                    cases hw : dat env4 rd with
                    | none => simp only [hz', hw] at h4; exact h4.elim
                    | some dw =>
                      simp only [hz', hw] at h4
                      cases hr2 : opCmp o'' dz' dw with
                      | none => rw [hr2] at h4; exact h4.elim
                      | some t2 =>
                        rw [hr2] at h4
                        have r3' : RvOk X.K fa H2 H4 Z4 σ rc z := RvOk.on m3 m4 r3
                        exact ⟨Z4, dz', dw, t2, M4.ok.zl, r3'.ds M4.ok hz', r4.ds M4.ok hw, hr2, t2, rfl, bl _ _ (h4 Z4 H4 _ M4 (.bl t2))⟩
end
end Ev

/-! Ev, part H: tests joined; subscripts, slices, displays, calls of built-ins. -/
namespace Ev
open PySem L2 PyProof.Rows
section
variable {X : Cx} {fa : Nat → V → Prop} {XX : XW} {G : Tab} {a b c : Expr} {ma mb mc : ME} {pos : Pos}
variable {σ : L2.St} {H0 H : Hp} {Z0 Z : Addr → Prop} {env0 env : Env} {r : Rv} {v : V}

theorem tB.last {m : ME} {Q : Bool → Hp → Prop} (M : Mid X.K fa σ H0 Z0 env0 H Z env) (h : match ev G m env with
  | .ok p => match truR p.1 p.2 with
    | some k => ∀ Z' H', Mid X.K fa σ H0 Z0 env0 H' Z' p.1 → Q k H'
    | none => False
  | .ex c a => ∀ Mu' Z' H', Stp (Own σ env0) Z0 H0 Mu' Z' H' → XX c a σ H'
  | .bad => False) : tB X.K fa XX G m σ H Q := by
  refine ⟨Z, env, M.ok, ?_⟩
  revert h
  cases ev G m env with
  | bad => exact fun z => z
  | ex c a => exact fun z Mu' Z' H' s => z Mu' Z' H' (M.st.trans s)
  | ok p =>
    dsimp only
    cases truR p.1 p.2 with
    | none => exact fun z => z
    | some k => exact fun z Z' H' n => z Z' H' (M.trans n)
theorem tw_and {Q : Bool → Hp → Prop} (h : tB X.K fa XX G (.and ma mb) σ H Q) : tAnd (tB X.K fa XX G ma) (tB X.K fa XX G mb) σ H Q := by
  obtain ⟨Z, env, ok, h⟩ := h
  refine ⟨Z, env, ok, ?_⟩
  unfold ev at h
  revert h
  cases ev G ma env with
  | bad => exact fun z => z
  | ex c a => exact fun z => z
  | ok p =>
    simp only [Rs.bind]
    cases ht : truR p.1 p.2 with
    | none => exact fun z => z
    | some k =>
      cases k with
      | true => exact fun z Z' H' n => iteT (tB.last n z)
      | false =>
        intro z Z' H' n
        dsimp only at z
        rw [ht] at z
        exact iteF (z Z' H' n)
theorem tw_or {Q : Bool → Hp → Prop} (h : tB X.K fa XX G (.or ma mb) σ H Q) : tOr (tB X.K fa XX G ma) (tB X.K fa XX G mb) σ H Q := by
  obtain ⟨Z, env, ok, h⟩ := h
  refine ⟨Z, env, ok, ?_⟩
  unfold ev at h
  revert h
  cases ev G ma env with
  | bad => exact fun z => z
  | ex c a => exact fun z => z
  | ok p =>
    simp only [Rs.bind]
    cases ht : truR p.1 p.2 with
    | none => exact fun z => z
    | some k =>
      cases k with
      | false => exact fun z Z' H' n => iteF (tB.last n z)
      | true =>
        intro z Z' H' n
        dsimp only at z
        rw [ht] at z
        exact iteT (z Z' H' n)
theorem w_and {rest : List Expr} (ha : PT X a (tB X.K fa XX G ma)) (hb : PW X (.BoolOp .And (b :: rest) pos) (tB X.K fa XX G mb)) : PW X (.BoolOp .And (a :: b :: rest) pos) (tB X.K fa XX G (.and ma mb)) :=
  ⟨fun whole pins s σ H Q I h => (pw_and ha hb).run whole pins s σ H Q I (tw_and h)⟩
theorem w_or {rest : List Expr} (ha : PT X a (tB X.K fa XX G ma)) (hb : PW X (.BoolOp .Or (b :: rest) pos) (tB X.K fa XX G mb)) : PW X (.BoolOp .Or (a :: b :: rest) pos) (tB X.K fa XX G (.or ma mb)) :=
  ⟨fun whole pins s σ H Q I h => (pw_or ha hb).run whole pins s σ H Q I (tw_or h)⟩
theorem w_and1 (ha : PT X a (tB X.K fa XX G ma)) : PW X (.BoolOp .And [a] pos) (tB X.K fa XX G ma) := pw_and1 ha
theorem w_or1 (ha : PT X a (tB X.K fa XX G ma)) : PW X (.BoolOp .Or [a] pos) (tB X.K fa XX G ma) := pw_or1 ha
theorem b_not (ha : PT X a (tB X.K fa XX G ma)) : PT X (.UnaryOp .Not a pos) (tB X.K fa XX G (.not ma)) := by
  refine PT.weak (pt_not ha) fun σ H Q h => ?_
  obtain ⟨Z, env, ok, h⟩ := h
  refine ⟨Z, env, ok, ?_⟩
  unfold ev at h
  revert h
  cases ev G ma env with
  | bad => exact fun z => z
  | ex c a => exact fun z => z
  | ok p =>
    simp only [Rs.bind]
    cases ht : truR p.1 p.2 with
    | none => exact fun z => z
    | some k => exact fun z => z
theorem s_ife {t : Expr} {mt : ME} (ht : PT X t (tB X.K fa XX G mt)) (ha : PE X a (tE X.K fa XX G ma)) (hb : PE X b (tE X.K fa XX G mb)) : PE X (.IfExp t a b pos) (tE X.K fa XX G (.ife mt ma mb)) := by
  refine PE.weak (pe_ifExp ht ha hb) fun σ H Q ⟨Z, env, ok, h⟩ => ?_
  refine ⟨Z, env, ok, ?_⟩
  unfold ev at h
  revert h
  cases ev G mt env with
  | bad => exact fun z => z
  | ex c a => exact fun z => z
  | ok p =>
    simp only [Rs.bind]
    cases ht : truR p.1 p.2 with
    | none => exact fun z => z
    | some k =>
      cases k with
      | true => exact fun z Z' H' n => iteT (Fin.last n z)
      | false => exact fun z Z' H' n => iteF (Fin.last n z)

/-! ### subscripts, slices -/
theorem atI_map {K : PySem.W.Frag} {H : Hp} {Z : Addr → Prop} {vs : List V} {ds : List PyData} {i : Int} {z : PyData} (f : FzAll K H Z vs ds) (h : L2.atI ds i = some z) : ∃ v, L2.atI vs i = some v ∧ Fz K H Z v z := by
  unfold L2.atI at h ⊢
  rw [f.length]
  cases hj : L2.ixN ds.length i with
  | none => rw [hj] at h; cases h
  | some j =>
    rw [hj] at h
    exact f.get h
theorem s_sub (ha : PE X a (tE X.K fa XX G ma)) (hb : PE X b (tE X.K fa XX G mb)) (hs : PlainIx b) : PE X (.Subscript a b pos) (tE X.K fa XX G (.sub ma mb)) := by
  refine PE.weak (pe_ix ix_seq ha hb hs) fun σ H Q ⟨Z, env, ok, h⟩ => ?_
  unfold ev at h
  refine tM.mono (two (k := fun e x y => (ofO (opSub x y)).bind fun z => .ok (e, .v z)) ok h) fun x H1 h1 => tM.mono h1 fun y H2 ⟨Z2, env2, dx, dy, M, d1, d2, hf⟩ => ?_
  cases hr : opSub dx dy with
  | none => rw [hr] at hf; exact hf.elim
  | some z =>
    rw [hr] at hf
    cases dx <;> cases dy <;> simp only [opSub] at hr <;> try (cases hr; done)
    · obtain ⟨p, vs, rfl, hp, f⟩ := d1.list
      obtain ⟨u, hu, fu⟩ := atI_map f hr
      exact .inl ⟨p, vs, _, u, rfl, d2.int, .inl (.inl hp), hu, hf Z2 H2 u M fu⟩
    · obtain ⟨p, vs, rfl, hp, f⟩ := d1.tuple
      obtain ⟨u, hu, fu⟩ := atI_map f hr
      exact .inr (.inl ⟨p, vs, _, u, rfl, d2.int, hp, hu, hf Z2 H2 u M fu⟩)
/-- an optional part of a slice -/
def tO (K : PySem.W.Frag) (fa : Nat → V → Prop) (XX : XW) (G : Tab) (o : Option ME) : TO := fun σ H Q => ∃ Z env, Eok K fa H Z σ env ∧ match evo G o env with
  | .ok p => ∀ Z' H', Mid K fa σ H Z env H' Z' p.1 → Q p.2 H'
  | .ex c a => ∀ Mu' Z' H', Stp (Own σ env) Z H Mu' Z' H' → XX c a σ H'
  | .bad => False
structure POm (X : Cx) (fa : Nat → V → Prop) (XX : XW) (G : Tab) (e : Option Expr) (o : Option ME) : Prop where
  po : PO X e (tO X.K fa XX G o)
theorem PO.weak {e : Option Expr} {t t' : TO} (h : PO X e t) (w : ∀ σ H Q, t' σ H Q → t σ H Q) : PO X e t' := ⟨fun pins s σ H Q I q => h.run pins s σ H Q I (w σ H Q q)⟩
theorem o_none : PO X none (tO X.K fa XX G none) := PO.weak po_none fun σ H Q ⟨Z, env, ok, h⟩ => h Z H (.refl ok)
theorem o_some (ha : PE X a (tE X.K fa XX G ma)) : PO X (some a) (tO X.K fa XX G (some ma)) := by
  refine PO.weak (po_some ha) fun σ H Q ⟨Z, env, ok, h⟩ => ?_
  refine ⟨Z, env, ok, ?_⟩
  unfold evo at h
  revert h
  cases ev G ma env with
  | bad => exact fun z => z
  | ex c a => exact fun z => z
  | ok p =>
    obtain ⟨e1, r⟩ := p
    simp only [Rs.bind]
    cases r with
    | v x =>
      cases x with
      | int i =>
        intro z Z' H' u n hr
        cases (show Fz X.K H' Z' u (.int i) from hr)
        exact ⟨i, rfl, z Z' H' n⟩
      | _ => exact fun z => z.elim
    | _ => exact fun z => z.elim
theorem tO.first {o : Option ME} {Q : Option Int → Hp → Prop} {Q' : VK} {k : Env × Option Int → Rs (Env × Rv)} (M : Mid X.K fa σ H0 Z0 env0 H Z env) (h : Fin X.K fa XX σ H0 Z0 env0 ((evo G o env).bind k) Q')
    (g : ∀ Z1 H1 env1 i, Mid X.K fa σ H0 Z0 env0 H1 Z1 env1 → Mid X.K fa σ H Z env H1 Z1 env1 → Fin X.K fa XX σ H0 Z0 env0 (k (env1, i)) Q' → Q i H1) : tO X.K fa XX G o σ H Q := by
  refine ⟨Z, env, M.ok, ?_⟩
  revert h
  cases evo G o env with
  | bad => exact fun z => z
  | ex c a => exact fun z Mu' Z' H' s => z Mu' Z' H' (M.st.trans s)
  | ok p => exact fun z Z' H' n => g Z' H' p.1 p.2 (M.trans n) n z
theorem s_slc {lo hi : Option Expr} {ml mh : Option ME} {p2 : Pos} (ha : PE X a (tE X.K fa XX G ma)) (hl : PO X lo (tO X.K fa XX G ml)) (hh : PO X hi (tO X.K fa XX G mh)) : PE X (.Subscript a (.Slice lo hi none p2) pos) (tE X.K fa XX G (.slc ma ml mh)) := by
  refine PE.weak (pe_slice (SlR.or sl_list sl_tupA) ha hl hh) fun σ H Q ⟨Z, env, ok, h⟩ => ?_
  unfold ev at h
  refine tM.mono (Fin.first (.refl ok) h) fun x H1 ⟨Z1, env1, ra, M1, m1, r1, h1⟩ => ?_
  refine tO.first M1 h1 fun Z2 H2 env2 i M2 m2 h2 => ?_
  refine tO.first M2 h2 fun Z3 H3 env3 j M3 m3 h3 => ?_
  dsimp only at h3
  cases hd : dat env3 ra with
  | none => rw [hd] at h3; exact h3.elim
  | some d =>
    rw [hd] at h3
    have d3 := (RvOk.on M1 (m2.trans m3) r1).ds M3.ok hd
    cases d <;> simp only [opSlc, ofO, Rs.bind] at h3 <;> try (exact h3.elim)
    · obtain ⟨p, vs, rfl, hp, f⟩ := d3.list
      have w := Fin.wsh M3 h3 (.inr ⟨_, rfl⟩)
      exact .inl ⟨p, vs, rfl, .inl (.inl hp), fun q hq => w _ f.cut q hq⟩
    · rename_i ys
      obtain ⟨p, vs, rfl, hp, f⟩ := d3.tuple
      have w := Fin.wsh M3 h3 (.inl ⟨_, rfl⟩)
      refine .inr ⟨p, vs, rfl, hp, fun hw => w.1 _ ?_, fun _ q hq => w.2 _ _ rfl f.cut q hq⟩
      refine .tup hp ?_
      have e : Ev.cut ys i j = ys := by
        unfold Ev.cut
        rw [← f.length, hw.1, hw.2, List.drop_zero, Nat.sub_zero, f.length, List.take_length]
      rw [e]
      exact f
theorem s_rev {k : Nat} {p1 p2 p3 : Pos} (ha : PE X a (tE X.K fa XX G ma)) (hT : ∀ te : TE, PE X a te → PE X (.Subscript a (.Slice none none (some (.UnaryOp .USub (.Constant (.int 1) k p1) p2)) p3) pos)
    (fun σ H Q => te σ H fun x H1 => (∃ q xs, x = .ref q ∧ SqL X.K H1 q xs ∧ ∀ p, H1 p = none → Q (.ref p) (upd H1 p (.lst xs.reverse))) ∨ ∃ q xs, x = .ref q ∧ SqT X.K H1 q xs ∧ ∀ p, H1 p = none → Q (.ref p) (upd H1 p (.tup xs.reverse)))) :
    PE X (.Subscript a (.Slice none none (some (.UnaryOp .USub (.Constant (.int 1) k p1) p2)) p3) pos) (tE X.K fa XX G (.rev ma)) := by
  refine PE.weak (hT _ ha) fun σ H Q ⟨Z, env, ok, h⟩ => ?_
  unfold ev at h
  refine tM.mono (one ok h) fun x H1 ⟨Z1, env1, ra, M, r1, hf⟩ => ?_
  dsimp only at hf
  cases hd : dat env1 ra with
  | none => rw [hd] at hf; exact hf.elim
  | some d =>
    rw [hd] at hf
    have d1 := r1.ds M.ok hd
    cases d <;> simp only at hf <;> try (exact hf.elim)
    · obtain ⟨p, vs, rfl, hp, f⟩ := d1.list
      have w := Fin.wsh M hf (.inr ⟨_, rfl⟩)
      exact .inl ⟨p, vs, rfl, .inl (.inl hp), fun q hq => w _ f.rev q hq⟩
    · obtain ⟨p, vs, rfl, hp, f⟩ := d1.tuple
      have w := Fin.wsh M hf (.inl ⟨_, rfl⟩)
      exact .inr ⟨p, vs, rfl, hp, fun q hq => w.2 _ _ rfl f.rev q hq⟩
end
namespace RevT
section
variable {prog : Program} {w : World} {A : Around} {E : Value → Shared → Prop} {s : Shared}
theorem adj (n : Nat) : Builtin.Slice.sliceAdjust none none (-1) (n : Int) = ((n : Int) - 1, -1) := by
  unfold Builtin.Slice.sliceAdjust
  simp only [show ((-1 : Int) < 0) from by decide, if_true]
theorem plcs (n : Nat) : Builtin.Slice.slicePlaces ((n : Int) - 1) (-1) (-1) = n := by
  unfold Builtin.Slice.slicePlaces
  have h1 : ¬ ((-1 : Int) > 0) := by decide
  simp only [h1, if_false]
  split
  · rw [show -(-1 : Int) = 1 from rfl, Int.ediv_one]; omega
  · omega
theorem back (xs : Array Value) : ((List.range xs.size).filterMap fun (m : Nat) => xs[((xs.size : Int) - 1 + (m : Int) * (-1)).toNat]?).toArray = xs.toList.reverse.toArray := by
  congr 1
  have e : (List.range xs.size).filterMap (fun (m : Nat) => xs[((xs.size : Int) - 1 + (m : Int) * (-1)).toNat]?) = (List.range xs.size).filterMap fun m => (xs.toList.reverse)[m]? := by
    have cg : ∀ (l : List Nat) (f g : Nat → Option Value), (∀ m ∈ l, f m = g m) → l.filterMap f = l.filterMap g := by
      intro l f g
      induction l with
      | nil => intro _; rfl
      | cons x l ih =>
        intro hl
        rw [List.filterMap_cons, List.filterMap_cons, hl x (by simp), ih fun m hm => hl m (by simp [hm])]
    refine cg _ _ _ fun m hm => ?_
    have hm := List.mem_range.mp hm
    have q : ((xs.size : Int) - 1 + (m : Int) * (-1)).toNat = xs.size - 1 - m := by omega
    rw [q, List.getElem?_reverse (by simpa using hm)]
    simp
  rw [e]
  have l : xs.toList.reverse.length = xs.size := by simp
  rw [← l]
  generalize xs.toList.reverse = ys
  induction ys with
  | nil => rfl
  | cons y ys ih =>
    rw [List.length_cons, List.range_succ_eq_map, List.filterMap_cons]
    show y :: (List.map Nat.succ (List.range ys.length)).filterMap (fun m => (y :: ys)[m]?) = _
    rw [List.filterMap_map]
    exact congrArg (y :: ·) ih
theorem applied {sl : Addr} {vl vu vs : Value} {n : Nat} {Q : Int × Int × Nat → Shared → Prop} (hs : s.heap.IsSliceOf sl vl vu vs) (pl : IsPart vl none) (pu : IsPart vu none) (ps : IsPart vs (some (-1)))
    (h : Q ((n : Int) - 1, -1, n) s) : wpAny (model prog w) A (Builtin.Slice.sliceApplied (.ref sl) (pure (n : Int))) Q E s := by
  obtain ⟨os, hos, hcs, hds⟩ := id hs
  unfold Builtin.Slice.sliceApplied Builtin.Slice.sliceFields
  refine wpAny_bind (wpAny_bind (wpAny_field hos hds (x := vl) rfl (wpAny_bind (wpAny_field hos hds (x := vu) rfl (wpAny_bind (wpAny_field hos hds (x := vs) rfl (wpAny_pure ?_)))))))
  refine wpAny_bind (HT.slicePart_ ps ?_)
  show wpAny _ _ (if ((-1 : Int) == 0) = true then _ else _) _ _ s
  rw [if_neg (by decide)]
  refine wpAny_bind (HT.slicePart_ pl (wpAny_bind (HT.slicePart_ pu (wpAny_bind (wpAny_pure ?_)))))
  show wpAny _ _ (match Builtin.Slice.sliceAdjust none none (-1) (n : Int) with | (lo, hi) => pure (lo, (-1 : Int), Builtin.Slice.slicePlaces lo hi (-1))) _ _ s
  rw [adj n]
  show wpAny _ _ (pure ((n : Int) - 1, (-1 : Int), Builtin.Slice.slicePlaces ((n : Int) - 1) (-1) (-1))) _ _ s
  rw [plcs]
  exact wpAny_pure h
theorem getRev {t sl : Addr} {items : Array Value} {vl vu vs : Value} {Q : Value → Shared → Prop} (ht : IsTup s.heap t items) (hs : s.heap.IsSliceOf sl vl vu vs) (pl : IsPart vl none) (pu : IsPart vu none) (ps : IsPart vs (some (-1)))
    (h : Q (.ref s.heap.objs.size) { s with heap := s.heap.push { cls := .type "tuple", data := .seq items.toList.reverse.toArray } }) (hsz : items.size ≤ sizeLine) : wpAny (model prog w) A (getItem (.ref t) (.ref sl)) Q E s := by
  have hok : sizeOk (.seq items.toList.reverse.toArray) := by
    show items.toList.reverse.toArray.size ≤ sizeLine
    rw [List.size_toArray, List.length_reverse, Array.length_toList]
    exact hsz
  obtain ⟨os, hos, hcs, hds⟩ := id hs
  have isS : s.TypeIs (.ref sl) "slice" := ⟨os, hos, hcs⟩
  unfold getItem
  try with_reducible refine wpAny_holding ?_
  first | refine wpAny_bind (wpAny_pure ?_) | skip
  refine wpAny_bind (wpAny_sequenceKey ht.typeIs (by decide) ?_)
  refine wpAny_bind (wpAny_callSpecial?_slot (name := Str.ofString "__getitem__") ht.typeIs PyProof.Rows.slot_tuple_getitem
    (wpAny_call_entry PyProof.Rows.slot_tuple_getitem ht.typeIs entry_tuple_getitem ?_ (args_tuple_getitem _ _)))
  show wpAny _ _ (Builtin.Tuple.tupleItemsOf (.ref t) >>= _) _ _ s
  refine wpAny_bind (tupleItemsOf_ ht ?_)
  refine wpAny_bind (wpAny_typeOf isS ?_)
  rw [if_pos (by decide)]
  refine wpAny_bind (applied hs pl pu ps ?_)
  have no : ¬ ((((items.size : Int) - 1) == 0 && (-1 : Int) == 1 && items.size == items.size) = true) := by
    intro q
    rw [Bool.and_eq_true, Bool.and_eq_true] at q
    exact absurd (eq_of_beq q.1.2) (by decide)
  show wpAny _ _ (if (((items.size : Int) - 1) == 0 && (-1 : Int) == 1 && items.size == items.size) = true then _ else _) _ _ s
  rw [if_neg no, back]
  first
    | exact wpAny_bind (m := Builtin.Tuple.tupleExact _) (wpAny_newObj_type (wpAny_pure ⟨_, rfl, wpAny_pure h⟩) hok)
    | exact wpAny_bind (m := Builtin.Tuple.tupleExact _) (wpAny_newObj_type (wpAny_bind (wpAny_pure (wpAny_pure ⟨_, rfl, wpAny_pure h⟩))) hok)
    | exact wpAny_bind (wpAny_bind (m := Builtin.Tuple.tupleExact _) (wpAny_newObj_type (wpAny_pure (wpAny_pure ⟨_, rfl, wpAny_pure h⟩)) hok))
    | exact wpAny_bind (wpAny_bind (m := Builtin.Tuple.tupleExact _) (wpAny_newObj_type (wpAny_pure ⟨_, rfl, wpAny_pure h⟩) hok))
end
end RevT
section
variable {X : Cx} {fa : Nat → V → Prop} {XX : XW} {G : Tab} {a : Expr} {ma : ME} {pos : Pos}
/-- a[::-1] of a list, of a tuple -/
theorem pe_revB {te : TE} {k : Nat} {p1 p2 p3 : Pos} (pa : PE X a te) : PE X (.Subscript a (.Slice none none (some (.UnaryOp .USub (.Constant (.int 1) k p1) p2)) p3) pos)
    (fun σ H Q => te σ H fun x H1 => (∃ q xs, x = .ref q ∧ SqL X.K H1 q xs ∧ ∀ p, H1 p = none → Q (.ref p) (upd H1 p (.lst xs.reverse))) ∨ ∃ q xs, x = .ref q ∧ SqT X.K H1 q xs ∧ ∀ p, H1 p = none → Q (.ref p) (upd H1 p (.tup xs.reverse))) := by
  refine ⟨fun pins s σ H Q I h => ?_⟩
  refine Subscript_ (thn (pa.run pins s σ H _ I h) fun va t1 ⟨x, G1, J1, k1, w1⟩ => ?_)
  have hst : PO X (some (.UnaryOp .USub (.Constant (.int 1) k p1) p2)) (tPart (tUn (rU fun i => .int (-i)) (tC (.int 1)))) := po_some (pe_un un_neg pe_int)
  refine wpAny_Slice (thn (po_none.run pins t1 σ G1 (fun o G2 => o = none ∧ G2 = G1) J1 ⟨rfl, rfl⟩) fun vl t2 ⟨l, G2, J2, pl, el, e2⟩ => ?_)
  subst el e2
  refine thn (po_none.run pins t2 σ G2 (fun o G3 => o = none ∧ G3 = G2) J2 ⟨rfl, rfl⟩) fun vu t3 ⟨u, G3, J3, pu, eu, e3⟩ => ?_
  subst eu e3
  refine thn (hst.run pins t3 σ G3 (fun o G4 => o = some (-1) ∧ G4 = G3) J3 ⟨1, rfl, -1, rfl, rfl, rfl⟩) fun vs t4 ⟨o, G4, J4, ps, eo, e4⟩ => ?_
  subst eo e4
  have J5 : Inv X pins σ G4 { t4 with heap := t4.heap.push { cls := .type "slice", data := .fields #[vl, vu, vs] } } := J4.kept (t' := t4.toks) fun b ob q => Heap.get?_push_of_some _ q
  rcases w1 with ⟨a', xs, ex, hx, q⟩ | ⟨a', xs, ex, hx, q⟩
  · subst ex
    cases k1
    obtain ⟨its, r, ht, hz⟩ := J5.list hx
    have hlen := r.length
    show wpAny (model X.prog X.w) X.A (subscriptTail a (.Slice none none (some (.UnaryOp .USub (.Constant (.int 1) k p1) p2)) p3) (.ref a') (.ref t4.heap.objs.size)) (EP X pins σ Q) X.xe { t4 with heap := t4.heap.push { cls := .type "slice", data := .fields #[vl, vu, vs] } }
    refine tail_any (ops := [.ref a', .ref t4.heap.objs.size]) ht.isList.typeIs (PySem.slot_list_getitem.lookup) ?_ (by with_unfolding_all rfl)
    refine wpAny_getItem_list_slice ht.isList (Heap.IsSliceOf.new _ vl vu vs) pl pu ps (by decide) ?_ (by rw [List.size_toArray]; omega)
    rw [PySem.W.krv_pick]
    refine ⟨.ref _, _, J5.laid (t' := t4.toks) (o := .lst xs.reverse) (fun b ob q => Heap.get?_push_of_some _ q) (Nat.le_refl _) ?_, rfl, q _ (J5.hok.fresh (Nat.le_refl _))⟩
    exact ⟨by rw [List.length_reverse]; exact hz, _, 0, r.reverse, Heap.get?_push_size _ rfl⟩
  · subst ex
    cases k1
    obtain ⟨its, r, ht, hz⟩ := J5.tuple hx
    have hlen := r.length
    show wpAny (model X.prog X.w) X.A (subscriptTail a (.Slice none none (some (.UnaryOp .USub (.Constant (.int 1) k p1) p2)) p3) (.ref a') (.ref t4.heap.objs.size)) (EP X pins σ Q) X.xe { t4 with heap := t4.heap.push { cls := .type "slice", data := .fields #[vl, vu, vs] } }
    refine tail_any (ops := [.ref a', .ref t4.heap.objs.size]) ht.typeIs (PyProof.Rows.slot_tuple_getitem.lookup) ?_ (by with_unfolding_all rfl)
    refine RevT.getRev ht (Heap.IsSliceOf.new _ vl vu vs) pl pu ps ?_ (by rw [List.size_toArray]; omega)
    refine ⟨.ref _, _, J5.laid (t' := t4.toks) (o := .tup xs.reverse) (fun b ob q => Heap.get?_push_of_some _ q) (Nat.le_refl _) ?_, rfl, q _ (J5.hok.fresh (Nat.le_refl _))⟩
    exact ⟨by rw [List.length_reverse]; exact hz, _, r.reverse, _, Heap.get?_push_size _ rfl, rfl, _, rfl⟩
theorem s_rev2 {k : Nat} {p1 p2 p3 : Pos} (ha : PE X a (tE X.K fa XX G ma)) : PE X (.Subscript a (.Slice none none (some (.UnaryOp .USub (.Constant (.int 1) k p1) p2)) p3) pos) (tE X.K fa XX G (.rev ma)) := s_rev ha fun _ p => pe_revB p
end
end Ev

/-! Ev, part I: built-ins of one and of two. -/
namespace Ev
open PySem L2 PyProof.Rows

/-! ### plain laws of least, most, isort -/
theorem least_mem : ∀ (m : Int) (r : List Int), least m r ∈ m :: r
  | m, [] => by simp [least]
  | m, j :: r => by
    unfold least
    have := least_mem (if j < m then j else m) r
    split at this <;> rename_i h
    · rw [if_pos h]; exact List.mem_cons_of_mem _ this
    · rw [if_neg h]
      rcases List.mem_cons.mp this with e | e
      · rw [e]; exact List.mem_cons_self
      · exact List.mem_cons_of_mem _ (List.mem_cons_of_mem _ e)
theorem least_le : ∀ (m : Int) (r : List Int), ∀ y ∈ m :: r, least m r ≤ y
  | m, [], y, h => by simp [least] at h ⊢; omega
  | m, j :: r, y, h => by
    unfold least
    have ih := least_le (if j < m then j else m) r
    have h0 := ih _ List.mem_cons_self
    rcases List.mem_cons.mp h with e | h
    · subst e; split at h0 <;> rename_i q
      · rw [if_pos q]; omega
      · rw [if_neg q]; exact h0
    · rcases List.mem_cons.mp h with e | h
      · subst e; split at h0 <;> rename_i q
        · rw [if_pos q]; exact h0
        · rw [if_neg q]; omega
      · exact ih _ (List.mem_cons_of_mem _ h)
theorem most_mem : ∀ (m : Int) (r : List Int), most m r ∈ m :: r
  | m, [] => by simp [most]
  | m, j :: r => by
    unfold most
    have := most_mem (if m < j then j else m) r
    split at this <;> rename_i h
    · rw [if_pos h]; exact List.mem_cons_of_mem _ this
    · rw [if_neg h]
      rcases List.mem_cons.mp this with e | e
      · rw [e]; exact List.mem_cons_self
      · exact List.mem_cons_of_mem _ (List.mem_cons_of_mem _ e)
theorem most_ge : ∀ (m : Int) (r : List Int), ∀ y ∈ m :: r, y ≤ most m r
  | m, [], y, h => by simp [most] at h ⊢; omega
  | m, j :: r, y, h => by
    unfold most
    have ih := most_ge (if m < j then j else m) r
    have h0 := ih _ List.mem_cons_self
    rcases List.mem_cons.mp h with e | h
    · subst e; split at h0 <;> rename_i q
      · rw [if_pos q]; omega
      · rw [if_neg q]; exact h0
    · rcases List.mem_cons.mp h with e | h
      · subst e; split at h0 <;> rename_i q
        · rw [if_pos q]; exact h0
        · rw [if_neg q]; omega
      · exact ih _ (List.mem_cons_of_mem _ h)
theorem minOf_least : ∀ (r : List Int) (m : Int), W.minOf m r = least m r
  | [], m => rfl
  | j :: r, m => by
    show W.minOf (if decide (j < m) = true then j else m) r = _
    rw [minOf_least r, least]
    by_cases h : j < m <;> simp [h]
theorem maxOf_most : ∀ (r : List Int) (m : Int), W.maxOf m r = most m r
  | [], m => rfl
  | j :: r, m => by
    show W.maxOf (if decide (m < j) = true then j else m) r = _
    rw [maxOf_most r, most]
    by_cases h : m < j <;> simp [h]
theorem ins_perm (i : Int) : ∀ r : List Int, (ins i r).Perm (i :: r)
  | [] => .refl _
  | j :: r => by
    unfold ins
    split
    · exact .refl _
    · exact ((ins_perm i r).cons j).trans (.swap i j r)
theorem isort_perm : ∀ r : List Int, (isort r).Perm r
  | [] => .refl _
  | i :: r => (ins_perm i _).trans ((isort_perm r).cons i)
theorem ins_pw (i : Int) : ∀ r : List Int, r.Pairwise (· ≤ ·) → (ins i r).Pairwise (· ≤ ·)
  | [], _ => by simp [ins]
  | j :: r, h => by
    unfold ins
    obtain ⟨h1, h2⟩ := List.pairwise_cons.mp h
    split
    · rename_i q
      exact List.pairwise_cons.mpr ⟨fun y hy => by
        rcases List.mem_cons.mp hy with e | hy
        · rw [e]; exact q
        · exact Int.le_trans q (h1 y hy), h⟩
    · rename_i q
      refine List.pairwise_cons.mpr ⟨fun y hy => ?_, ins_pw i r h2⟩
      rcases List.mem_cons.mp ((ins_perm i r).mem_iff.mp hy) with e | hy
      · omega
      · exact h1 y hy
theorem isort_pw : ∀ r : List Int, (isort r).Pairwise (· ≤ ·)
  | [] => .nil
  | i :: r => ins_pw i _ (isort_pw r)
theorem pw_uniq : ∀ {a b : List Int}, a.Perm b → a.Pairwise (· ≤ ·) → b.Pairwise (· ≤ ·) → a = b
  | [], b, p, _, _ => by simpa using p.symm
  | x :: a, [], p, _, _ => by simpa using p
  | x :: a, y :: b, p, ha, hb => by
    obtain ⟨a1, a2⟩ := List.pairwise_cons.mp ha
    obtain ⟨b1, b2⟩ := List.pairwise_cons.mp hb
    have e : x = y := by
      have h1 : x ∈ y :: b := p.mem_iff.mp List.mem_cons_self
      have h2 : y ∈ x :: a := p.mem_iff.mpr List.mem_cons_self
      rcases List.mem_cons.mp h1 with e | h1
      · exact e
      · rcases List.mem_cons.mp h2 with e | h2
        · exact e.symm
        · have := a1 y h2; have := b1 x h1; omega
    subst e
    rw [pw_uniq p.cons_inv a2 b2]

/-! ### tuples of ints: sum, min, max -/
theorem holdInts {h : Heap} : ∀ {vs : List Value} {ns : List Int}, IntsAre vs ns → W.HoldAll h vs ns
  | _, _, .nil => W.HoldAll.nil
  | _, _, .cons n t r => W.HoldAll.cons ⟨_, .int n t⟩ (holdInts r)
section
variable {X : Cx}
theorem cr_sumT (hc : X.calm = true) : CallR X (.builtin "sum") (fun vs H Q => ∃ (a : Addr) (ns : List Int), vs = [V.ref a] ∧ SqT X.K H a (ns.map V.int) ∧ Q (.int ns.sum) H) := by
  intro pins s σ H vs us Q I r h
  obtain ⟨a, ns, rfl, hs, q⟩ := h
  obtain ⟨its, rv, hl, _⟩ := I.tuple hs
  rw [Vals.ref1 r]
  obtain ⟨xs, e⟩ := rv.ints.allInts.items
  have hn : numsOf (intItems xs).toList = ns := by rw [← e]; exact rv.ints.numsOf
  rw [nums_intItems] at hn
  rw [e] at hl
  refine PySem.W.ktm_sumG (I.ok.hd hc) hl fun h' tk t' hk => ?_
  rw [preSum_eq, List.take_of_length_le (by simp), hn]
  exact ⟨.int _, H, I.kept hk, ⟨_, rfl⟩, q⟩
theorem cr_minT (hc : X.calm = true) (hu : X.A.units + 65 < cLine) : CallR X (.builtin "min") (fun vs H Q => ∃ (a : Addr) (i : Int) (r : List Int), vs = [V.ref a] ∧ SqT X.K H a ((i :: r).map V.int) ∧ Q (.int (least i r)) H) := by
  intro pins s σ H vs us Q I r h
  obtain ⟨a, i, ns, rfl, hs, q⟩ := h
  obtain ⟨its, rv, hl, _⟩ := I.tuple hs
  rw [Vals.ref1 r]
  refine W.min_tuple_datum (α := Int) (x := i) (xs := ns) (I.ok.hd hc) hl (holdInts rv.ints) (by show X.A.units + 1 + 0 < cLine; omega) fun j v h' tk hj ⟨as, hr⟩ hk => ?_
  cases hr
  rw [minOf_least]
  exact ⟨.int _, H, I.kept hk, ⟨_, rfl⟩, q⟩
theorem cr_maxT (hc : X.calm = true) (hu : X.A.units + 65 < cLine) : CallR X (.builtin "max") (fun vs H Q => ∃ (a : Addr) (i : Int) (r : List Int), vs = [V.ref a] ∧ SqT X.K H a ((i :: r).map V.int) ∧ Q (.int (most i r)) H) := by
  intro pins s σ H vs us Q I r h
  obtain ⟨a, i, ns, rfl, hs, q⟩ := h
  obtain ⟨its, rv, hl, _⟩ := I.tuple hs
  rw [Vals.ref1 r]
  refine W.max_tuple_datum (α := Int) (x := i) (xs := ns) (I.ok.hd hc) hl (holdInts rv.ints) (by show X.A.units + 1 + 0 < cLine; omega) fun j v h' tk hj ⟨as, hr⟩ hk => ?_
  cases hr
  rw [maxOf_most]
  exact ⟨.int _, H, I.kept hk, ⟨_, rfl⟩, q⟩

/-! ### one rule for each built-in of one -/
def rB1 (K : PySem.W.Frag) (o : B1) : List V → Hp → VK → Prop := fun xs H Q => ∃ x, xs = [x] ∧ rOp1 K (opB1 o) x H Q
theorem CallR.weak {f : Value} {r r' : List V → Hp → VK → Prop} (h : CallR X f r) (w : ∀ xs H Q, r' xs H Q → r xs H Q) : CallR X f r' := fun pins s σ H xs us Q I rs q => h pins s σ H xs us Q I rs (w _ _ _ q)
theorem b1_len : CallR X (.builtin "len") (rB1 X.K .len) := by
  refine CallR.weak (CallR.or call_len_seq call_len_str) fun xs H Q h => ?_
  obtain ⟨x, rfl, Z, dx, r, zl, hx, e, w⟩ := h
  cases dx <;> simp only [opB1] at e <;> try (cases e; done)
  · split at e
    · rename_i hl
      cases e
      exact .inr ⟨_, by rw [hx.str], hl, w.1 _ (.int _)⟩
    · cases e
  · cases e
    obtain ⟨a, vs, rfl, h1, f⟩ := hx.list
    exact .inl ⟨a, vs, rfl, .inl (.inl (.inl h1)), by rw [f.length]; exact w.1 _ (.int _)⟩
  · cases e
    obtain ⟨a, vs, rfl, h1, f⟩ := hx.tuple
    exact .inl ⟨a, vs, rfl, .inr h1, by rw [f.length]; exact w.1 _ (.int _)⟩
theorem trs_of {H : Hp} {Z : Addr → Prop} : ∀ {vs : List V} {ds : List PyData} {bs : List Bool}, FzAll X.K H Z vs ds → asTr ds = some bs → Paired TrV vs bs
  | _, _, _, .nil, e => by cases e; exact .nil
  | _, _, bs, .cons (d := d) h r, e => by
    cases d <;> try (simp [asTr] at e; done)
    · cases h
      simp only [asTr, Option.map_eq_some_iff] at e
      obtain ⟨js, e1, rfl⟩ := e
      exact .cons rfl (trs_of r e1)
    · cases h
      simp only [asTr, Option.map_eq_some_iff] at e
      obtain ⟨js, e1, rfl⟩ := e
      exact .cons rfl (trs_of r e1)
theorem b1_all (hc : X.calm = true) : CallR X (.builtin "all") (rB1 X.K .all) := by
  refine CallR.weak (cr_allX hc) fun xs H Q h => ?_
  obtain ⟨x, rfl, Z, dx, r, zl, hx, e, w⟩ := h
  cases dx <;> simp only [opB1, seqOf, Option.bind_none, Option.bind_some] at e <;> try (cases e; done)
  · obtain ⟨bs, e1, rfl⟩ := Option.map_eq_some_iff.mp e
    obtain ⟨a, vs, rfl, h1, f⟩ := hx.list
    exact ⟨a, vs, bs, rfl, .inl (.inl (.inl h1)), trs_of f e1, w.1 _ (.bl _)⟩
  · obtain ⟨bs, e1, rfl⟩ := Option.map_eq_some_iff.mp e
    obtain ⟨a, vs, rfl, h1, f⟩ := hx.tuple
    exact ⟨a, vs, bs, rfl, .inr h1, trs_of f e1, w.1 _ (.bl _)⟩
theorem b1_any (hc : X.calm = true) : CallR X (.builtin "any") (rB1 X.K .any) := by
  refine CallR.weak (cr_anyX hc) fun xs H Q h => ?_
  obtain ⟨x, rfl, Z, dx, r, zl, hx, e, w⟩ := h
  cases dx <;> simp only [opB1, seqOf, Option.bind_none, Option.bind_some] at e <;> try (cases e; done)
  · obtain ⟨bs, e1, rfl⟩ := Option.map_eq_some_iff.mp e
    obtain ⟨a, vs, rfl, h1, f⟩ := hx.list
    exact ⟨a, vs, bs, rfl, .inl (.inl (.inl h1)), trs_of f e1, w.1 _ (.bl _)⟩
  · obtain ⟨bs, e1, rfl⟩ := Option.map_eq_some_iff.mp e
    obtain ⟨a, vs, rfl, h1, f⟩ := hx.tuple
    exact ⟨a, vs, bs, rfl, .inr h1, trs_of f e1, w.1 _ (.bl _)⟩
theorem b1_sum (hc : X.calm = true) : CallR X (.builtin "sum") (rB1 X.K .sum) := by
  refine CallR.weak (CallR.or (cr_sum hc) (cr_sumT hc)) fun xs H Q h => ?_
  obtain ⟨x, rfl, Z, dx, r, zl, hx, e, w⟩ := h
  cases dx <;> simp only [opB1, seqOf, Option.bind_none, Option.bind_some] at e <;> try (cases e; done)
  · obtain ⟨is, e1, rfl⟩ := Option.map_eq_some_iff.mp e
    obtain ⟨a, vs, rfl, h1, f⟩ := hx.list
    obtain rfl := f.ints e1
    exact .inl ⟨a, is, rfl, .inl (.inl h1), w.1 _ (.int _)⟩
  · obtain ⟨is, e1, rfl⟩ := Option.map_eq_some_iff.mp e
    obtain ⟨a, vs, rfl, h1, f⟩ := hx.tuple
    obtain rfl := f.ints e1
    exact .inr ⟨a, is, rfl, h1, w.1 _ (.int _)⟩
theorem cr_minD (hc : X.calm = true) (hu : X.A.units + 65 < cLine) : CallR X (.builtin "min") (fun vs H Q => ∃ (a : Addr) (us : List V) (x : PyData) (xs : List PyData), vs = [V.ref a] ∧ (SqL X.K H a us ∨ SqT X.K H a us) ∧ DpAll X.K H us (x :: xs) ∧ W.AlikeAll (x :: xs) ∧ PyData.depthAll (x :: xs) ≤ 60 ∧
    ∀ (i : Nat) u, us[i]? = some u → (x :: xs)[i]? = some (W.minD x xs) → Q u H) := by
  intro pins s σ H vs ws Q I r h
  obtain ⟨a, us, x, xs, rfl, hs, hd, ha, hdep, q⟩ := h
  rw [Vals.ref1 r]
  have fin : ∀ (its : List Value), Vals us its → ∀ (i : Nat) v h' tk bs, its.toArray[i]? = some v → Reads h' v (W.minD x xs) bs → (∀ b o, s.heap.get? b = some o → h'.get? b = some o) → EP X pins σ Q v { s with heap := h', toks := tk } := by
    intro its rv i v h' tk bs hi rd hk
    obtain ⟨as, ra⟩ := Dp.readsAll I (x :: xs) us its hd rv
    have hi' : its[i]? = some v := by simpa using hi
    obtain ⟨cs, r1, l1, _, _⟩ := W.readsAll_at ra i v hi'
    have e := (PySem.Reads.unique (W.reads_keeps hk r1) _ _ rd).1
    have lu : us.length = its.length := rv.length
    have li : i < its.length := (List.getElem?_eq_some_iff.mp hi').1
    have hu : us[i]? = some us[i] := List.getElem?_eq_getElem (by omega)
    obtain ⟨w, e1, e2⟩ := rv.get hu
    rw [hi'] at e1
    cases e1
    refine ⟨us[i], H, I.kept hk, e2, q i _ hu ?_⟩
    rw [← e, List.getElem?_eq_getElem l1, List.getD_eq_getElem?_getD, List.getElem?_eq_getElem l1]
    rfl
  rcases hs with hs | hs
  · obtain ⟨its, rv, pl, _⟩ := I.list hs
    obtain ⟨as, ra⟩ := Dp.readsAll I (x :: xs) us its hd rv
    exact W.min_list_data (I.ok.hd hc) pl.isList (by simpa using ra) ha (by omega) fun i v h' tk bs hi rd hk => fin its rv i v h' tk bs hi rd hk
  · obtain ⟨its, rv, pl, _⟩ := I.tuple hs
    obtain ⟨as, ra⟩ := Dp.readsAll I (x :: xs) us its hd rv
    exact W.min_tuple_data (I.ok.hd hc) pl (by simpa using ra) ha (by omega) fun i v h' tk bs hi rd hk => fin its rv i v h' tk bs hi rd hk
theorem dmin_of {xs : List PyData} {r : Rv} (h : dmin xs = some r) : ∃ x ys, xs = x :: ys ∧ W.AlikeAll (x :: ys) ∧ PyData.depthAll (x :: ys) ≤ 60 ∧ r = .v (W.minD x ys) ∧ PyData.hasDictAll (x :: ys) = false := by
  cases xs with
  | nil => cases h
  | cons x ys =>
    by_cases hc : (((x :: ys).all fun a => (x :: ys).all fun b => W.alike a b) && ((x :: ys).all fun a => match a with | .none => false | _ => true) && decide (PyData.depthAll (x :: ys) ≤ 60) && !PyData.hasDictAll (x :: ys)) = true
    · have e : dmin (x :: ys) = some (.v (W.minD x ys)) := if_pos hc
      rw [e] at h
      cases h
      rw [Bool.and_eq_true, Bool.and_eq_true, Bool.and_eq_true, decide_eq_true_eq, Bool.not_eq_true'] at hc
      obtain ⟨⟨⟨h1, h2⟩, h3⟩, h4⟩ := hc
      refine ⟨x, ys, rfl, ⟨fun a ha b hb => ?_, fun a ha e => ?_⟩, h3, rfl, h4⟩
      · exact List.all_eq_true.mp (List.all_eq_true.mp h1 a ha) b hb
      · have := List.all_eq_true.mp h2 a ha
        rw [e] at this
        exact Bool.false_ne_true this
    · have e : dmin (x :: ys) = none := if_neg hc
      rw [e] at h
      cases h
theorem b1_min (hc : X.calm = true) (hu : X.A.units + 65 < cLine) : CallR X (.builtin "min") (rB1 X.K .min) := by
  refine CallR.weak (CallR.or (cr_min hc) (CallR.or (cr_minT hc hu) (cr_minD hc hu))) fun xs H Q h => ?_
  obtain ⟨x, rfl, Z, dx, r, zl, hx, e, w⟩ := h
  have big : ∀ {ys : List PyData} {us : List V} {a : Addr}, FzAll X.K H Z us ys → dmin ys = some r → (SqL X.K H a us ∨ SqT X.K H a us) → ∃ (a' : Addr) (us : List V) (x : PyData) (xs : List PyData), [V.ref a] = [V.ref a'] ∧ (SqL X.K H a' us ∨ SqT X.K H a' us) ∧ DpAll X.K H us (x :: xs) ∧ W.AlikeAll (x :: xs) ∧ PyData.depthAll (x :: xs) ≤ 60 ∧
      ∀ (i : Nat) u, us[i]? = some u → (x :: xs)[i]? = some (W.minD x xs) → Q u H := by
    intro ys us a f hm hs
    obtain ⟨x, zs, rfl, h1, h2, rfl, h3⟩ := dmin_of hm
    refine ⟨a, us, x, zs, rfl, hs, f.dp h3, h1, h2, fun i u hi hd => ?_⟩
    obtain ⟨d, e1, e2⟩ := f.getV hi
    rw [hd] at e1
    cases e1
    exact w.1 _ e2
  cases dx <;> simp only [opB1, seqOf, Option.bind_none, Option.bind_some] at e <;> try (cases e; done)
  · unfold minX at e
    obtain ⟨a, vs, rfl, h1, f⟩ := hx.list
    split at e
    · rename_i r' hm
      cases e
      unfold minI at hm
      obtain ⟨is, e1, e⟩ := Option.bind_eq_some_iff.mp hm
      obtain rfl := f.ints e1
      cases is with
      | nil => cases e
      | cons i is =>
        cases e
        refine .inl ⟨a, i :: is, rfl, .inl (.inl h1), by simp, fun m hm hy => ?_⟩
        have e2 : m = least i is := Int.le_antisymm (hy _ (least_mem i is)) (least_le i is _ hm)
        rw [e2]
        exact w.1 _ (.int _)
    · exact .inr (.inr (big f e (.inl (.inl (.inl h1)))))
  · unfold minX at e
    obtain ⟨a, vs, rfl, h1, f⟩ := hx.tuple
    split at e
    · rename_i r' hm
      cases e
      unfold minI at hm
      obtain ⟨is, e1, e⟩ := Option.bind_eq_some_iff.mp hm
      obtain rfl := f.ints e1
      cases is with
      | nil => cases e
      | cons i is =>
        cases e
        exact .inr (.inl ⟨a, i, is, rfl, h1, w.1 _ (.int _)⟩)
    · exact .inr (.inr (big f e (.inr h1)))
theorem b1_max (hc : X.calm = true) (hu : X.A.units + 65 < cLine) : CallR X (.builtin "max") (rB1 X.K .max) := by
  refine CallR.weak (CallR.or (cr_max hc) (cr_maxT hc hu)) fun xs H Q h => ?_
  obtain ⟨x, rfl, Z, dx, r, zl, hx, e, w⟩ := h
  cases dx <;> simp only [opB1, seqOf, Option.bind_none, Option.bind_some] at e <;> try (cases e; done)
  · obtain ⟨is, e1, e⟩ := Option.bind_eq_some_iff.mp e
    obtain ⟨a, vs, rfl, h1, f⟩ := hx.list
    obtain rfl := f.ints e1
    cases is with
    | nil => cases e
    | cons i is =>
      cases e
      refine .inl ⟨a, i :: is, rfl, .inl (.inl h1), by simp, fun m hm hy => ?_⟩
      have e2 : m = most i is := Int.le_antisymm (most_ge i is _ hm) (hy _ (most_mem i is))
      rw [e2]
      exact w.1 _ (.int _)
  · obtain ⟨is, e1, e⟩ := Option.bind_eq_some_iff.mp e
    obtain ⟨a, vs, rfl, h1, f⟩ := hx.tuple
    obtain rfl := f.ints e1
    cases is with
    | nil => cases e
    | cons i is =>
      cases e
      exact .inr ⟨a, i, is, rfl, h1, w.1 _ (.int _)⟩
theorem b1_sorted : CallR X (.builtin "sorted") (rB1 X.K .sorted) := by
  refine CallR.weak cr_sortedI fun xs H Q h => ?_
  obtain ⟨x, rfl, Z, dx, r, zl, hx, e, w⟩ := h
  cases dx <;> simp only [opB1] at e <;> try (cases e; done)
  obtain ⟨is, e1, rfl⟩ := Option.map_eq_some_iff.mp e
  obtain ⟨a, vs, rfl, h1, f⟩ := hx.list
  obtain rfl := f.ints e1
  refine ⟨a, is, rfl, .inl (.inl h1), fun ns' p p1 p2 hp => ?_⟩
  obtain rfl : ns' = isort is := pw_uniq (p1.trans (isort_perm is).symm) p2 (isort_pw is)
  exact w _ (FzAll.ofInts _) p hp
theorem b1_abs : CallR X (.builtin "abs") (rB1 X.K .abs) := by
  refine CallR.weak call_abs fun xs H Q h => ?_
  obtain ⟨x, rfl, Z, dx, r, zl, hx, e, w⟩ := h
  cases dx <;> simp only [opB1] at e <;> try (cases e; done)
  cases e
  exact ⟨_, by rw [hx.int], w.1 _ (.int _)⟩
theorem b1_int : CallR X (.type "int") (rB1 X.K .int) := by
  refine CallR.weak call_int1 fun xs H Q h => ?_
  obtain ⟨x, rfl, Z, dx, r, zl, hx, e, w⟩ := h
  cases dx <;> simp only [opB1] at e <;> try (cases e; done)
  · cases e
    exact .inr ⟨_, by rw [hx.bool], w.1 _ (.int _)⟩
  · cases e
    exact .inl ⟨_, by rw [hx.int], w.1 _ (.int _)⟩
theorem b1_tuple : CallR X (.type "tuple") (rB1 X.K .tuple) := by
  refine CallR.weak call_tuple_of fun xs H Q h => ?_
  obtain ⟨x, rfl, Z, dx, r, zl, hx, e, w⟩ := h
  cases dx <;> simp only [opB1] at e <;> try (cases e; done)
  · cases e
    obtain ⟨a, vs, rfl, h1, f⟩ := hx.list
    exact ⟨a, vs, rfl, .inl ⟨.inl (.inl h1), fun l hl => w.2 _ _ rfl f l hl⟩⟩
  · cases e
    obtain ⟨a, vs, rfl, h1, f⟩ := hx.tuple
    exact ⟨a, vs, rfl, .inr ⟨h1, w.1 _ (.tup h1 f)⟩⟩
theorem b1_list : CallR X (.type "list") (rB1 X.K .list) := by
  refine CallR.weak call_list_of fun xs H Q h => ?_
  obtain ⟨x, rfl, Z, dx, r, zl, hx, e, w⟩ := h
  cases dx <;> simp only [opB1] at e <;> try (cases e; done)
  · cases e
    obtain ⟨a, vs, rfl, h1, f⟩ := hx.list
    exact ⟨a, vs, rfl, .inl (.inl (.inl h1)), fun l hl => w _ f l hl⟩
  · cases e
    obtain ⟨a, vs, rfl, h1, f⟩ := hx.tuple
    exact ⟨a, vs, rfl, .inr h1, fun l hl => w _ f l hl⟩
end
end Ev

/-! Ev, part J: argument lists, displays, calls of built-ins. -/
namespace Ev
open PySem L2 PyProof.Rows

/-- a list that was just given stands among them -/
def Nw (rs : List Rv) (vs : List V) (a : Addr) : Prop := ∃ (i : Nat) (ys : List PyData), rs[i]? = some (Rv.n ys) ∧ vs[i]? = some (V.ref a)
inductive RvsOk (K : PySem.W.Frag) (fa : Nat → V → Prop) (H0 H : Hp) (Z : Addr → Prop) (σ : L2.St) : List Rv → List V → Prop
  | nil : RvsOk K fa H0 H Z σ [] []
  | cons {r : Rv} {rs : List Rv} {v : V} {vs : List V} : RvOk K fa H0 H Z σ r v → (∀ ys a, r = .n ys → v = V.ref a → ¬ Nw rs vs a) → RvsOk K fa H0 H Z σ rs vs → RvsOk K fa H0 H Z σ (r :: rs) (v :: vs)
section
variable {K : PySem.W.Frag} {fa : Nat → V → Prop} {σ : L2.St} {H0 H H1 H2 : Hp} {Z0 Z Z1 Z2 : Addr → Prop} {env0 env env1 env2 : Env}
theorem Nw.cons {r : Rv} {rs : List Rv} {v : V} {vs : List V} {a : Addr} (h : Nw (r :: rs) (v :: vs) a) : (∃ ys, r = .n ys ∧ v = V.ref a) ∨ Nw rs vs a := by
  obtain ⟨i, ys, h1, h2⟩ := h
  cases i with
  | zero => simp at h1 h2; exact .inl ⟨ys, h1, h2⟩
  | succ i => exact .inr ⟨i, ys, by simpa using h1, by simpa using h2⟩
theorem Nw.not_nil {vs : List V} {a : Addr} : ¬ Nw [] vs a := fun ⟨i, ys, h1, _⟩ => by simp at h1
theorem Nw.tail {r : Rv} {rs : List Rv} {v : V} {vs : List V} {a : Addr} (h : Nw rs vs a) : Nw (r :: rs) (v :: vs) a := by
  obtain ⟨i, ys, h1, h2⟩ := h
  exact ⟨i + 1, ys, by simpa using h1, by simpa using h2⟩
theorem RvsOk.nw : ∀ {rs : List Rv} {vs : List V} {a : Addr}, RvsOk K fa H0 H Z σ rs vs → Nw rs vs a → Z a ∧ H0 a = none ∧ ∃ us, H a = some (HO.lst us)
  | _, _, a, .nil, h => (Nw.not_nil h).elim
  | _, _, a, .cons h1 _ h3, h => by
    rcases h.cons with ⟨ys, rfl, rfl⟩ | h
    · obtain ⟨b, vs, e, q1, q2, q3, _⟩ := h1
      cases e
      exact ⟨q2, q3, vs, q1⟩
    · exact h3.nw h
theorem RvsOk.back (m : Mid K fa σ H0 Z0 env0 H Z env) : ∀ {rs : List Rv} {vs : List V}, RvsOk K fa H H1 Z1 σ rs vs → RvsOk K fa H0 H1 Z1 σ rs vs
  | _, _, .nil => .nil
  | _, _, .cons h1 h2 h3 => .cons (h1.back m) h2 (h3.back m)
theorem RvsOk.on2 (m : Mid K fa σ H0 Z0 env0 H Z env) (n : Mid K fa σ H Z env H1 Z1 env1) : ∀ {rs : List Rv} {vs : List V}, RvsOk K fa H0 H Z σ rs vs → RvsOk K fa H0 H1 Z1 σ rs vs
  | _, _, .nil => .nil
  | _, _, .cons h1 h2 h3 => .cons (RvOk.on m n h1) h2 (RvsOk.on2 m n h3)
theorem RvsOk.length : ∀ {rs : List Rv} {vs : List V}, RvsOk K fa H0 H Z σ rs vs → rs.length = vs.length
  | _, _, .nil => rfl
  | _, _, .cons _ _ h => by rw [List.length_cons, List.length_cons, h.length]
theorem RvsOk.get : ∀ {rs : List Rv} {vs : List V} {i : Nat} {r : Rv}, RvsOk K fa H0 H Z σ rs vs → rs[i]? = some r → ∃ v, vs[i]? = some v ∧ RvOk K fa H0 H Z σ r v
  | _, _, _, _, .nil, e => by simp at e
  | _, _, 0, _, .cons h _ _, e => by simp at e; subst e; exact ⟨_, rfl, h⟩
  | _, _, i + 1, r, .cons _ _ h, e => by
    obtain ⟨v, h1, h2⟩ := h.get (i := i) (r := r) (by simpa using e)
    exact ⟨v, by simpa using h1, h2⟩
/-- less is owned, but not of what was given -/
theorem RvOk.less {r : Rv} {v : V} (s : ∀ a, Z1 a → Z a) (k : ∀ a ys, r = .n ys → v = V.ref a → Z a → H0 a = none → Z1 a) (h : RvOk K fa H0 H Z σ r v) : RvOk K fa H0 H Z1 σ r v := by
  cases r with
  | v x => exact Fz.sub s h
  | n xs =>
    obtain ⟨b, vs, rfl, h1, h2, h3, h4⟩ := h
    exact ⟨b, vs, rfl, h1, k b xs rfl rfl h2 h3, h3, FzAll.sub s h4⟩
  | p i => exact h
  | r xs =>
    obtain ⟨b, vs, rfl, h1, h3⟩ := h
    exact ⟨b, vs, rfl, h1, FzAll.sub s h3⟩
  | f k => exact h
theorem RvsOk.less (s : ∀ a, Z1 a → Z a) : ∀ {rs : List Rv} {vs : List V}, (∀ a, Nw rs vs a → Z a → H0 a = none → Z1 a) → RvsOk K fa H0 H Z σ rs vs → RvsOk K fa H0 H Z1 σ rs vs
  | _, _, _, .nil => .nil
  | _, _, k, .cons h1 h2 h3 => .cons (h1.less s fun a ys e1 e2 => k a ⟨0, ys, by rw [e1]; rfl, by rw [e2]; rfl⟩) h2 (RvsOk.less s (fun a q => k a q.tail) h3)
/-- all that was given is kept -/
theorem Mid.keepAll : ∀ {rs : List Rv} {vs : List V} {xs : List PyData} {env env2 : Env} {Z : Addr → Prop}, Mid K fa σ H0 Z0 env0 H Z env → RvsOk K fa H0 H Z σ rs vs → Ev.keepAll env rs = some (env2, xs) →
    ∃ Z1, Mid K fa σ H0 Z0 env0 H Z1 env2 ∧ FzAll K H Z1 vs xs ∧ ∀ a, Z1 a → Z a
  | _, _, xs, env, env2, Z, m, .nil, e => by cases e; exact ⟨Z, m, .nil, fun _ q => q⟩
  | _, _, xs, env, env2, Z, m, .cons (r := r) h1 h2 h3, e => by
    unfold Ev.keepAll at e
    cases k : Ev.keep env r with
    | none => rw [k] at e; cases e
    | some p =>
      obtain ⟨env1, x⟩ := p
      rw [k] at e
      obtain ⟨Z1, m1, f1, s1, k1⟩ := m.keep h1 k
      dsimp only at e
      cases k2 : Ev.keepAll env1 _ with
      | none => rw [k2] at e; cases e
      | some p =>
        obtain ⟨env3, ys⟩ := p
        rw [k2] at e
        cases e
        obtain ⟨Z2, m2, f2, s2⟩ := Mid.keepAll m1 (h3.less s1 fun a q z n => k1 a z n fun ⟨ys, e1⟩ e2 => h2 ys a e1 e2 q) k2
        exact ⟨Z2, m2, .cons (f1.sub s2) f2, fun a q => s1 a (s2 a q)⟩
end

/-! ### the reading of an argument list -/
def FinA (K : PySem.W.Frag) (fa : Nat → V → Prop) (X : XW) (σ : L2.St) (H0 : Hp) (Z0 : Addr → Prop) (env0 : Env) (res : Rs (Env × List Rv)) (Q : List V → Hp → Prop) : Prop :=
  match res with
  | .ok p => ∀ Z' H' vs, Mid K fa σ H0 Z0 env0 H' Z' p.1 → RvsOk K fa H0 H' Z' σ p.2 vs → Q vs H'
  | .ex c a => ∀ Mu' Z' H', Stp (Own σ env0) Z0 H0 Mu' Z' H' → X c a σ H'
  | .bad => False
def tA (K : PySem.W.Frag) (fa : Nat → V → Prop) (XX : XW) (G : Tab) (es : List ME) : TA := fun σ H Q => ∃ Z env, Eok K fa H Z σ env ∧ FinA K fa XX σ H Z env (evs G es env) Q
theorem PA.weak {X : Cx} {es : List Expr} {t t' : TA} (h : PA X es t) (w : ∀ σ H Q, t' σ H Q → t σ H Q) : PA X es t' := ⟨fun pos pins s σ H Q I q => h.run pos pins s σ H Q I (w σ H Q q)⟩
section
variable {X : Cx} {fa : Nat → V → Prop} {XX : XW} {G : Tab} {a b : Expr} {ma mb : ME} {es : List Expr} {ms : List ME} {pos : Pos}
variable {σ : L2.St} {H0 H : Hp} {Z0 Z : Addr → Prop} {env0 env : Env}
theorem tA.mono {σ : L2.St} {H : Hp} {Q Q' : List V → Hp → Prop} (h : tA X.K fa XX G ms σ H Q) (w : ∀ v H', Q v H' → Q' v H') : tA X.K fa XX G ms σ H Q' := by
  obtain ⟨Z, env, ok, h⟩ := h
  refine ⟨Z, env, ok, ?_⟩
  revert h
  cases evs G ms env with
  | bad => exact fun z => z
  | ex c a => exact fun z => z
  | ok p => exact fun z Z' H' v m r => w _ _ (z Z' H' v m r)
/-- the list is evaluated, the rest goes on from there -/
theorem tA.first {k : Env × List Rv → Rs (Env × Rv)} {Q : VK} (ok : Eok X.K fa H Z σ env) (h : Fin X.K fa XX σ H Z env ((evs G ms env).bind k) Q) :
    tA X.K fa XX G ms σ H fun vs H1 => ∃ Z1 env1 rs, Mid X.K fa σ H Z env H1 Z1 env1 ∧ RvsOk X.K fa H H1 Z1 σ rs vs ∧ Fin X.K fa XX σ H Z env (k (env1, rs)) Q := by
  refine ⟨Z, env, ok, ?_⟩
  cases e : evs G ms env with
  | bad => rw [e] at h; exact h
  | ex c a =>
    rw [e] at h
    exact h
  | ok p =>
    rw [e] at h
    intro Z' H' v m1 hr
    exact ⟨Z', p.1, p.2, m1, hr, h⟩
theorem a_nil : PA X [] (tA X.K fa XX G []) := PA.weak pa_nil fun σ H Q ⟨Z, env, ok, h⟩ => h Z H [] (.refl ok) .nil
theorem a_cons (ha : PE X a (tE X.K fa XX G ma)) (hr : PA X es (tA X.K fa XX G ms)) (hs : starEach (a :: es) X.env = (false, eval a X.env) :: starEach es X.env) : PA X (a :: es) (tA X.K fa XX G (ma :: ms)) := by
  refine PA.weak (pa_cons ha hr hs) fun σ H Q ⟨Z, env, ok, h⟩ => ?_
  refine ⟨Z, env, ok, ?_⟩
  unfold evs at h
  revert h
  cases ev G ma env with
  | bad => exact fun z => z
  | ex c a => exact fun z => z
  | ok p =>
    obtain ⟨env1, r⟩ := p
    intro h Z1 H1 v m1 hr
    refine ⟨Z1, env1, m1.ok, ?_⟩
    simp only [Rs.bind] at h
    revert h
    cases evs G ms env1 with
    | bad => exact fun z => z
    | ex c a => exact fun z Mu' Z' H' s => z Mu' Z' H' (m1.st.trans s)
    | ok q =>
      intro h Z2 H2 vs m2 hrs
      refine h Z2 H2 (v :: vs) (m1.trans m2) (.cons (RvOk.on m1 m2 hr) (fun ys a e1 e2 q => ?_) (hrs.back m1))
      subst e1 e2
      obtain ⟨b, us, e, q1, _⟩ := hr
      cases e
      obtain ⟨_, n, _⟩ := hrs.nw q
      rw [q1] at n
      cases n
theorem s_tup {c : Nat} (h : PA X es (tA X.K fa XX G ms)) : PE X (.Tuple es c pos) (tE X.K fa XX G (.tup ms)) := by
  refine PE.weak (pe_tup h) fun σ H Q ⟨Z, env, ok, h⟩ => ?_
  unfold ev at h
  refine tA.mono (tA.first ok h) fun vs H1 ⟨Z1, env1, rs, m, hrs, hf⟩ => ?_
  dsimp only at hf
  cases k : Ev.keepAll env1 rs with
  | none => rw [k] at hf; exact hf.elim
  | some p =>
    obtain ⟨env2, xs⟩ := p
    rw [k] at hf
    dsimp only at hf
    obtain ⟨Z2, m2, f, _⟩ := m.keepAll hrs k
    split at hf
    · rename_i hl
      refine ⟨by rw [f.length]; exact hl, fun p hp => ?_⟩
      exact hf Z2 _ _ (m2.newT hp) (.tup (.inl (.inl upd_same)) (f.newT m2.ok.zl hp))
    · exact hf.elim
theorem s_lst (h : PA X es (tA X.K fa XX G ms)) : PE X (.List es pos) (tE X.K fa XX G (.lst ms)) := by
  refine PE.weak (pe_lst h) fun σ H Q ⟨Z, env, ok, h⟩ => ?_
  unfold ev at h
  refine tA.mono (tA.first ok h) fun vs H1 ⟨Z1, env1, rs, m, hrs, hf⟩ => ?_
  dsimp only at hf
  cases k : Ev.keepAll env1 rs with
  | none => rw [k] at hf; exact hf.elim
  | some p =>
    obtain ⟨env2, xs⟩ := p
    rw [k] at hf
    dsimp only at hf
    obtain ⟨Z2, m2, f, _⟩ := m.keepAll hrs k
    split at hf
    · rename_i hl
      refine ⟨by rw [f.length]; exact hl, fun p hp => ?_⟩
      exact hf _ _ _ (m2.newL hp) ⟨p, vs, rfl, upd_same, .inr rfl, m2.fresh hp, f.newL m2.ok.zl hp⟩
    · exact hf.elim

/-! ### built-ins -/
theorem minX_v {xs : List PyData} {r : Rv} (h : minX xs = some r) : ∃ x, r = .v x := by
  unfold minX at h
  split at h
  · rename_i q hm
    cases h
    unfold minI at hm
    obtain ⟨is, _, e⟩ := Option.bind_eq_some_iff.mp hm
    cases is with
    | nil => cases e
    | cons i is => cases e; exact ⟨_, rfl⟩
  · obtain ⟨_, _, _, _, _, rfl, _⟩ := dmin_of h
    exact ⟨_, rfl⟩
theorem opB1_v {o : B1} {x : PyData} {r : Rv} (h : opB1 o x = some r) : (∃ x, r = .v x) ∨ ∃ xs, r = .n xs := by
  cases o <;> cases x <;> simp only [opB1, shw, seqOf, Option.bind_none, Option.bind_some, Option.map_eq_some_iff, Option.bind_eq_some_iff] at h <;> (repeat' (split at h)) <;>
    first | exact .inl (minX_v h) | (cases h; done) | (cases h; exact .inl ⟨_, rfl⟩) | (cases h; exact .inr ⟨_, rfl⟩) | (obtain ⟨_, _, rfl⟩ := h; first | exact .inl ⟨_, rfl⟩ | exact .inr ⟨_, rfl⟩) |
    (obtain ⟨_, _, h⟩ := h; split at h <;> first | (cases h; done) | (cases h; exact .inl ⟨_, rfl⟩))
/-- what a built-in of one asks -/
def rB1x (K : PySem.W.Frag) (o : B1) : List V → Hp → VK → Prop := fun vs H Q => rB1 K o vs H Q ∨ ∃ a us, vs = [V.ref a] ∧ RdL K H a us ∧ match o with
  | .list => ∀ l, H l = none → Q (.ref l) (upd H l (.lst us))
  | .len => Q (.int us.length) H
  | _ => False
theorem b1x_of {f : Value} {o : B1} (h : CallR X f (rB1 X.K o)) (hl : o ≠ .list) (hn : o ≠ .len) : CallR X f (rB1x X.K o) := by
  refine CallR.weak h fun vs H Q q => ?_
  rcases q with q | ⟨a, us, _, _, q⟩
  · exact q
  · cases o <;> first | exact q.elim | exact absurd rfl hl | exact absurd rfl hn
theorem b1x_list : CallR X (.type "list") (rB1x X.K .list) := by
  refine CallR.weak (CallR.or b1_list call_list_of) fun vs H Q q => ?_
  rcases q with q | ⟨a, us, rfl, h, q⟩
  · exact .inl q
  · exact .inr ⟨a, us, rfl, .inl h.sq, q⟩
theorem b1x_len : CallR X (.builtin "len") (rB1x X.K .len) := by
  refine CallR.weak (CallR.or b1_len call_len_seq) fun vs H Q q => ?_
  rcases q with q | ⟨a, us, rfl, h, q⟩
  · exact .inl q
  · exact .inr ⟨a, us, rfl, .inl h.sq, q⟩
theorem b1_fin {o : B1} {Q : VK} (ok : Eok X.K fa H Z σ env) (h : Fin X.K fa XX σ H Z env (ev G (.b1 o ma) env) Q) : tE X.K fa XX G ma σ H fun x H1 => rB1x X.K o [x] H1 Q := by
  unfold ev at h
  refine tM.mono (one ok h) fun x H1 ⟨Z1, env1, ra, M, r1, hf⟩ => ?_
  have gen : ∀ dx r, dat env1 ra = some dx → opB1 o dx = some r → Fin X.K fa XX σ H Z env (.ok (env1, r)) Q → rB1x X.K o [x] H1 Q := fun dx r e1 e2 f =>
    .inl ⟨x, rfl, Z1, dx, r, M.ok.zl, r1.ds M.ok e1, e2, Fin.wsh M f (opB1_v e2)⟩
  have read : ∀ xs, ra = .r xs → ∃ a us, x = V.ref a ∧ RdL X.K H1 a us ∧ FzAll X.K H1 Z1 us xs := fun xs e => by
    subst e
    exact r1
  dsimp only at hf
  split at hf
  · obtain ⟨a, us, rfl, h1, h2⟩ := read _ rfl
    refine .inr ⟨a, us, rfl, h1, fun l hl => ?_⟩
    exact hf _ _ _ (M.newL hl) ⟨l, us, rfl, upd_same, .inr rfl, M.fresh hl, h2.newL M.ok.zl hl⟩
  · obtain ⟨a, us, rfl, h1, h2⟩ := read _ rfl
    refine .inr ⟨a, us, rfl, h1, ?_⟩
    show Q (.int us.length) H1
    rw [h2.length]
    exact hf _ _ _ M (.int _)
  · cases hd : dat env1 ra with
    | none => rw [hd] at hf; exact hf.elim
    | some dx =>
      rw [hd] at hf
      dsimp only at hf
      cases hr : opB1 o dx with
      | none => rw [hr] at hf; exact hf.elim
      | some r =>
        rw [hr] at hf
        exact gen dx r hd hr hf
theorem s_b1B {o : B1} {id : String} {x : Str} {p : Pos} (hC : CallR X (.builtin id) (rB1x X.K o)) (hg : Gl X x) (hm : X.mg x = none) (hv : bootBuiltins x = some (.builtin id)) (hn : x ≠ "__name__") (hdb : (x == ("__debug__" : Str)) = false)
    (ha : PE X a (tE X.K fa XX G ma)) (he : starEach [a] X.env = (false, eval a X.env) :: starEach [] X.env) : PE X (.Call (.Name x p) [a] [] pos) (tE X.K fa XX G (.b1 o ma)) := by
  refine PE.weak (pe_callB hC hg hm hv (pa_cons ha pa_nil he) hn hdb he) fun σ H Q ⟨Z, env, ok, h⟩ => ?_
  exact b1_fin ok h
theorem s_b1T {o : B1} {id : String} {x : Str} {p : Pos} (hC : CallR X (.type id) (rB1x X.K o)) (hg : Gl X x) (hm : X.mg x = none) (hv : bootBuiltins x = some (.type id)) (hn : x ≠ "__name__") (hdb : (x == ("__debug__" : Str)) = false)
    (ha : PE X a (tE X.K fa XX G ma)) (he : starEach [a] X.env = (false, eval a X.env) :: starEach [] X.env) : PE X (.Call (.Name x p) [a] [] pos) (tE X.K fa XX G (.b1 o ma)) := by
  refine PE.weak (pe_callTy hC hg hm hv (pa_cons ha pa_nil he) hn hdb he) fun σ H Q ⟨Z, env, ok, h⟩ => ?_
  exact b1_fin ok h
end
end Ev

/-! Ev, part K: isinstance, max and min of two, list methods, list(range(..)). -/
namespace Ev
open PySem L2 PyProof.Rows
def b2Name : B2 → String
  | .max => "max" | .min => "min"
def tyName : Ty → String
  | .int => "int" | .bool => "bool" | .str => "str" | .tuple => "tuple"
/-- the type of data -/
def tyOf : PyData → Option String
  | .none => some "NoneType" | .bool _ => some "bool" | .int _ => some "int" | .str _ => some "str" | .list _ => some "list" | .tuple _ => some "tuple" | .dict _ => none
section
variable {K : PySem.W.Frag} {H : Hp} {Z : Addr → Prop}
theorem ty_of {v : V} {x : PyData} (d : Ds K H Z v x) (nd : ∀ kvs, x ≠ .dict kvs) : ∃ n, tyOf x = some n ∧ TyX K H v (.type n) := by
  cases x with
  | none => rw [d.none_]; exact ⟨_, rfl, .base .non⟩
  | bool b => rw [d.bool]; exact ⟨_, rfl, .base (.bl b)⟩
  | int i => rw [d.int]; exact ⟨_, rfl, .base (.int i)⟩
  | str a => rw [d.str]; exact ⟨_, rfl, .base (.str a)⟩
  | list xs => obtain ⟨a, vs, rfl, h, _⟩ := d.list; exact ⟨_, rfl, .base (.lst h)⟩
  | tuple xs =>
    obtain ⟨a, vs, rfl, h, _⟩ := d.tuple
    rcases h with (h | ⟨o, h⟩) | ⟨o, its, n, h, hc, _⟩
    · exact ⟨_, rfl, .base (.tup h)⟩
    · exact ⟨_, rfl, .fTuple h⟩
    · exact ⟨_, rfl, .kTuple h hc⟩
  | dict kvs => exact (nd kvs rfl).elim
end
theorem isTy_kit : ∀ (t : Ty) (x : PyData) (b : Bool) (n : String), isTy t x = some b → tyOf x = some n → kitB n (tyName t) = some b := by
  intro t x b n h e
  cases t <;> cases x <;> simp only [isTy] at h <;> simp only [tyOf] at e <;> cases h <;> cases e <;> decide +kernel
section
variable {X : Cx} {fa : Nat → V → Prop} {XX : XW} {G : Tab} {a b : Expr} {ma mb : ME} {pos : Pos}
variable {σ : L2.St} {H0 H : Hp} {Z0 Z : Addr → Prop} {env0 env : Env}
theorem s_isi {t : Ty} {x y : Str} {p p2 : Pos} (hg : Gl X x) (hm : X.mg x = none) (hv : bootBuiltins x = some (.builtin "isinstance")) (hn : x ≠ "__name__") (hdb : (x == ("__debug__" : Str)) = false)
    (hgy : Gl X y) (hmy : X.mg y = none) (hvy : bootBuiltins y = some (.type (tyName t))) (hny : y ≠ "__name__") (hdy : (y == ("__debug__" : Str)) = false)
    (ha : PE X a (tE X.K fa XX G ma)) (he : starEach [a, .Name y p2] X.env = (false, eval a X.env) :: starEach [.Name y p2] X.env) (he2 : starEach [.Name y p2] X.env = (false, eval (.Name y p2) X.env) :: starEach [] X.env) (hpl : (backTo pos (starEach [.Name y p2] X.env)).any (·.1) = false) :
    PE X (.Call (.Name x p) [a, .Name y p2] [] pos) (tE X.K fa XX G (.isi ma t)) := by
  refine PE.weak (pe_callB call_isi hg hm hv (pa_cons ha (pa_cons (pe_bltn (v := V.ty (tyName t)) hgy hmy hvy rfl hny hdy) pa_nil he2) he) hn hdb he hpl) fun σ H Q ⟨Z, env, ok, h⟩ => ?_
  unfold ev at h
  refine tM.mono (one ok h) fun v H1 ⟨Z1, env1, ra, M, r1, hf⟩ => ?_
  dsimp only at hf
  cases hd : dat env1 ra with
  | none => rw [hd] at hf; exact hf.elim
  | some d =>
    rw [hd] at hf
    dsimp only at hf
    cases hr : isTy t d with
    | none => rw [hr] at hf; exact hf.elim
    | some r =>
      rw [hr] at hf
      obtain ⟨n, e1, e2⟩ := ty_of (r1.ds M.ok hd) (fun kvs z => by rw [z] at hr; cases t <;> cases hr)
      exact ⟨v, V.ty (tyName t), .type n, .type (tyName t), r, rfl, .ty _, e2, kit_ty (isTy_kit t d r n hr e1), hf Z1 H1 _ M (.bl r)⟩
theorem s_b2 {o : B2} {x : Str} {p : Pos} (hc : X.calm = true) (hg : Gl X x) (hm : X.mg x = none) (hv : bootBuiltins x = some (.builtin (b2Name o))) (hn : x ≠ "__name__") (hdb : (x == ("__debug__" : Str)) = false)
    (ha : PE X a (tE X.K fa XX G ma)) (hb : PE X b (tE X.K fa XX G mb)) (he : starEach [a, b] X.env = (false, eval a X.env) :: starEach [b] X.env) (he2 : starEach [b] X.env = (false, eval b X.env) :: starEach [] X.env) (hpl : (backTo pos (starEach [b] X.env)).any (·.1) = false) :
    PE X (.Call (.Name x p) [a, b] [] pos) (tE X.K fa XX G (.b2 o ma mb)) := by
  have hR : CallR X (.builtin (b2Name o)) (fun xs H Q => ∃ i j, xs = [.int i, .int j] ∧ ∀ r, opB2 o (.int i) (.int j) = some (.int r) → Q (.int r) H) := by
    cases o
    · exact CallR.weak (call_max2 hc) fun xs H Q ⟨i, j, e, q⟩ => ⟨i, j, e, q _ rfl⟩
    · exact CallR.weak (call_min2 hc) fun xs H Q ⟨i, j, e, q⟩ => ⟨i, j, e, q _ rfl⟩
  refine PE.weak (pe_callB hR hg hm hv (pa_cons ha (pa_cons hb pa_nil he2) he) hn hdb he hpl) fun σ H Q ⟨Z, env, ok, h⟩ => ?_
  unfold ev at h
  refine tM.mono (two (k := fun e x y => (ofO (opB2 o x y)).bind fun r => .ok (e, .v r)) ok h) fun x H1 h1 => tM.mono h1 fun y H2 ⟨Z2, env2, dx, dy, M, d1, d2, hf⟩ => ?_
  cases hr : opB2 o dx dy with
  | none => rw [hr] at hf; exact hf.elim
  | some r =>
    rw [hr] at hf
    cases o <;> cases dx <;> cases dy <;> simp only [opB2] at hr <;> try (cases hr; done)
    · cases hr
      exact ⟨_, _, by rw [d1.int, d2.int], fun r e => by cases e; exact hf Z2 H2 _ M (.int _)⟩
    · cases hr
      exact ⟨_, _, by rw [d1.int, d2.int], fun r e => by cases e; exact hf Z2 H2 _ M (.int _)⟩

/-! ### a name's own list is written -/
theorem Stp.write {Mu : Addr → Prop} {a : Addr} {us : List V} (m : ∀ b, Mu b → Z b) (z : Zl Z H) (hm : Mu a) : Stp Mu Z H Mu Z (upd H a (.lst us)) :=
  ⟨fun b o h n => by rw [upd_ne (fun e => n (by rw [e]; exact hm))]; exact h, fun b o h => by
    by_cases e : b = a
    · subst e; exact ⟨_, upd_same⟩
    · exact ⟨o, by rw [upd_ne e]; exact h⟩, fun _ h _ => h, fun _ h => .inl h, fun _ h => .inl h, m, z⟩
theorem ownd_setl {i j : Nat} {xs ys : List PyData} (h : env[i]? = some (some (.l xs))) : ownd (env.set i (some (.l ys))) j → ownd env j := fun ⟨zs, q⟩ => by
  by_cases e : j = i
  · subst e; exact ⟨xs, .inl h⟩
  · rw [List.getElem?_set_ne (Ne.symm e)] at q
    exact ⟨zs, q⟩
theorem Own_setl {i : Nat} {xs ys : List PyData} (h : env[i]? = some (some (.l xs))) {b : Addr} : Own σ (env.set i (some (.l ys))) b → Own σ env b := fun ⟨j, zs, q1, q2⟩ => by
  by_cases e : j = i
  · subst e; exact ⟨j, xs, h, q2⟩
  · rw [List.getElem?_set_ne (Ne.symm e)] at q1
    exact ⟨j, zs, q1, q2⟩
theorem Mid.write {fa : Nat → V → Prop} {K : PySem.W.Frag} {i : Nat} {xs ys : List PyData} {a : Addr} {us : List V} (m : Mid K fa σ H0 Z0 env0 H Z env) (h : env[i]? = some (some (.l xs))) (e : σ[i]? = some (some (V.ref a))) (f : FzAll K H Z us ys) :
    Mid K fa σ H0 Z0 env0 (upd H a (.lst us)) Z (env.set i (some (.l ys))) := by
  have hm : Own σ env a := ⟨i, xs, h, e⟩
  have s : Stp (Own σ env) Z H (Own σ env) Z (upd H a (.lst us)) := .write m.ok.muz m.ok.zl hm
  have s2 : Stp (Own σ env) Z H (Own σ (env.set i (some (.l ys)))) Z (upd H a (.lst us)) := ⟨s.keep, s.dom, s.zold, s.znew, fun b q => .inl (Own_setl h q), s.muz, s.zl⟩
  have hi : i < env.length := (List.getElem?_eq_some_iff.mp h).1
  refine ⟨m.st.trans s2, fun b q => m.mo b (Own_setl h q), fun j q => m.mw j (ownd_setl h q), fun j b q e2 => m.sl j b (ownd_setl h q) e2, fun j ys q => m.kk j ys (by
    rcases getElem?_set_cases q with ⟨_, e, _⟩ | ⟨_, e⟩
    · cases e
    · exact e), ⟨fun j w q => ?_, fun j k b q1 q2 => m.ok.apart j k b (ownd_setl h q1) (ownd_setl h q2), fun b q => ?_, by rw [List.length_set]; exact m.ok.len⟩⟩
  · by_cases ej : j = i
    · subst ej
      rw [List.getElem?_set_self hi] at q
      cases q
      exact ⟨_, e, a, us, rfl, upd_same, m.ok.muz _ hm, FzAll.step s f⟩
    · rw [List.getElem?_set_ne (Ne.symm ej)] at q
      obtain ⟨v, e1, e2⟩ := m.ok.nm j w q
      have ne : ∀ zs b, (w = .l zs ∨ w = .k zs) → v = V.ref b → b ≠ a := fun zs b hw hv eb => by
        subst hv eb
        refine ej (m.ok.apart j i b ⟨zs, ?_⟩ ⟨xs, .inl h⟩ e1 e)
        rcases hw with rfl | rfl
        · exact .inl q
        · exact .inr q
      refine ⟨v, e1, ?_⟩
      cases w with
      | d x => exact Fz.step s e2
      | l zs =>
        obtain ⟨b, vs, rfl, h1, h2, h3⟩ := e2
        exact ⟨b, vs, rfl, by rw [upd_ne (ne zs b (.inl rfl) rfl)]; exact h1, h2, FzAll.step s h3⟩
      | k zs =>
        obtain ⟨b, vs, rfl, h1, h2, h3⟩ := e2
        exact ⟨b, vs, rfl, by rw [upd_ne (ne zs b (.inr rfl) rfl)]; exact h1, h2, FzAll.step s h3⟩
      | r zs =>
        obtain ⟨b, vs, rfl, h1, h3⟩ := e2
        exact ⟨b, vs, rfl, RdL.step s h1, FzAll.step s h3⟩
      | f n => exact e2
  · by_cases eb : b = a
    · subst eb; exact ⟨us, upd_same⟩
    · rw [upd_ne eb]; exact m.ok.zl b q
theorem Eok.own {fa : Nat → V → Prop} {K : PySem.W.Frag} {i : Nat} {xs : List PyData} (ok : Eok K fa H Z σ env) (h : env[i]? = some (some (.l xs))) : ∃ a vs, σ[i]? = some (some (V.ref a)) ∧ H a = some (HO.lst vs) ∧ FzAll K H Z vs xs := by
  obtain ⟨v, e, a, vs, rfl, h1, _, h3⟩ := ok.nm i _ h
  exact ⟨a, vs, e, h1, h3⟩
theorem isL_of {i : Nat} (h : isL env i = true) : ∃ xs, env[i]? = some (some (W.l xs)) := by
  unfold isL at h
  split at h
  · rename_i xs e
    exact ⟨xs, e⟩
  · cases h
/-- the receiver of a list's method -/
theorem Eok.recv {fa : Nat → V → Prop} {K : PySem.W.Frag} {i : Nat} (ok : Eok K fa H Z σ env) (h : isL env i = true) : ∃ a, σ[i]? = some (some (V.ref a)) ∧ tyV K "list" (V.ref a) H := by
  obtain ⟨xs, e⟩ := isL_of h
  obtain ⟨a, vs, e1, h1, _⟩ := ok.own e
  exact ⟨a, e1, .inl ⟨rfl, vs, .inl (.inl h1)⟩⟩
theorem recv_v {i : Nat} {x : Str} {p : Pos} (hN : X.N[i]? = some x) (hv : Vis X.env.scope x) (hd : (x == ("__debug__" : Str)) = false) (hcd : (x == ("__classdict__" : Str)) = false) : PE X (.Name x p) (fun σ H Q => ∃ v, σ[i]? = some (some v) ∧ Q v H) :=
  PE.weak (pe_var hN hv hd hcd) fun σ H Q h => h
/-- a call of a name's list's method, with one argument -/
structure MOk (X : Cx) (a : Expr) (x m : Str) (i : Nat) (p p2 pos : Pos) : Prop where
  hN : X.N[i]? = some x
  hv : Vis X.env.scope x
  hd : (x == ("__debug__" : Str)) = false
  hcd : (x == ("__classdict__" : Str)) = false
  he : starEach [a] X.env = (false, eval a X.env) :: starEach [] X.env
  hbase : attributeBase (.Name x p) m X.env (eval (.Name x p) X.env) = eval (.Name x p) X.env
  hline : (p2.endLine == pos.line) = true
  hfew : ((backTo pos (starEach [a] X.env)).all (fun x => !x.1) && (backToKw pos (keywordEach [] X.env)).all (fun x => x.1.isSome) && decide ([a].length + ([] : List Keyword).length + (if ([] : List Keyword).isEmpty then 0 else 1) < 30)) = true
theorem s_app {i : Nat} {x : Str} {p p2 : Pos} (k : MOk X a x "append" i p p2 pos) (ha : PE X a (tE X.K fa XX G ma)) : PE X (.Call (.Attribute (.Name x p) "append" p2) [a] [] pos) (tE X.K fa XX G (.app i ma)) := by
  refine PE.weak (pe_bm PySem.F.plainAttrs_list PySem.F.slot_list_append PySem.F.type_list_append mt_append (recv_v k.hN k.hv k.hd k.hcd) (pa_cons ha pa_nil k.he) k.hbase k.hfew k.hline k.he) fun σ H Q ⟨Z, env, ok, h⟩ => ?_
  unfold ev at h
  split at h
  · rename_i hl
    obtain ⟨l, el, hty⟩ := ok.recv hl
    refine ⟨_, el, hty, tM.mono (one ok h) fun y H1 ⟨Z1, env1, ra, M, r1, hf⟩ => ?_⟩
    dsimp only at hf
    cases hk : keep env1 ra with
    | none => rw [hk] at hf; exact hf.elim
    | some q =>
      obtain ⟨env2, d⟩ := q
      rw [hk] at hf
      obtain ⟨Z2, M2, f, _, _⟩ := M.keep r1 hk
      dsimp only at hf
      split at hf
      · rename_i xs hi
        split at hf
        · rename_i hz
          obtain ⟨a', vs, e1, h1, h3⟩ := M2.ok.own hi
          rw [el] at e1
          cases e1
          refine ⟨l, vs, y, rfl, rfl, h1, by rw [h3.length]; exact hz, ?_⟩
          exact hf Z2 _ _ (M2.write hi el (h3.append (.cons f .nil))) .non
        · exact hf.elim
      · exact hf.elim
  · exact h.elim
theorem s_ext {i : Nat} {x : Str} {p p2 : Pos} (k : MOk X a x "extend" i p p2 pos) (ha : PE X a (tE X.K fa XX G ma)) : PE X (.Call (.Attribute (.Name x p) "extend" p2) [a] [] pos) (tE X.K fa XX G (.ext i ma)) := by
  refine PE.weak (pe_bm PySem.F.plainAttrs_list PySem.F.slot_list_extend PySem.F.type_list_extend mt_extend (recv_v k.hN k.hv k.hd k.hcd) (pa_cons ha pa_nil k.he) k.hbase k.hfew k.hline k.he) fun σ H Q ⟨Z, env, ok, h⟩ => ?_
  unfold ev at h
  split at h
  · rename_i hl
    obtain ⟨l, el, hty⟩ := ok.recv hl
    refine ⟨_, el, hty, tM.mono (one ok h) fun y H1 ⟨Z1, env1, ra, M, r1, hf⟩ => ?_⟩
    dsimp only at hf
    split at hf
    · rename_i xs ys hi hd
      split at hf
      · rename_i hz
        obtain ⟨a', vs, e1, h1, h3⟩ := M.ok.own hi
        rw [el] at e1
        cases e1
        obtain ⟨b, us, rfl, q1, q2⟩ := (r1.ds M.ok hd).list
        refine ⟨l, b, vs, us, rfl, rfl, h1, q1, by rw [h3.length, q2.length]; exact hz, ?_⟩
        exact hf Z1 _ _ (M.write hi el (h3.append q2)) .non
      · exact hf.elim
    · exact hf.elim
  · exact h.elim
theorem s_idx (hu : X.A.units + 65 < cLine) {i : Nat} {x : Str} {p p2 : Pos} (k : MOk X a x "index" i p p2 pos) (ha : PE X a (tE X.K fa XX G ma)) : PE X (.Call (.Attribute (.Name x p) "index" p2) [a] [] pos) (tE X.K fa XX G (.idx i ma)) := by
  refine PE.weak (pe_bm PySem.F.plainAttrs_list PySem.F.slot_list_index PySem.F.type_list_index (mt_indexD hu) (recv_v k.hN k.hv k.hd k.hcd) (pa_cons ha pa_nil k.he) k.hbase k.hfew k.hline k.he) fun σ H Q ⟨Z, env, ok, h⟩ => ?_
  unfold ev at h
  split at h
  · rename_i hl
    obtain ⟨l, el, hty⟩ := ok.recv hl
    refine ⟨_, el, hty, tM.mono (one ok h) fun y H1 ⟨Z1, env1, ra, M, r1, hf⟩ => ?_⟩
    dsimp only at hf
    split at hf
    · rename_i xs d hi hd
      cases hp : plc xs d with
      | none => rw [hp] at hf; exact hf.elim
      | some j =>
        rw [hp] at hf
        unfold plc at hp
        split at hp
        · rename_i hs
          obtain ⟨s1, s2⟩ := Bool.and_eq_true_iff.mp hs
          obtain ⟨a', vs, e1, h1, h3⟩ := M.ok.own hi
          rw [el] at e1
          cases e1
          obtain ⟨hj, hp1, hp2⟩ := List.findIdx?_eq_some_iff_getElem.mp hp
          refine ⟨l, y, d, xs, j, xs[j], rfl, rfl, ?_, ?_, s1, s2, List.getElem?_eq_getElem hj, hp1, fun m z' hm hz => ?_, hf Z1 H1 _ M (.int _)⟩
          · exact .lst (.inl (.inl h1)) (h3.dp (by have := nodict s1; simpa only [PyData.hasDict] using this))
          · exact (r1.ds M.ok hd).dp (nodict s2)
          · obtain ⟨hm2, rfl⟩ := List.getElem?_eq_some_iff.mp hz
            exact Bool.eq_false_iff.mpr (hp2 m hm)
        · cases hp
    · exact hf.elim
  · exact h.elim
theorem s_popA {i : Nat} {x : Str} {p p2 : Pos} (k : MOk X a x "pop" i p p2 pos) (ha : PE X a (tE X.K fa XX G ma)) : PE X (.Call (.Attribute (.Name x p) "pop" p2) [a] [] pos) (tE X.K fa XX G (.popA i ma)) := by
  refine PE.weak (pe_bm PySem.F.plainAttrs_list PySem.F.slot_list_pop PySem.F.type_list_pop mt_popAt (recv_v k.hN k.hv k.hd k.hcd) (pa_cons ha pa_nil k.he) k.hbase k.hfew k.hline k.he) fun σ H Q ⟨Z, env, ok, h⟩ => ?_
  unfold ev at h
  split at h
  · rename_i hl
    obtain ⟨l, el, hty⟩ := ok.recv hl
    refine ⟨_, el, hty, tM.mono (one ok h) fun y H1 ⟨Z1, env1, ra, M, r1, hf⟩ => ?_⟩
    dsimp only at hf
    split at hf
    · rename_i xs j hi
      split at hf
      · rename_i h0
        split at hf
        · rename_i d hj
          split at hf
          · rename_i hb
            obtain ⟨a', vs, e1, h1, h3⟩ := M.ok.own hi
            rw [el] at e1
            cases e1
            have r1 : Fz X.K H1 Z1 y (.int j) := r1
            cases r1
            obtain ⟨u, q1, q2⟩ := h3.get hj
            have hjl : j.toNat < vs.length := (List.getElem?_eq_some_iff.mp q1).1
            have eu : ∀ b, u ≠ V.ref b ∨ True := fun b => .inr trivial
            refine ⟨l, vs, j, j.toNat, u, rfl, rfl, h1, by omega, by omega, PySem.StrLaws.seqIndex_nonneg h0 (by omega), q1, ?_⟩
            refine hf Z1 _ _ (M.write hi el (h3.erase j.toNat)) ?_
            exact Fz.step (Stp.write M.ok.muz M.ok.zl ⟨i, xs, hi, el⟩) q2
          · exact hf.elim
        · exact hf.elim
      · exact hf.elim
    · exact hf.elim
  · exact h.elim

/-! ### list(range(a, b)) -/
theorem rgV_fz (i : Int) : ∀ (n : Nat) (k : Int), FzAll X.K H Z ((List.range n).map fun j => V.int (i + k + (j : Nat))) (upto (i + k) n) := by
  intro n
  induction n with
  | zero => intro k; exact .nil
  | succ n ih =>
    intro k
    rw [List.range_succ_eq_map, List.map_cons, List.map_map]
    unfold upto
    have e : ((0 : Nat) : Int) = 0 := rfl
    refine .cons ?_ ?_
    · rw [e, Int.add_zero]; exact .int _
    · have := ih (k + 1)
      rw [show i + (k + 1) = i + k + 1 by omega] at this
      have e2 : (fun j : Nat => V.int (i + k + 1 + (j : Nat))) = (fun j => V.int (i + k + (j : Nat))) ∘ Nat.succ := by
        funext j
        show V.int _ = V.int _
        rw [Nat.succ_eq_add_one]
        congr 1
        omega
      rw [e2] at this
      exact this
theorem s_lrg {p p2 pos2 : Pos} (hc : X.calm = true) (hg : Gl X "list") (hm : X.mg "list" = none) (hg2 : Gl X "range") (hm2 : X.mg "range" = none) (ha : PE X a (tE X.K fa XX G ma)) (hb : PE X b (tE X.K fa XX G mb))
    (na : starEach [a, b] X.env = (false, eval a X.env) :: starEach [b] X.env) (nb : starEach [b] X.env = (false, eval b X.env) :: starEach [] X.env) (hp : (backTo pos2 (starEach [b] X.env)).any (·.1) = false)
    (nc : starEach [.Call (.Name "range" p2) [a, b] [] pos2] X.env = (false, eval (.Call (.Name "range" p2) [a, b] [] pos2) X.env) :: starEach [] X.env) :
    PE X (.Call (.Name "list" p) [.Call (.Name "range" p2) [a, b] [] pos2] [] pos) (tE X.K fa XX G (.lrg ma mb)) := by
  refine PE.weak (pe_listRg hc hg hm (prg_2 hg2 hm2 ha hb na nb hp) nc) fun σ H Q ⟨Z, env, ok, h⟩ => ?_
  unfold ev at h
  refine tM.mono (Fin.first (.refl ok) h) fun x H1 ⟨Z1, env1, ra, M1, m1, r1, h1⟩ => ?_
  refine tM.mono (Fin.first M1 h1) fun y H2 ⟨Z2, env2, rb, M2, m2, r2, h2⟩ => ?_
  dsimp only at h2
  split at h2
  · rename_i i j _
    split at h2
    · rename_i hr
      have q1 : Fz X.K H2 Z2 x (.int i) := RvOk.on M1 m2 r1
      have q2 : Fz X.K H2 Z2 y (.int j) := r2
      cases q1
      cases q2
      refine ⟨i, j, rfl, rfl, ⟨by omega, by omega, by omega, by omega, by omega⟩, fun q hq => ?_⟩
      have f : FzAll X.K H2 Z2 (rgV i j) (upto i (j - i).toNat) := by
        have := rgV_fz (X := X) (H := H2) (Z := Z2) i (j - i).toNat 0
        rw [Int.add_zero] at this
        exact this
      exact h2 _ _ _ (M2.newL hq) ⟨q, _, rfl, upd_same, .inr rfl, M2.fresh hq, f.newL M2.ok.zl hq⟩
    · exact h2.elim
  · exact h2.elim
/-- list(range(n)) -/
theorem s_lrg1 {p p2 pos2 : Pos} (hc : X.calm = true) (hg : Gl X "list") (hm : X.mg "list" = none) (hg2 : Gl X "range") (hm2 : X.mg "range" = none) (ha : PE X a (tE X.K fa XX G ma))
    (na : starEach [a] X.env = (false, eval a X.env) :: starEach [] X.env)
    (nc : starEach [.Call (.Name "range" p2) [a] [] pos2] X.env = (false, eval (.Call (.Name "range" p2) [a] [] pos2) X.env) :: starEach [] X.env) :
    PE X (.Call (.Name "list" p) [.Call (.Name "range" p2) [a] [] pos2] [] pos) (tE X.K fa XX G (.lrg (.c (.int 0)) ma)) := by
  refine PE.weak (pe_listRg hc hg hm (prg_1 hg2 hm2 ha na) nc) fun σ H Q ⟨Z, env, ok, h⟩ => ?_
  have e0 : ev G (.lrg (.c (.int 0)) ma) env = (ev G ma env).bind fun q => match q.2 with
    | .v (.int j) => if -1000000 ≤ (0 : Int) ∧ (0 : Int) ≤ 1000000 ∧ -1000000 ≤ j ∧ j ≤ 1000000 then .ok (q.1, .n (upto 0 (j - 0).toNat)) else .bad
    | _ => .bad := by
    have e1 : ev G (.lrg (.c (.int 0)) ma) env = (ev G (.c (.int 0)) env).bind fun p => (ev G ma p.1).bind fun q => match p.2, q.2 with
      | .v (.int i), .v (.int j) => if -1000000 ≤ i ∧ i ≤ 1000000 ∧ -1000000 ≤ j ∧ j ≤ 1000000 then .ok (q.1, .n (upto i (j - i).toNat)) else .bad
      | _, _ => .bad := id rfl
    have e2 : ev G (.c (.int 0)) env = .ok (env, .v (.int 0)) := id rfl
    rw [e1, e2]
    show (ev G ma env).bind _ = _
    cases ev G ma env with
    | ok q =>
      obtain ⟨en, r⟩ := q
      cases r <;> first | rfl | (rename_i x; cases x <;> rfl)
    | ex _ _ => rfl
    | bad => rfl
  rw [e0] at h
  refine tM.mono (Fin.first (.refl ok) h) fun y H2 ⟨Z2, env2, rb, M2, m2, r2, h2⟩ => ?_
  cases rb with
  | v x =>
    cases x with
    | int j =>
      dsimp only at h2
      split at h2
      · rename_i hr
        have q2 : Fz X.K H2 Z2 y (.int j) := r2
        cases q2
        refine ⟨j, rfl, ⟨by omega, by omega, by omega, by omega, by omega⟩, fun q hq => ?_⟩
        have f : FzAll X.K H2 Z2 (rgV 0 j) (upto 0 (j - 0).toNat) := by
          have := rgV_fz (X := X) (H := H2) (Z := Z2) 0 (j - 0).toNat 0
          rw [Int.add_zero] at this
          exact this
        exact h2 _ _ _ (M2.newL hq) ⟨q, _, rfl, upd_same, .inr rfl, M2.fresh hq, f.newL M2.ok.zl hq⟩
      · exact h2.elim
    | _ => exact h2.elim
  | _ => exact h2.elim
end
end Ev

set_option maxRecDepth 100000
set_option maxHeartbeats 4000000
/-! Ev, part L0: enumerate of tuples. -/
namespace Ev
open PySem L2 PyProof.Rows PySem.W
theorem enum_new1 {v : Value} {o : Obj} {H : Heap → Prop} (B : Begins v o H) : Meets (Builtin.«enumerate.__new__» ⟨[.type "enumerate", v], []⟩) (fun _ R s => H s.heap ∧ R (.ok (.ret (.ref (s.heap.push o).objs.size)))
    { s with heap := (s.heap.push o).push { cls := .type "enumerate", data := .fields #[.none, .bool false, .ref s.heap.objs.size, rawInt 0, .none, .none] } }) := .of_wp fun prog w A R s hs => by
  obtain ⟨hp, gs, dr, tk, os⟩ := s
  obtain ⟨h1, h2⟩ := hs
  have hE := sub_enumerate
  have hI : ∀ {A' : Around} {E : Value → Shared → Prop} {Q : Value → Shared → Prop}, Q (.ref hp.objs.size) ⟨hp.push o, gs, dr, tk, os⟩ → wpAny (model prog w) A' (pyIter v) Q E ⟨hp, gs, dr, tk, os⟩ := fun q => B.iter _ _ _ _ ⟨hp, gs, dr, tk, os⟩ _ h1 q
  wp_walk using hI
  refine wpAny_stack_any fun _ => wpAny_pure ?_
  split
  · rename_i c _ _ _ _ _
    cases (c == Value.type "enumerate") <;> (wp_walk using hI; exact ⟨_, rfl, h2⟩)
  · wp_walk using hI; exact ⟨_, rfl, h2⟩
theorem enum_call1 {prog : Program} {w : World} {A : Around} {E : Value → Shared → Prop} {s : Shared} {v : Value} {o : Obj} {H : Heap → Prop} {Q : Value → Shared → Prop} (B : Begins v o H) (h1 : H s.heap)
    (h : ∀ h', IsEnum h' (s.heap.objs.size + 1) s.heap.objs.size 0 .none → h'.get? s.heap.objs.size = some o → (∀ b u, s.heap.get? b = some u → h'.get? b = some u) → Q (.ref (s.heap.objs.size + 1)) { s with heap := h' }) :
    wpAny (model prog w) A (call (.type "enumerate") [v]) Q E s := by
  refine callType_new F.called_enumerate (by decide) (F.typeCall_enumerate_1 _) (F.newCall_enumerate_1 _) (fun obj => F.args_object_init_2 obj _) F.entry_enumerate_new (enum_new1 B) ⟨h1, ?_⟩
  have sz : (s.heap.push o).objs.size = s.heap.objs.size + 1 := Heap.size_push ..
  show _ ∧ _
  rw [sz]
  generalize hob : ({ cls := .type "enumerate", data := .fields #[.none, .bool false, .ref s.heap.objs.size, rawInt 0, .none, .none] } : Obj) = ob
  have e1 : ((s.heap.push o).push ob).get? (s.heap.objs.size + 1) = some ob := by
    have z := Heap.get?_push_size (s.heap.push o) (o := ob) (by rw [← hob]; rfl)
    rwa [sz] at z
  refine ⟨⟨ob, e1, by rw [← hob]⟩, h _ ?_ (Heap.get?_push_of_some _ (Heap.get?_push_size _ B.free)) fun b u z => Heap.get?_push_of_some _ (Heap.get?_push_of_some _ z)⟩
  show _ = _
  rw [e1, ← hob]
/-- enumerate's turns over the tuple at a -/
def IteT (K : PySem.W.Frag) (a : Addr) : It := ⟨fun i H => ∃ (xs : List V) (x : V), SqT K H a xs ∧ xs[i]? = some x,
  fun i H v H' => ∃ T x, v = .ref T ∧ H T = none ∧ H' = upd H T (.tup [.int (i : Nat), x]) ∧ ∀ xs, SqT K H a xs → xs[i]? = some x, fun i H => ∃ xs, SqT K H a xs ∧ xs.length ≤ i⟩
theorem turn_enumT {P : Program} {w : World} {K : PySem.W.Frag} {elts : List Expr} {kk : Nat} {tpos : Pos} (a e it : Addr) :
    Turn P w K (.Tuple elts kk tpos) (IteT K a) [e, it] e (fun i h => (∃ old, IsEnum h e it ((i : Nat) : Int) old) ∧ h.IsTupleIter it a i ∧ e ≠ it ∧ a ≠ it ∧ e ≠ a) where
  mem := by simp
  obj := fun i h st b hb => by
    obtain ⟨⟨old, h1⟩, ⟨o, h2, h3, h4⟩, _⟩ := st
    simp only [List.mem_cons, List.not_mem_nil, or_false] at hb
    rcases hb with rfl | rfl
    · exact ⟨_, h1, fun v q => nomatch q⟩
    · exact ⟨o, h2, fun v q => by rw [h4] at q; cases q⟩
  keep := fun i h h' ⟨⟨old, h1⟩, h2, h3⟩ k => ⟨⟨old, k e (by simp) _ h1⟩, h2.at fun o q => k it (by simp) o q, h3⟩
  item := by
    intro X hP hw hK hc i pins s σ H E I hf st hg
    subst hP hw hK
    obtain ⟨⟨old, he⟩, hit, n1, n2, n3⟩ := st
    obtain ⟨xs, x, hq, hx⟩ := hg
    obtain ⟨its, rv, p, hz⟩ := I.tuple hq
    obtain ⟨u, hu, ru⟩ := rv.get hx
    have le : e < s.heap.objs.size := Heap.lt_size he
    have li : it < s.heap.objs.size := by obtain ⟨_, z, _⟩ := hit; exact Heap.lt_size z
    have hi : i < its.toArray.size := by
      have := (List.getElem?_eq_some_iff.mp hu).1
      simpa using this
    refine wpAny_pyNext_enum_itemC (Draws.tuple (prog := X.prog) (w := X.w) (A := X.A.in1) (I.ok.hd hc) it a n2 its.toArray) he ⟨hit, p⟩ hi n1 (by simp; exact ⟨n1, n3⟩) fun y h' tk hy ho st' hT hsz hk => ?_
    have ey : y = u := by
      have : its[i]? = some y := by simpa using hy
      rw [hu] at this; cases this; rfl
    subst ey
    refine ⟨_, rfl, wpAny_letOwnedTupleGo_enum (s := { s with heap := h', toks := tk + 1 }) ho fun h'' he' sb => ?_⟩
    have hT2 : h''.get? s.heap.objs.size = some { cls := .type "tuple", data := .seq #[.int i tk, y] } := (sb.2 _ (Nat.ne_of_gt le)).trans hT
    have nw : ObjOk X.prog X.w (upd H s.heap.objs.size (.tup [.int (i : Nat), x])) h'' s.heap.objs.size (.tup [.int (i : Nat), x]) := ⟨by show 2 ≤ sizeLine; decide, [.int i tk, y], .cons ⟨_, rfl⟩ (.cons ru .nil), ⟨_, hT2, rfl, _, rfl⟩⟩
    have I1 : Inv X pins σ (upd H s.heap.objs.size (.tup [.int (i : Nat), x])) { s with heap := h'', toks := tk + 1 } :=
      I.turnedNew (ch := [e, it]) (fun b ob hb q => (sb.2 b fun z => hb (by simp [z])).trans (hk b ob (fun z => hb (by simp [z])) (fun z => hb (by simp [z])) q)) hf (Nat.le_refl _) nw
    refine ⟨.ref s.heap.objs.size, _, I1, rfl, ⟨_, x, rfl, I.hok.fresh (Nat.le_refl _), rfl, fun ys hy => by rw [I.tuple_inj hy hq]; exact hx⟩, ⟨⟨y, ?_⟩, st'.1.at fun o q => (sb.2 it (Ne.symm n1)).trans q, n1, n2, n3⟩, fun b hb => ?_⟩
    · rw [show ((i + 1 : Nat) : Int) = (i : Int) + 1 by omega]; exact he'
    · have lb : b < s.heap.objs.size := by
        simp only [List.mem_cons, List.not_mem_nil, or_false] at hb
        rcases hb with rfl | rfl
        · exact le
        · exact li
      rw [upd_ne (Nat.ne_of_lt lb)]
      exact (hf b hb).1
  done := by
    intro X hP hw hK hc i pins s σ H E I hf st hg
    subst hP hw hK
    obtain ⟨⟨old, he⟩, hit, n1, n2, n3⟩ := st
    obtain ⟨xs, hq, hx⟩ := hg
    obtain ⟨its, rv, p, hz⟩ := I.tuple hq
    obtain ⟨f0, f1, f2, f3, f4, f5⟩ := hf it (by simp)
    have hl := rv.length
    have D : Draws X.prog X.w X.A.in1 it [it, a] i (fun _ _ => False) (fun j h => j = i ∧ h.IsTupleIter it a i ∧ h.IsTuple a its.toArray) := {
      live := fun _ _ st => let ⟨o, ho, _⟩ := st.2.1; ⟨o, ho⟩
      frame := fun _ _ _ st k => ⟨st.1, st.2.1.at fun o q => k it (by simp) o q, st.2.2.at fun o q => k a (by simp) o q⟩
      item := fun j _ _ _ hj st => absurd st.1 (Nat.ne_of_lt hj)
      done := fun s' Q E st hE => wpAny_nextOf_tuple_end (A := X.A.in1) (I.ok.hd hc) st.2.1 st.2.2 (by simp; omega) hE }
    exact wpAny_pyNext_enum_endD D he ⟨rfl, hit, p⟩ fun h' eb => ⟨rfl, I.turned (t' := s.toks) (fun b o hb q => eb b o hb q) f0 f1 f3 f4 f5⟩
  self := fun A i s Q E ⟨⟨_, he⟩, _⟩ h => wpAny_pyIter_enum he h
/-- enumerate of a list or of a tuple -/
def iEnumA (K : PySem.W.Frag) (ta : TA) : TI := fun σ H R => ta σ H fun vs H1 => ∃ a xs, vs = [.ref a] ∧ ((SqL K H1 a xs ∧ R (Ite K a) H1) ∨ (SqT K H1 a xs ∧ R (IteT K a) H1))
theorem pi_enumA {X : Cx} {e : Expr} {ta : TA} {p pos tpos : Pos} {elts : List Expr} {kk : Nat} (hg : Gl X "enumerate") (hm : X.mg "enumerate" = none) (ha : PA X [e] ta) (hs : starEach [e] X.env = [(false, eval e X.env)]) :
    PI X (.Tuple elts kk tpos) (.Call (.Name "enumerate" p) [e] [] pos) (iEnumA X.K ta) := by
  refine ⟨fun pins s σ H R I h => ?_⟩
  refine Call_ (ld_blt I hg hm boot_enumerate (PyProof.Rows.callWith_type1 (thn (ha.run pos pins s σ H _ I h) fun us s1 ⟨vs, H1, I1, r1, a, xs, ex, q1⟩ => ?_) hs rfl))
  subst ex
  obtain rfl := Vals.ref1 r1
  have nf : ∀ b, b = s1.heap.objs.size + 1 ∨ b = s1.heap.objs.size → FpOk X pins H1 b := fun b hb => by
    have le : s1.heap.objs.size ≤ b := by omega
    exact I1.fpOk le (I1.hok.fresh le)
  rcases q1 with ⟨hq, q⟩ | ⟨hq, q⟩
  · obtain ⟨its, rv, p', hz⟩ := I1.list hq
    refine call_enumerate_list p'.isList fun h' he hit hsz hk => wpAny_pyIter_enum he ?_
    exact ⟨s1.heap.objs.size + 1, [s1.heap.objs.size + 1, s1.heap.objs.size], _, _, H1, rfl, I1.kept (t' := s1.toks) hk, turn_enum a _ _, ⟨⟨.none, he⟩, hit, Nat.succ_ne_self _⟩, fun b hb => nf b (by simpa using hb), q⟩
  · obtain ⟨its, rv, p', hz⟩ := I1.tuple hq
    obtain ⟨oa, ea, _⟩ := id p'
    have la : a < s1.heap.objs.size := Heap.lt_size ea
    refine enum_call1 (begins_tuple a its.toArray) p' fun h' he hit hk => wpAny_pyIter_enum he ?_
    refine ⟨s1.heap.objs.size + 1, [s1.heap.objs.size + 1, s1.heap.objs.size], _, _, H1, rfl, I1.kept (t' := s1.toks) hk, turn_enumT a _ _, ⟨⟨.none, he⟩, ⟨_, hit, rfl, rfl⟩, Nat.succ_ne_self _, Nat.ne_of_lt la, fun e => absurd (show s1.heap.objs.size + 1 < s1.heap.objs.size from e ▸ la) (Nat.not_succ_lt_self)⟩, fun b hb => nf b (by simpa using hb), q⟩
/-- a list or a tuple walked -/
def iSeq (K : PySem.W.Frag) (tl : TE) : TI := fun σ H R => tl σ H fun x H1 => ∃ a xs, x = .ref a ∧ ((SqL K H1 a xs ∧ R (Itl K a) H1) ∨ (SqT K H1 a xs ∧ R (Itt K a) H1))
theorem pi_seq {X : Cx} {tg l : Expr} {tl : TE} (hl : PE X l tl) : PI X tg l (iSeq X.K tl) := by
  refine ⟨fun pins s σ H R I h => thn (hl.run pins s σ H _ I h) fun v s1 ⟨x, H1, I1, r1, a, xs, ex, q1⟩ => ?_⟩
  subst ex
  cases r1
  have nf : ∀ b ∈ [s1.heap.objs.size], FpOk X pins H1 b := fun b hb => by
    rw [List.mem_singleton.mp hb]
    exact I1.fpOk (Nat.le_refl _) (I1.hok.fresh (Nat.le_refl _))
  rcases q1 with ⟨hq, q⟩ | ⟨hq, q⟩
  · obtain ⟨its, rv, p, hz⟩ := I1.list hq
    exact wpAny_pyIter_list p.isList ⟨s1.heap.objs.size, [s1.heap.objs.size], _, _, H1, rfl, I1.kept (t' := s1.toks) fun b o e => Heap.get?_push_of_some _ e, turn_list a _, ⟨_, Heap.get?_push_size _ rfl, rfl, rfl⟩, nf, q⟩
  · obtain ⟨its, rv, p, hz⟩ := I1.tuple hq
    exact wpAny_pyIter_tuple (show s1.heap.IsTuple a its.toArray from p) ⟨s1.heap.objs.size, [s1.heap.objs.size], _, _, H1, rfl, I1.kept (t' := s1.toks) fun b o e => Heap.get?_push_of_some _ e, turn_tuple a _, ⟨_, Heap.get?_push_size _ rfl, rfl, rfl⟩, nf, q⟩
end Ev

set_option maxRecDepth 100000
set_option maxHeartbeats 4000000
/-! Ev, part L1: zip of three lists or tuples. -/
namespace Ev
open PySem L2 PyProof.Rows PySem.W
def itB (t : Bool) (h : Heap) (it a : Addr) (i : Nat) : Prop := match t with
  | true => h.IsListIter it a i
  | false => h.IsTupleIter it a i
def sqH (t : Bool) (h : Heap) (a : Addr) (items : Array Value) : Prop := match t with
  | true => h.IsList a items
  | false => h.IsTuple a items
def SqB (K : PySem.W.Frag) (t : Bool) (H : Hp) (a : Addr) (xs : List V) : Prop := match t with
  | true => SqL K H a xs
  | false => SqT K H a xs
def itO (t : Bool) (a : Addr) : Obj := match t with
  | true => { cls := .type "list_iterator", data := .fields #[.ref a, .int 0 0] }
  | false => { cls := .type "tuple_iterator", data := .fields #[.ref a, .int 0 0] }
theorem drawB {prog : Program} {w : World} {A : Around} (t : Bool) (hh : A.handled = none) (it a : Addr) (hne : a ≠ it) (items : Array Value) : Draws prog w A it [it, a] items.size (fun i v => items[i]? = some v) (fun i h => itB t h it a i ∧ sqH t h a items) := by
  cases t
  · exact Draws.tuple hh it a hne items
  · exact Draws.list hh it a hne items
theorem beginB (t : Bool) (a : Addr) (items : Array Value) : Begins (.ref a) (itO t a) (fun h => sqH t h a items) := by
  cases t
  · exact begins_tuple a items
  · exact begins_list a items
theorem itB_new {t : Bool} {h : Heap} {it a : Addr} (e : h.get? it = some (itO t a)) : itB t h it a 0 := by
  cases t
  · exact ⟨_, e, rfl, rfl⟩
  · exact ⟨_, e, rfl, rfl⟩
theorem itB_at {t : Bool} {h h' : Heap} {it a : Addr} {i : Nat} (q : itB t h it a i) (k : ∀ o, h.get? it = some o → h'.get? it = some o) : itB t h' it a i := by
  cases t
  · exact Heap.IsTupleIter.at q fun o e => k o e
  · exact Heap.IsListIter.at q fun o e => k o e
theorem itB_obj {t : Bool} {h : Heap} {it a : Addr} {i : Nat} (q : itB t h it a i) : ∃ o, h.get? it = some o ∧ ∀ v, o.data ≠ .cell v := by
  cases t
  · obtain ⟨o, e, _, d⟩ := q
    exact ⟨o, e, fun v z => by rw [d] at z; cases z⟩
  · obtain ⟨o, e, _, d⟩ := q
    exact ⟨o, e, fun v z => by rw [d] at z; cases z⟩
theorem SqB.inv {X : Cx} {pins : List (Addr × Obj)} {σ : L2.St} {H : Hp} {s : Shared} {t : Bool} {a : Addr} {xs : List V} (I : L2.Inv X pins σ H s) (h : SqB X.K t H a xs) : ∃ its : List Value, Vals xs its ∧ sqH t s.heap a its.toArray ∧ a < s.heap.objs.size := by
  cases t
  · obtain ⟨its, rv, p, _⟩ := I.tuple h
    obtain ⟨o, e, _⟩ := id p
    exact ⟨its, rv, p, Heap.lt_size e⟩
  · obtain ⟨its, rv, p, _⟩ := I.list h
    exact ⟨its, rv, p.isList, p.lt⟩
theorem SqB.inj {X : Cx} {pins : List (Addr × Obj)} {σ : L2.St} {H : Hp} {s : Shared} {t : Bool} {a : Addr} {xs ys : List V} (I : L2.Inv X pins σ H s) (h : SqB X.K t H a xs) (h' : SqB X.K t H a ys) : xs = ys := by
  cases t
  · exact I.tuple_inj h h'
  · exact I.list_inj h h'
/-- the turns of zip of two, lists or tuples -/
def It2 (K : PySem.W.Frag) (t1 t2 : Bool) (a b : Addr) : It := ⟨fun i H => ∃ xs ys : List V, SqB K t1 H a xs ∧ SqB K t2 H b ys ∧ i < min xs.length ys.length,
  fun i H v H' => ∃ T x y, v = .ref T ∧ H T = none ∧ H' = upd H T (.tup [x, y]) ∧ (∀ xs, SqB K t1 H a xs → xs[i]? = some x) ∧ ∀ ys, SqB K t2 H b ys → ys[i]? = some y,
  fun i H => ∃ xs ys : List V, SqB K t1 H a xs ∧ SqB K t2 H b ys ∧ i = min xs.length ys.length⟩
theorem turn_zip2 {P : Program} {w : World} {K : PySem.W.Frag} {elts : List Expr} {kk : Nat} {tpos : Pos} {t1 t2 : Bool} {a b z TI TO i1 i2 : Addr} (S : ZipSep2 z TI TO i1 i2 [i1, a] [i2, b]) (n1 : a ≠ i1) (n2 : b ≠ i2) :
    Turn P w K (.Tuple elts kk tpos) (It2 K t1 t2 a b) [z, TI, TO, i1, i2] z (fun i h => IsZip h z TI TO .none ∧ IsTupOf2 h TI (.ref i1) (.ref i2) ∧ (∃ x y, IsTupOf2 h TO x y) ∧ itB t1 h i1 a i ∧ itB t2 h i2 b i) where
  mem := by simp
  obj := fun i h st d hd => by
    obtain ⟨q1, q2, ⟨x, y, q3⟩, q4, q5⟩ := st
    simp only [List.mem_cons, List.not_mem_nil, or_false] at hd
    rcases hd with rfl | rfl | rfl | rfl | rfl
    · exact ⟨_, q1, fun v q => nomatch q⟩
    · exact ⟨_, q2, fun v q => nomatch q⟩
    · exact ⟨_, q3, fun v q => nomatch q⟩
    · exact itB_obj q4
    · exact itB_obj q5
  keep := fun i h h' st k => by
    obtain ⟨q1, q2, ⟨x, y, q3⟩, q4, q5⟩ := st
    exact ⟨k z (by simp) _ q1, k TI (by simp) _ q2, ⟨x, y, k TO (by simp) _ q3⟩, itB_at q4 (k i1 (by simp)), itB_at q5 (k i2 (by simp))⟩
  item := by
    intro X hP hw hK hc i pins s σ H E I hf st hg
    subst hP hw hK
    obtain ⟨q1, q2, ⟨x0, y0, q3⟩, q4, q5⟩ := st
    obtain ⟨xs, ys, hx, hy, hi⟩ := hg
    obtain ⟨i1s, r1, p1, _⟩ := hx.inv I
    obtain ⟨i2s, r2, p2, _⟩ := hy.inv I
    have l1 := r1.length
    have l2 := r2.length
    have hh : X.A.in1.handled = none := I.ok.hd hc
    have Wk := WalksT.zipD2 (prog := X.prog) (w := X.w) (A := X.A) S (drawB t1 hh i1 a n1 i1s.toArray) (drawB t2 hh i2 b n2 i2s.toArray)
    refine Wk.item i s _ _ (by simp only [List.size_toArray]; omega) ⟨q1, q2, ⟨x0, y0, q3⟩, ⟨q4, p1⟩, ⟨q5, p2⟩⟩ fun T vals h' tk hv hT ht hm hk => ?_
    refine ⟨.ref T, rfl, Wk.go elts kk tpos i T { s with heap := h', toks := tk } _ _ hm fun h'' hs hk2 => ?_⟩
    obtain ⟨u1, u2, e1, e2, rfl⟩ := hv
    have hx0 : xs[i]? = some xs[i] := List.getElem?_eq_getElem (by omega)
    have hy0 : ys[i]? = some ys[i] := List.getElem?_eq_getElem (by omega)
    have rel : ∀ {vs : List V} {us : List Value} {u : Value} {v : V}, Vals vs us → vs[i]? = some v → us.toArray[i]? = some u → RelV v u := fun {vs us u v} r e e' => by
      obtain ⟨u', q, q'⟩ := r.get e
      have e' : us[i]? = some u := by simpa using e'
      rw [q] at e'
      cases e'
      exact q'
    have a1 := rel r1 hx0 e1
    have a2 := rel r2 hy0 e2
    have nT := Wk.apart i T h' hm
    have ht2 : h''.IsTuple T #[u1, u2] := by
      obtain ⟨o, g1, g2⟩ := ht
      exact ⟨o, hk2 T o nT g1, g2⟩
    have hn : H T = none := I.hok.fresh hT
    have nw : ObjOk X.prog X.w (upd H T (.tup [xs[i], ys[i]])) h'' T (.tup [xs[i], ys[i]]) := ⟨by show 2 ≤ sizeLine; decide, [u1, u2], .cons a1 (.cons a2 .nil), ht2⟩
    have sub : ∀ d, d ∈ [z, TO, i1, i2] → d ∈ [z, TI, TO, i1, i2] := fun d hd => by
      simp only [List.mem_cons, List.not_mem_nil, or_false] at hd ⊢
      rcases hd with rfl | rfl | rfl | rfl <;> simp
    have I1 : L2.Inv X pins σ (upd H T (.tup [xs[i], ys[i]])) { s with heap := h'', toks := tk } :=
      I.turnedNew (ch := [z, TI, TO, i1, i2]) (fun d o hd q => hk2 d o (fun m => hd (sub d m)) (hk d o (fun m => hd (sub d m)) q)) hf hT nw
    obtain ⟨s1, s2, s3, s4, s5⟩ := hs
    refine ⟨.ref T, _, I1, rfl, ⟨T, _, _, rfl, hn, rfl, fun l hl => by rw [hl.inj I hx]; exact hx0, fun l hl => by rw [hl.inj I hy]; exact hy0⟩, ⟨s1, s2, s3, s4.1, s5.1⟩, fun d hd => ?_⟩
    have lt : d < s.heap.objs.size := by
      simp only [List.mem_cons, List.not_mem_nil, or_false] at hd
      rcases hd with rfl | rfl | rfl | rfl | rfl
      · exact Heap.lt_size q1
      · exact Heap.lt_size q2
      · exact Heap.lt_size q3
      · obtain ⟨o, e, _⟩ := itB_obj q4; exact Heap.lt_size e
      · obtain ⟨o, e, _⟩ := itB_obj q5; exact Heap.lt_size e
    rw [upd_ne (Nat.ne_of_lt (Nat.lt_of_lt_of_le lt hT))]
    exact (hf d hd).1
  done := by
    intro X hP hw hK hc i pins s σ H E I hf st hg
    subst hP hw hK
    obtain ⟨q1, q2, ⟨x0, y0, q3⟩, q4, q5⟩ := st
    obtain ⟨xs, ys, hx, hy, hi⟩ := hg
    obtain ⟨i1s, r1, p1, _⟩ := hx.inv I
    obtain ⟨i2s, r2, p2, _⟩ := hy.inv I
    have l1 := r1.length
    have l2 := r2.length
    have hh : X.A.in1.handled = none := I.ok.hd hc
    have Wk := WalksT.zipD2 (prog := X.prog) (w := X.w) (A := X.A) S (drawB t1 hh i1 a n1 i1s.toArray) (drawB t2 hh i2 b n2 i2s.toArray)
    have en : i = min i1s.toArray.size i2s.toArray.size := by simp only [List.size_toArray]; omega
    subst en
    obtain ⟨f0, f1, f2, f3, f4, f5⟩ := hf z (by simp)
    refine Wk.done s _ _ ⟨q1, q2, ⟨x0, y0, q3⟩, ⟨q4, p1⟩, ⟨q5, p2⟩⟩ fun h' tk hk => ⟨rfl, ?_⟩
    refine I.turnedL (t' := tk) (ch := [z, TI, TO, i1, i2]) (fun d o hd q => hk d o (fun m => hd ?_) q) hf
    simp only [List.mem_cons, List.not_mem_nil, or_false] at m ⊢
    rcases m with rfl | rfl | rfl | rfl <;> simp
  self := fun A i s Q E st h => wpAny_pyIter_zip st.1 h
def iZip2 (K : PySem.W.Frag) (ta : TA) : TI := fun σ H R => ta σ H fun vs H1 => ∃ a b xs ys t1 t2, vs = [V.ref a, V.ref b] ∧ SqB K t1 H1 a xs ∧ SqB K t2 H1 b ys ∧ R (It2 K t1 t2 a b) H1
theorem pi_zip2 {X : Cx} {es : List Expr} {e : Expr} {ta : TA} {p pos tpos : Pos} {elts : List Expr} {kk : Nat} (hg : Gl X "zip") (hm : X.mg "zip" = none) (ha : PA X (e :: es) ta) (hs : starEach (e :: es) X.env = (false, eval e X.env) :: starEach es X.env) (hpl : (backTo pos (starEach es X.env)).any (·.1) = false) :
    PI X (.Tuple elts kk tpos) (.Call (.Name "zip" p) (e :: es) [] pos) (iZip2 X.K ta) := by
  refine ⟨fun pins s σ H R I h => ?_⟩
  refine Call_ (ld_blt I hg hm PyProof.Rows.boot_zip (PyProof.Rows.callWith_type1 (thn (ha.run pos pins s σ H _ I h) fun us s1 ⟨vs, H1, I1, r1, a, b, xs, ys, t1, t2, ex, hx, hy, q⟩ => ?_) hs hpl))
  subst ex
  obtain rfl : us = [.ref a, .ref b] := by
    cases r1 with
    | cons r r1 =>
      cases r1 with
      | cons r' r1 => cases r1; cases r; cases r'; rfl
  obtain ⟨i1s, v1, p1, l1⟩ := hx.inv I1
  obtain ⟨i2s, v2, p2, l2⟩ := hy.inv I1
  refine zip_begins2 (beginB t1 a i1s.toArray) (beginB t2 b i2s.toArray) p1 p2 fun h' g1 g2 g3 g4 g5 hsz hk => wpAny_pyIter_zip g1 ?_
  have S := zip_sep2 (N := s1.heap.objs.size) (fp1 := [a]) (fp2 := [b]) (fun d hd => by rw [List.mem_singleton.mp hd]; exact l1) (fun d hd => by rw [List.mem_singleton.mp hd]; exact l2)
  refine ⟨s1.heap.objs.size + 4, [s1.heap.objs.size + 4, s1.heap.objs.size + 2, s1.heap.objs.size + 3, s1.heap.objs.size, s1.heap.objs.size + 1], _, _, H1, rfl, I1.kept (t' := s1.toks) hk,
    turn_zip2 (t1 := t1) (t2 := t2) S (Nat.ne_of_lt l1) (fun e => ?_), ⟨g1, g2, ⟨_, _, g3⟩, itB_new g4, itB_new g5⟩, fun d hd => ?_, q⟩
  · exact absurd (e ▸ l2) (Nat.not_lt.mpr (Nat.le_add_right _ _))
  · have le : s1.heap.objs.size ≤ d := by
      simp only [List.mem_cons, List.not_mem_nil, or_false] at hd
      rcases hd with rfl | rfl | rfl | rfl | rfl
      · exact Nat.le_add_right _ _
      · exact Nat.le_add_right _ _
      · exact Nat.le_add_right _ _
      · exact Nat.le_refl _
      · exact Nat.le_add_right _ _
    exact I1.fpOk le (I1.hok.fresh le)
/-- the turns of zip of three -/
def It3 (K : PySem.W.Frag) (t1 t2 t3 : Bool) (a b c : Addr) : It := ⟨fun i H => ∃ xs ys zs : List V, SqB K t1 H a xs ∧ SqB K t2 H b ys ∧ SqB K t3 H c zs ∧ i < min (min xs.length ys.length) zs.length,
  fun i H v H' => ∃ T x y z, v = .ref T ∧ H T = none ∧ H' = upd H T (.tup [x, y, z]) ∧ (∀ xs, SqB K t1 H a xs → xs[i]? = some x) ∧ (∀ ys, SqB K t2 H b ys → ys[i]? = some y) ∧ ∀ zs, SqB K t3 H c zs → zs[i]? = some z,
  fun i H => ∃ xs ys zs : List V, SqB K t1 H a xs ∧ SqB K t2 H b ys ∧ SqB K t3 H c zs ∧ i = min (min xs.length ys.length) zs.length⟩
theorem turn_zip3 {P : Program} {w : World} {K : PySem.W.Frag} {elts : List Expr} {kk : Nat} {tpos : Pos} {t1 t2 t3 : Bool} {a b c z TI TO i1 i2 i3 : Addr} (S : ZipSep3 z TI TO i1 i2 i3 [i1, a] [i2, b] [i3, c]) (n1 : a ≠ i1) (n2 : b ≠ i2) (n3 : c ≠ i3) :
    Turn P w K (.Tuple elts kk tpos) (It3 K t1 t2 t3 a b c) [z, TI, TO, i1, i2, i3] z (fun i h => IsZip h z TI TO .none ∧ IsTupOf3 h TI (.ref i1) (.ref i2) (.ref i3) ∧ (∃ x y u, IsTupOf3 h TO x y u) ∧ itB t1 h i1 a i ∧ itB t2 h i2 b i ∧ itB t3 h i3 c i) where
  mem := by simp
  obj := fun i h st d hd => by
    obtain ⟨q1, q2, ⟨x, y, u, q3⟩, q4, q5, q6⟩ := st
    simp only [List.mem_cons, List.not_mem_nil, or_false] at hd
    rcases hd with rfl | rfl | rfl | rfl | rfl | rfl
    · exact ⟨_, q1, fun v q => nomatch q⟩
    · exact ⟨_, q2, fun v q => nomatch q⟩
    · exact ⟨_, q3, fun v q => nomatch q⟩
    · exact itB_obj q4
    · exact itB_obj q5
    · exact itB_obj q6
  keep := fun i h h' st k => by
    obtain ⟨q1, q2, ⟨x, y, u, q3⟩, q4, q5, q6⟩ := st
    exact ⟨k z (by simp) _ q1, k TI (by simp) _ q2, ⟨x, y, u, k TO (by simp) _ q3⟩, itB_at q4 (k i1 (by simp)), itB_at q5 (k i2 (by simp)), itB_at q6 (k i3 (by simp))⟩
  item := by
    intro X hP hw hK hc i pins s σ H E I hf st hg
    subst hP hw hK
    obtain ⟨q1, q2, ⟨x0, y0, u0, q3⟩, q4, q5, q6⟩ := st
    obtain ⟨xs, ys, zs, hx, hy, hz, hi⟩ := hg
    obtain ⟨i1s, r1, p1, _⟩ := hx.inv I
    obtain ⟨i2s, r2, p2, _⟩ := hy.inv I
    obtain ⟨i3s, r3, p3, _⟩ := hz.inv I
    have l1 := r1.length
    have l2 := r2.length
    have l3 := r3.length
    have hh : X.A.in1.handled = none := I.ok.hd hc
    have Wk := WalksT.zipD3 (prog := X.prog) (w := X.w) (A := X.A) S (drawB t1 hh i1 a n1 i1s.toArray) (drawB t2 hh i2 b n2 i2s.toArray) (drawB t3 hh i3 c n3 i3s.toArray)
    refine Wk.item i s _ _ (by simp only [List.size_toArray]; omega) ⟨q1, q2, ⟨x0, y0, u0, q3⟩, ⟨q4, p1⟩, ⟨q5, p2⟩, ⟨q6, p3⟩⟩ fun T vals h' tk hv hT ht hm hk => ?_
    refine ⟨.ref T, rfl, Wk.go elts kk tpos i T { s with heap := h', toks := tk } _ _ hm fun h'' hs hk2 => ?_⟩
    obtain ⟨u1, u2, u3, e1, e2, e3, rfl⟩ := hv
    have hx0 : xs[i]? = some xs[i] := List.getElem?_eq_getElem (by omega)
    have hy0 : ys[i]? = some ys[i] := List.getElem?_eq_getElem (by omega)
    have hz0 : zs[i]? = some zs[i] := List.getElem?_eq_getElem (by omega)
    have rel : ∀ {vs : List V} {us : List Value} {u : Value} {v : V}, Vals vs us → vs[i]? = some v → us.toArray[i]? = some u → RelV v u := fun {vs us u v} r e e' => by
      obtain ⟨u', q, q'⟩ := r.get e
      have e' : us[i]? = some u := by simpa using e'
      rw [q] at e'
      cases e'
      exact q'
    have a1 := rel r1 hx0 e1
    have a2 := rel r2 hy0 e2
    have a3 := rel r3 hz0 e3
    have nT := Wk.apart i T h' hm
    have ht2 : h''.IsTuple T #[u1, u2, u3] := by
      obtain ⟨o, g1, g2⟩ := ht
      exact ⟨o, hk2 T o nT g1, g2⟩
    have hn : H T = none := I.hok.fresh hT
    have nw : ObjOk X.prog X.w (upd H T (.tup [xs[i], ys[i], zs[i]])) h'' T (.tup [xs[i], ys[i], zs[i]]) := ⟨by show 3 ≤ sizeLine; decide, [u1, u2, u3], .cons a1 (.cons a2 (.cons a3 .nil)), ht2⟩
    have sub : ∀ d, d ∈ [z, TO, i1, i2, i3] → d ∈ [z, TI, TO, i1, i2, i3] := fun d hd => by
      simp only [List.mem_cons, List.not_mem_nil, or_false] at hd ⊢
      rcases hd with rfl | rfl | rfl | rfl | rfl <;> simp
    have I1 : L2.Inv X pins σ (upd H T (.tup [xs[i], ys[i], zs[i]])) { s with heap := h'', toks := tk } :=
      I.turnedNew (ch := [z, TI, TO, i1, i2, i3]) (fun d o hd q => hk2 d o (fun m => hd (sub d m)) (hk d o (fun m => hd (sub d m)) q)) hf hT nw
    obtain ⟨s1, s2, s3, s4, s5, s6⟩ := hs
    refine ⟨.ref T, _, I1, rfl, ⟨T, _, _, _, rfl, hn, rfl, fun l hl => by rw [hl.inj I hx]; exact hx0, fun l hl => by rw [hl.inj I hy]; exact hy0, fun l hl => by rw [hl.inj I hz]; exact hz0⟩, ⟨s1, s2, s3, s4.1, s5.1, s6.1⟩, fun d hd => ?_⟩
    have lt : d < s.heap.objs.size := by
      simp only [List.mem_cons, List.not_mem_nil, or_false] at hd
      rcases hd with rfl | rfl | rfl | rfl | rfl | rfl
      · exact Heap.lt_size q1
      · exact Heap.lt_size q2
      · exact Heap.lt_size q3
      · obtain ⟨o, e, _⟩ := itB_obj q4; exact Heap.lt_size e
      · obtain ⟨o, e, _⟩ := itB_obj q5; exact Heap.lt_size e
      · obtain ⟨o, e, _⟩ := itB_obj q6; exact Heap.lt_size e
    rw [upd_ne (Nat.ne_of_lt (Nat.lt_of_lt_of_le lt hT))]
    exact (hf d hd).1
  done := by
    intro X hP hw hK hc i pins s σ H E I hf st hg
    subst hP hw hK
    obtain ⟨q1, q2, ⟨x0, y0, u0, q3⟩, q4, q5, q6⟩ := st
    obtain ⟨xs, ys, zs, hx, hy, hz, hi⟩ := hg
    obtain ⟨i1s, r1, p1, _⟩ := hx.inv I
    obtain ⟨i2s, r2, p2, _⟩ := hy.inv I
    obtain ⟨i3s, r3, p3, _⟩ := hz.inv I
    have l1 := r1.length
    have l2 := r2.length
    have l3 := r3.length
    have hh : X.A.in1.handled = none := I.ok.hd hc
    have Wk := WalksT.zipD3 (prog := X.prog) (w := X.w) (A := X.A) S (drawB t1 hh i1 a n1 i1s.toArray) (drawB t2 hh i2 b n2 i2s.toArray) (drawB t3 hh i3 c n3 i3s.toArray)
    have en : i = min (min i1s.toArray.size i2s.toArray.size) i3s.toArray.size := by simp only [List.size_toArray]; omega
    subst en
    obtain ⟨f0, f1, f2, f3, f4, f5⟩ := hf z (by simp)
    refine Wk.done s _ _ ⟨q1, q2, ⟨x0, y0, u0, q3⟩, ⟨q4, p1⟩, ⟨q5, p2⟩, ⟨q6, p3⟩⟩ fun h' tk hk => ⟨rfl, ?_⟩
    refine I.turnedL (t' := tk) (ch := [z, TI, TO, i1, i2, i3]) (fun d o hd q => hk d o (fun m => hd ?_) q) hf
    simp only [List.mem_cons, List.not_mem_nil, or_false] at m ⊢
    rcases m with rfl | rfl | rfl | rfl | rfl <;> simp
  self := fun A i s Q E st h => wpAny_pyIter_zip st.1 h
def iZip3 (K : PySem.W.Frag) (ta : TA) : TI := fun σ H R => ta σ H fun vs H1 => ∃ a b c xs ys zs t1 t2 t3, vs = [V.ref a, V.ref b, V.ref c] ∧ SqB K t1 H1 a xs ∧ SqB K t2 H1 b ys ∧ SqB K t3 H1 c zs ∧ R (It3 K t1 t2 t3 a b c) H1
theorem pi_zip3 {X : Cx} {es : List Expr} {e : Expr} {ta : TA} {p pos tpos : Pos} {elts : List Expr} {kk : Nat} (hg : Gl X "zip") (hm : X.mg "zip" = none) (ha : PA X (e :: es) ta) (hs : starEach (e :: es) X.env = (false, eval e X.env) :: starEach es X.env) (hpl : (backTo pos (starEach es X.env)).any (·.1) = false) :
    PI X (.Tuple elts kk tpos) (.Call (.Name "zip" p) (e :: es) [] pos) (iZip3 X.K ta) := by
  refine ⟨fun pins s σ H R I h => ?_⟩
  refine Call_ (ld_blt I hg hm PyProof.Rows.boot_zip (PyProof.Rows.callWith_type1 (thn (ha.run pos pins s σ H _ I h) fun us s1 ⟨vs, H1, I1, r1, a, b, c, xs, ys, zs, t1, t2, t3, ex, hx, hy, hz, q⟩ => ?_) hs hpl))
  subst ex
  obtain rfl : us = [.ref a, .ref b, .ref c] := by
    cases r1 with
    | cons r r1 =>
      cases r1 with
      | cons r' r1 =>
        cases r1 with
        | cons r'' r1 => cases r1; cases r; cases r'; cases r''; rfl
  obtain ⟨i1s, v1, p1, l1⟩ := hx.inv I1
  obtain ⟨i2s, v2, p2, l2⟩ := hy.inv I1
  obtain ⟨i3s, v3, p3, l3⟩ := hz.inv I1
  refine zip_begins3 (beginB t1 a i1s.toArray) (beginB t2 b i2s.toArray) (beginB t3 c i3s.toArray) p1 p2 p3 fun h' g1 g2 g3 g4 g5 g6 hsz hk => wpAny_pyIter_zip g1 ?_
  have S := zip_sep3 (N := s1.heap.objs.size) (fp1 := [a]) (fp2 := [b]) (fp3 := [c]) (fun d hd => by rw [List.mem_singleton.mp hd]; exact l1) (fun d hd => by rw [List.mem_singleton.mp hd]; exact l2) (fun d hd => by rw [List.mem_singleton.mp hd]; exact l3)
  refine ⟨s1.heap.objs.size + 5, [s1.heap.objs.size + 5, s1.heap.objs.size + 3, s1.heap.objs.size + 4, s1.heap.objs.size, s1.heap.objs.size + 1, s1.heap.objs.size + 2], _, _, H1, rfl, I1.kept (t' := s1.toks) hk,
    turn_zip3 (t1 := t1) (t2 := t2) (t3 := t3) S (Nat.ne_of_lt l1) (fun e => ?_) (fun e => ?_), ⟨g1, g2, ⟨_, _, _, g3⟩, itB_new g4, itB_new g5, itB_new g6⟩, fun d hd => ?_, q⟩
  · exact absurd (e ▸ l2) (Nat.not_lt.mpr (Nat.le_add_right _ _))
  · exact absurd (e ▸ l3) (Nat.not_lt.mpr (Nat.le_add_right _ _))
  · have le : s1.heap.objs.size ≤ d := by
      simp only [List.mem_cons, List.not_mem_nil, or_false] at hd
      rcases hd with rfl | rfl | rfl | rfl | rfl | rfl
      · exact Nat.le_add_right _ _
      · exact Nat.le_add_right _ _
      · exact Nat.le_add_right _ _
      · exact Nat.le_refl _
      · exact Nat.le_add_right _ _
      · exact Nat.le_add_right _ _
    exact I1.fpOk le (I1.hok.fresh le)
end Ev

/-! Ev, part L: walks; names' lists locked while they are walked. -/
namespace Ev
open PySem L2 PyProof.Rows

/-! ### items by their numbers -/
theorem upto_len : ∀ (n : Nat) (lo : Int), (upto lo n).length = n
  | 0, _ => rfl
  | n + 1, lo => by show (upto (lo + 1) n).length + 1 = n + 1; rw [upto_len n]
theorem upto_get : ∀ (n : Nat) (lo : Int) (i : Nat) (d : PyData), (upto lo n)[i]? = some d → i < n ∧ d = .int (lo + i)
  | 0, _, i, d, h => by simp [upto] at h
  | n + 1, lo, 0, d, h => by simp [upto] at h; subst h; exact ⟨Nat.succ_pos _, by simp⟩
  | n + 1, lo, i + 1, d, h => by
    obtain ⟨h1, h2⟩ := upto_get n (lo + 1) i d (by simpa [upto] using h)
    refine ⟨Nat.succ_lt_succ h1, ?_⟩
    rw [h2]; congr 1; omega
theorem stepto_len (c : Int) : ∀ (n : Nat) (lo : Int), (stepto lo c n).length = n
  | 0, _ => rfl
  | n + 1, lo => by show (stepto (lo + c) c n).length + 1 = n + 1; rw [stepto_len c n]
theorem stepto_get (c : Int) : ∀ (n : Nat) (lo : Int) (i : Nat) (d : PyData), (stepto lo c n)[i]? = some d → i < n ∧ d = .int (lo + (i : Nat) * c)
  | 0, _, i, d, h => by simp [stepto] at h
  | n + 1, lo, 0, d, h => by simp [stepto] at h; subst h; exact ⟨Nat.succ_pos _, by simp⟩
  | n + 1, lo, i + 1, d, h => by
    obtain ⟨h1, h2⟩ := stepto_get c n (lo + c) i d (by simpa [stepto] using h)
    refine ⟨Nat.succ_lt_succ h1, ?_⟩
    rw [h2]; congr 1
    rw [Int.natCast_succ, Int.add_mul, Int.one_mul]; omega
theorem numd_len : ∀ (xs : List PyData) (k : Int), (numd k xs).length = xs.length
  | [], _ => rfl
  | x :: xs, k => by show (numd (k + 1) xs).length + 1 = _; rw [numd_len xs]; rfl
theorem numd_get : ∀ (xs : List PyData) (k : Int) (i : Nat) (d : PyData), (numd k xs)[i]? = some d → ∃ x, xs[i]? = some x ∧ d = .tuple [.int (k + i), x]
  | [], _, i, d, h => by simp [numd] at h
  | x :: xs, k, 0, d, h => by simp [numd] at h; subst h; exact ⟨x, rfl, by simp⟩
  | x :: xs, k, i + 1, d, h => by
    obtain ⟨y, h1, h2⟩ := numd_get xs (k + 1) i d (by simpa [numd] using h)
    refine ⟨y, by simpa using h1, ?_⟩
    rw [h2]
    rw [show k + 1 + (i : Int) = k + ((i + 1 : Nat) : Int) by omega]
theorem pairs_get : ∀ (xs ys : List PyData) (i : Nat) (d : PyData), (pairs xs ys)[i]? = some d → ∃ x y, xs[i]? = some x ∧ ys[i]? = some y ∧ d = .tuple [x, y]
  | [], _, i, d, h => by simp [pairs] at h
  | _ :: _, [], i, d, h => by simp [pairs] at h
  | x :: xs, y :: ys, 0, d, h => by simp [pairs] at h; subst h; exact ⟨x, y, rfl, rfl, rfl⟩
  | x :: xs, y :: ys, i + 1, d, h => by
    obtain ⟨a, b, h1, h2, h3⟩ := pairs_get xs ys i d (by simpa [pairs] using h)
    exact ⟨a, b, by simpa using h1, by simpa using h2, h3⟩
theorem pairs_len : ∀ (xs ys : List PyData), (pairs xs ys).length = min xs.length ys.length
  | [], _ => by simp [pairs]
  | _ :: _, [] => by simp [pairs]
  | x :: xs, y :: ys => by
    show (pairs xs ys).length + 1 = min (xs.length + 1) (ys.length + 1)
    rw [pairs_len xs ys]; omega
theorem triples_get : ∀ (xs ys zs : List PyData) (i : Nat) (d : PyData), (triples xs ys zs)[i]? = some d → ∃ x y z, xs[i]? = some x ∧ ys[i]? = some y ∧ zs[i]? = some z ∧ d = .tuple [x, y, z]
  | [], _, _, i, d, h => by simp [triples] at h
  | _ :: _, [], _, i, d, h => by simp [triples] at h
  | _ :: _, _ :: _, [], i, d, h => by simp [triples] at h
  | x :: xs, y :: ys, z :: zs, 0, d, h => by simp [triples] at h; subst h; exact ⟨x, y, z, rfl, rfl, rfl, rfl⟩
  | x :: xs, y :: ys, z :: zs, i + 1, d, h => by
    obtain ⟨a, b, c, h1, h2, h3, h4⟩ := triples_get xs ys zs i d (by simpa [triples] using h)
    exact ⟨a, b, c, by simpa using h1, by simpa using h2, by simpa using h3, h4⟩
theorem triples_len : ∀ (xs ys zs : List PyData), (triples xs ys zs).length = min (min xs.length ys.length) zs.length
  | [], _, _ => by simp [triples]
  | _ :: _, [], _ => by simp [triples]
  | _ :: _, _ :: _, [] => by simp [triples]
  | x :: xs, y :: ys, z :: zs => by
    show (triples xs ys zs).length + 1 = min (min (xs.length + 1) (ys.length + 1)) (zs.length + 1)
    rw [triples_len xs ys zs]; omega

/-! ### walks of data -/
structure Wlk (K : PySem.W.Frag) (J : It) (xs : List PyData) (P : (Addr → Prop) → (Addr → Prop) → Hp → Prop) : Prop where
  go : ∀ (i : Nat) (Mu Z : Addr → Prop) (H : Hp) (d : PyData), P Mu Z H → xs[i]? = some d → J.go i H
  yld : ∀ (i : Nat) (Mu Z : Addr → Prop) (H : Hp) (d : PyData) (v : V) (H' : Hp), P Mu Z H → xs[i]? = some d → J.yld i H v H' → (H' = H ∧ Fz K H Z v d) ∨ ∃ T us ds, v = V.ref T ∧ H T = none ∧ H' = upd H T (.tup us) ∧ d = .tuple ds ∧ FzAll K H Z us ds
  stop : ∀ (i : Nat) (Mu Z : Addr → Prop) (H : Hp), P Mu Z H → xs.length = i → J.stop i H
  step : ∀ (Mu Z : Addr → Prop) (H : Hp) (Mu' Z' : Addr → Prop) (H' : Hp), P Mu Z H → Stp Mu Z H Mu' Z' H' → P Mu' Z' H'
/-- a list that nobody changes now -/
def PLs (K : PySem.W.Frag) (a : Addr) (vs : List V) (xs : List PyData) : (Addr → Prop) → (Addr → Prop) → Hp → Prop := fun Mu Z H => (RdL K H a vs ∨ (H a = some (.lst vs) ∧ ¬ Mu a)) ∧ FzAll K H Z vs xs
def PTu (K : PySem.W.Frag) (a : Addr) (vs : List V) (xs : List PyData) : (Addr → Prop) → (Addr → Prop) → Hp → Prop := fun _ Z H => SqT K H a vs ∧ FzAll K H Z vs xs
section
variable {K : PySem.W.Frag} {a b : Addr} {vs us : List V} {xs ys : List PyData} {Mu Z Mu' Z' : Addr → Prop} {H H' : Hp}
theorem PLs.step (h : PLs K a vs xs Mu Z H) (s : Stp Mu Z H Mu' Z' H') : PLs K a vs xs Mu' Z' H' := by
  obtain ⟨h1 | ⟨h1, h2⟩, h3⟩ := h
  · exact ⟨.inl (h1.step s), h3.step s⟩
  · refine ⟨.inr ⟨s.keep a _ h1 h2, fun q => ?_⟩, h3.step s⟩
    rcases s.mnew a q with q | q
    · exact h2 q
    · rw [h1] at q; cases q
theorem PLs.sq (h : PLs K a vs xs Mu Z H) : SqL K H a vs := by
  obtain ⟨h1 | ⟨h1, h2⟩, h3⟩ := h
  · exact h1.sq
  · exact .inl (.inl h1)
theorem PTu.step (h : PTu K a vs xs Mu Z H) (s : Stp Mu Z H Mu' Z' H') : PTu K a vs xs Mu' Z' H' := ⟨SqT.step s h.1, h.2.step s⟩
theorem wlk_list : Wlk K (Itl K a) xs (PLs K a vs xs) where
  go := fun i Mu Z H d p e => let ⟨v, h1, _⟩ := p.2.get e; ⟨vs, v, p.sq, h1⟩
  yld := fun i Mu Z H d v H' p e ⟨y1, y2⟩ => by
    obtain ⟨u, h1, h2⟩ := p.2.get e
    have := y2 vs p.sq
    rw [h1] at this; cases this
    exact .inl ⟨y1, h2⟩
  stop := fun i Mu Z H p e => ⟨vs, p.sq, by rw [p.2.length]; exact Nat.le_of_eq e⟩
  step := fun _ _ _ _ _ _ p s => p.step s
theorem wlk_tup : Wlk K (Itt K a) xs (PTu K a vs xs) where
  go := fun i Mu Z H d p e => let ⟨v, h1, _⟩ := p.2.get e; ⟨vs, v, p.1, h1⟩
  yld := fun i Mu Z H d v H' p e ⟨y1, y2⟩ => by
    obtain ⟨u, h1, h2⟩ := p.2.get e
    have := y2 vs p.1
    rw [h1] at this; cases this
    exact .inl ⟨y1, h2⟩
  stop := fun i Mu Z H p e => ⟨vs, p.1, by rw [p.2.length]; exact Nat.le_of_eq e⟩
  step := fun _ _ _ _ _ _ p s => p.step s
theorem wlk_rng {lo : Int} {n : Nat} : Wlk K (Itr lo n) (upto lo n) (fun _ _ _ => True) where
  go := fun i Mu Z H d p e => (upto_get n lo i d e).1
  yld := fun i Mu Z H d v H' p e ⟨y1, y2⟩ => by
    obtain ⟨h1, h2⟩ := upto_get n lo i d e
    subst h2 y2
    exact .inl ⟨y1, .int _⟩
  stop := fun i Mu Z H p e => by rw [upto_len] at e; exact Nat.le_of_eq e
  step := fun _ _ _ _ _ _ _ _ => trivial
theorem wlk_rngC {lo c : Int} {n : Nat} : Wlk K (Itc lo c n) (stepto lo c n) (fun _ _ _ => True) where
  go := fun i Mu Z H d p e => (stepto_get c n lo i d e).1
  yld := fun i Mu Z H d v H' p e ⟨y1, y2⟩ => by
    obtain ⟨h1, h2⟩ := stepto_get c n lo i d e
    subst h2 y2
    exact .inl ⟨y1, .int _⟩
  stop := fun i Mu Z H p e => by rw [stepto_len] at e; exact Nat.le_of_eq e
  step := fun _ _ _ _ _ _ _ _ => trivial
theorem wlk_enum : Wlk K (Ite K a) (numd 0 xs) (PLs K a vs xs) where
  go := fun i Mu Z H d p e => let ⟨x, h0, _⟩ := numd_get xs 0 i d e; let ⟨v, h1, _⟩ := p.2.get h0; ⟨vs, v, p.sq, h1⟩
  yld := fun i Mu Z H d v H' p e ⟨T, x, y0, y1, y2, y3⟩ => by
    obtain ⟨w, h0, rfl⟩ := numd_get xs 0 i d e
    obtain ⟨u, h1, h2⟩ := p.2.get h0
    have := y3 vs p.sq
    rw [h1] at this; cases this
    exact .inr ⟨T, _, _, y0, y1, y2, rfl, .cons (by rw [Int.zero_add]; exact .int _) (.cons h2 .nil)⟩
  stop := fun i Mu Z H p e => ⟨vs, p.sq, by rw [numd_len] at e; rw [p.2.length]; exact Nat.le_of_eq e⟩
  step := fun _ _ _ _ _ _ p s => p.step s
theorem wlk_enumT : Wlk K (IteT K a) (numd 0 xs) (PTu K a vs xs) where
  go := fun i Mu Z H d p e => let ⟨x, h0, _⟩ := numd_get xs 0 i d e; let ⟨v, h1, _⟩ := p.2.get h0; ⟨vs, v, p.1, h1⟩
  yld := fun i Mu Z H d v H' p e ⟨T, x, y0, y1, y2, y3⟩ => by
    obtain ⟨w, h0, rfl⟩ := numd_get xs 0 i d e
    obtain ⟨u, h1, h2⟩ := p.2.get h0
    have := y3 vs p.1
    rw [h1] at this; cases this
    exact .inr ⟨T, _, _, y0, y1, y2, rfl, .cons (by rw [Int.zero_add]; exact .int _) (.cons h2 .nil)⟩
  stop := fun i Mu Z H p e => ⟨vs, p.1, by rw [numd_len] at e; rw [p.2.length]; exact Nat.le_of_eq e⟩
  step := fun _ _ _ _ _ _ p s => p.step s
theorem wlk_zip : Wlk K (Itz K a b) (pairs xs ys) (fun Mu Z H => PLs K a vs xs Mu Z H ∧ PLs K b us ys Mu Z H) where
  go := fun i Mu Z H d p e => let ⟨x, y, h0, h1, _⟩ := pairs_get xs ys i d e; let ⟨v, h2, _⟩ := p.1.2.get h0; let ⟨u, h3, _⟩ := p.2.2.get h1; ⟨vs, us, v, u, p.1.sq, p.2.sq, h2, h3⟩
  yld := fun i Mu Z H d v H' p e ⟨T, x, y, y0, y1, y2, y3, y4⟩ => by
    obtain ⟨w, z, h0, h1, rfl⟩ := pairs_get xs ys i d e
    obtain ⟨u1, q1, q2⟩ := p.1.2.get h0
    obtain ⟨u2, q3, q4⟩ := p.2.2.get h1
    have e1 := y3 vs p.1.sq
    have e2 := y4 us p.2.sq
    rw [q1] at e1; cases e1
    rw [q3] at e2; cases e2
    exact .inr ⟨T, _, _, y0, y1, y2, rfl, .cons q2 (.cons q4 .nil)⟩
  stop := fun i Mu Z H p e => ⟨vs, us, p.1.sq, p.2.sq, by rw [pairs_len] at e; rw [p.1.2.length, p.2.2.length]; omega⟩
  step := fun _ _ _ _ _ _ p s => ⟨p.1.step s, p.2.step s⟩
theorem wlk_zipT : Wlk K (RZ.ItzT K a b) (pairs xs ys) (fun Mu Z H => PTu K a vs xs Mu Z H ∧ PTu K b us ys Mu Z H) where
  go := fun i Mu Z H d p e => let ⟨x, y, h0, h1, _⟩ := pairs_get xs ys i d e; let ⟨v, h2, _⟩ := p.1.2.get h0; let ⟨u, h3, _⟩ := p.2.2.get h1; ⟨vs, us, v, u, p.1.1, p.2.1, h2, h3⟩
  yld := fun i Mu Z H d v H' p e ⟨T, x, y, y0, y1, y2, y3, y4⟩ => by
    obtain ⟨w, z, h0, h1, rfl⟩ := pairs_get xs ys i d e
    obtain ⟨u1, q1, q2⟩ := p.1.2.get h0
    obtain ⟨u2, q3, q4⟩ := p.2.2.get h1
    have e1 := y3 vs p.1.1
    have e2 := y4 us p.2.1
    rw [q1] at e1; cases e1
    rw [q3] at e2; cases e2
    exact .inr ⟨T, _, _, y0, y1, y2, rfl, .cons q2 (.cons q4 .nil)⟩
  stop := fun i Mu Z H p e => ⟨vs, us, p.1.1, p.2.1, by rw [pairs_len] at e; rw [p.1.2.length, p.2.2.length]; omega⟩
  step := fun _ _ _ _ _ _ p s => ⟨p.1.step s, p.2.step s⟩
def PB (K : PySem.W.Frag) (t : Bool) (a : Addr) (vs : List V) (xs : List PyData) : (Addr → Prop) → (Addr → Prop) → Hp → Prop := match t with
  | true => PLs K a vs xs
  | false => PTu K a vs xs
theorem PB.step {t : Bool} (h : PB K t a vs xs Mu Z H) (s : Stp Mu Z H Mu' Z' H') : PB K t a vs xs Mu' Z' H' := by
  cases t
  · exact PTu.step h s
  · exact PLs.step h s
theorem PB.sq {t : Bool} (h : PB K t a vs xs Mu Z H) : SqB K t H a vs := by
  cases t
  · exact h.1
  · exact PLs.sq h
theorem PB.fz {t : Bool} (h : PB K t a vs xs Mu Z H) : FzAll K H Z vs xs := by
  cases t
  · exact h.2
  · exact h.2
theorem wlk_zip2 {t1 t2 : Bool} : Wlk K (It2 K t1 t2 a b) (pairs xs ys) (fun Mu Z H => PB K t1 a vs xs Mu Z H ∧ PB K t2 b us ys Mu Z H) where
  go := fun i Mu Z H d p e => by
    obtain ⟨x, y, h0, h1, _⟩ := pairs_get xs ys i d e
    obtain ⟨_, q1, _⟩ := p.1.fz.get h0
    obtain ⟨_, q2, _⟩ := p.2.fz.get h1
    have l1 := (List.getElem?_eq_some_iff.mp q1).1
    have l2 := (List.getElem?_eq_some_iff.mp q2).1
    exact ⟨vs, us, p.1.sq, p.2.sq, by omega⟩
  yld := fun i Mu Z H d v H' p e ⟨T, x, y, y0, y1, y2, y3, y4⟩ => by
    obtain ⟨w1, w2, h0, h1, rfl⟩ := pairs_get xs ys i d e
    obtain ⟨u1, q1, r1⟩ := p.1.fz.get h0
    obtain ⟨u2, q2, r2⟩ := p.2.fz.get h1
    have e1 := y3 vs p.1.sq
    have e2 := y4 us p.2.sq
    rw [q1] at e1; cases e1
    rw [q2] at e2; cases e2
    exact .inr ⟨T, _, _, y0, y1, y2, rfl, .cons r1 (.cons r2 .nil)⟩
  stop := fun i Mu Z H p e => ⟨vs, us, p.1.sq, p.2.sq, by rw [pairs_len] at e; rw [p.1.fz.length, p.2.fz.length]; exact e.symm⟩
  step := fun _ _ _ _ _ _ p s => ⟨p.1.step s, p.2.step s⟩
theorem wlk_zip3 {c : Addr} {ws : List V} {zs : List PyData} {t1 t2 t3 : Bool} : Wlk K (It3 K t1 t2 t3 a b c) (triples xs ys zs) (fun Mu Z H => PB K t1 a vs xs Mu Z H ∧ PB K t2 b us ys Mu Z H ∧ PB K t3 c ws zs Mu Z H) where
  go := fun i Mu Z H d p e => by
    obtain ⟨x, y, z, h0, h1, h2, _⟩ := triples_get xs ys zs i d e
    obtain ⟨_, q1, _⟩ := p.1.fz.get h0
    obtain ⟨_, q2, _⟩ := p.2.1.fz.get h1
    obtain ⟨_, q3, _⟩ := p.2.2.fz.get h2
    have l1 := (List.getElem?_eq_some_iff.mp q1).1
    have l2 := (List.getElem?_eq_some_iff.mp q2).1
    have l3 := (List.getElem?_eq_some_iff.mp q3).1
    exact ⟨vs, us, ws, p.1.sq, p.2.1.sq, p.2.2.sq, by omega⟩
  yld := fun i Mu Z H d v H' p e ⟨T, x, y, z, y0, y1, y2, y3, y4, y5⟩ => by
    obtain ⟨w1, w2, w3, h0, h1, h2, rfl⟩ := triples_get xs ys zs i d e
    obtain ⟨u1, q1, r1⟩ := p.1.fz.get h0
    obtain ⟨u2, q2, r2⟩ := p.2.1.fz.get h1
    obtain ⟨u3, q3, r3⟩ := p.2.2.fz.get h2
    have e1 := y3 vs p.1.sq
    have e2 := y4 us p.2.1.sq
    have e3 := y5 ws p.2.2.sq
    rw [q1] at e1; cases e1
    rw [q2] at e2; cases e2
    rw [q3] at e3; cases e3
    exact .inr ⟨T, _, _, y0, y1, y2, rfl, .cons r1 (.cons r2 (.cons r3 .nil))⟩
  stop := fun i Mu Z H p e => ⟨vs, us, ws, p.1.sq, p.2.1.sq, p.2.2.sq, by rw [triples_len] at e; rw [p.1.fz.length, p.2.1.fz.length, p.2.2.fz.length]; exact e.symm⟩
  step := fun _ _ _ _ _ _ p s => ⟨p.1.step s, p.2.1.step s, p.2.2.step s⟩
end

/-! ### locks -/
inductive Locks : Env → List Nat → Env → Prop
  | nil {e : Env} : Locks e [] e
  | cons {e e2 : Env} {i : Nat} {xs : List PyData} {ls : List Nat} : e[i]? = some (some (.l xs)) → Locks (e.set i (some (.k xs))) ls e2 → Locks e (i :: ls) e2
theorem Locks.append : ∀ {e e1 e2 : Env} {ls ms : List Nat}, Locks e ls e1 → Locks e1 ms e2 → Locks e (ls ++ ms) e2
  | _, _, _, _, _, .nil, h => h
  | _, _, _, _, _, .cons q r, h => .cons q (r.append h)
section
variable {K : PySem.W.Frag} {fa : Nat → V → Prop} {σ : L2.St} {H0 H : Hp} {Z : Addr → Prop} {env env1 : Env}
theorem Own_lock {i : Nat} {xs : List PyData} {a : Addr} (h : Own σ (env.set i (some (.k xs))) a) : Own σ env a := Own_set (fun ys e => by cases e) h
theorem ownd_lock {i j : Nat} {xs : List PyData} (e : env[i]? = some (some (.l xs))) (h : ownd (env.set i (some (.k xs))) j) : ownd env j := by
  obtain ⟨ys, h⟩ := h
  by_cases ej : j = i
  · subst ej; exact ⟨xs, .inl e⟩
  · rw [List.getElem?_set_ne (Ne.symm ej)] at h
    exact ⟨ys, h⟩
theorem Eok.lock {i : Nat} {xs : List PyData} (ok : Eok K fa H Z σ env) (h : env[i]? = some (some (.l xs))) : Eok K fa H Z σ (env.set i (some (.k xs))) := by
  refine ⟨fun j w q => ?_, fun j k b q1 q2 => ok.apart j k b (ownd_lock h q1) (ownd_lock h q2), ok.zl, by rw [List.length_set]; exact ok.len⟩
  rcases getElem?_set_cases q with ⟨rfl, e, _⟩ | ⟨_, e⟩
  · cases e
    obtain ⟨v, e1, e2⟩ := ok.nm j _ h
    exact ⟨v, e1, e2⟩
  · exact ok.nm j w e
theorem Locks.own : ∀ {env env1 : Env} {ls : List Nat}, Locks env ls env1 → ∀ a, Own σ env1 a → Own σ env a
  | _, _, _, .nil, _, h => h
  | _, _, _, .cons _ r, a, h => Own_lock (r.own a h)
/-- a thing that is walked -/
theorem lock_src {r : Rv} {v : V} {xs : List PyData} {ls : List Nat} (ok : Eok K fa H Z σ env) (old : ∀ a, Own σ env a → ∃ us, H0 a = some (HO.lst us)) (h : RvOk K fa H0 H Z σ r v) (e : lockR env r = some (env1, xs, ls)) :
    Locks env ls env1 ∧ Eok K fa H Z σ env1 ∧ ∃ a vs, v = V.ref a ∧ ((isLs r = true ∧ PLs K a vs xs (Own σ env1) Z H) ∨ (isLs r = false ∧ PTu K a vs xs (Own σ env1) Z H)) := by
  cases r with
  | v x =>
    cases x <;> simp only [lockR] at e <;> try (cases e; done)
    · cases e
      have h : Fz K H Z v (.list xs) := h
      cases h with
      | lst h1 h2 h3 => exact ⟨.nil, ok, _, _, rfl, .inl ⟨rfl, .inr ⟨h1, fun q => h2 (ok.muz _ q)⟩, h3⟩⟩
    · cases e
      have h : Fz K H Z v (.tuple xs) := h
      cases h with
      | tup h1 h3 => exact ⟨.nil, ok, _, _, rfl, .inr ⟨rfl, h1, h3⟩⟩
  | n ys =>
    cases e
    obtain ⟨a, vs, rfl, h1, h2, h3, h4⟩ := h
    exact ⟨.nil, ok, a, vs, rfl, .inl ⟨rfl, .inr ⟨h1, fun q => by
      obtain ⟨us, q⟩ := old a q
      rw [h3] at q; cases q⟩, h4⟩⟩
  | r ys =>
    cases e
    obtain ⟨a, vs, rfl, h1, h4⟩ := h
    exact ⟨.nil, ok, a, vs, rfl, .inl ⟨rfl, .inl h1, h4⟩⟩
  | f n => cases e
  | p i =>
    have h : σ[i]? = some (some v) := h
    unfold lockR at e
    dsimp only at e
    split at e
    · rename_i ys hw
      cases e
      obtain ⟨v', e1, a, vs, rfl, h1, h2, h3⟩ := ok.nm i _ hw
      rw [h] at e1; cases e1
      refine ⟨.cons hw .nil, ok.lock hw, a, vs, rfl, .inl ⟨rfl, .inr ⟨h1, fun ⟨j, zs, q1, q2⟩ => ?_⟩, h3⟩⟩
      rcases getElem?_set_cases q1 with ⟨_, e, _⟩ | ⟨ne, e⟩
      · cases e
      · exact ne (ok.apart j i a ⟨zs, .inl e⟩ ⟨_, .inl hw⟩ q2 h)
    · rename_i ys hw
      cases e
      obtain ⟨v', e1, a, vs, rfl, h1, h2, h3⟩ := ok.nm i _ hw
      rw [h] at e1; cases e1
      refine ⟨.nil, ok, a, vs, rfl, .inl ⟨rfl, .inr ⟨h1, fun ⟨j, zs, q1, q2⟩ => ?_⟩, h3⟩⟩
      have := ok.apart j i a ⟨zs, .inl q1⟩ ⟨_, .inr hw⟩ q2 h
      subst this
      rw [hw] at q1; cases q1
    · rename_i ys hw
      cases e
      obtain ⟨v', e1, e2⟩ := ok.nm i _ hw
      rw [h] at e1; cases e1
      have e2 : Fz K H Z v (.list xs) := e2
      cases e2 with
      | lst h1 h2 h3 => exact ⟨.nil, ok, _, _, rfl, .inl ⟨rfl, .inr ⟨h1, fun q => h2 (ok.muz _ q)⟩, h3⟩⟩
    · cases e
end
/-! ### the reading of what is walked -/
def tI (K : PySem.W.Frag) (fa : Nat → V → Prop) (XX : XW) (G : Tab) (w : Nat) (ms : List ME) : TI := fun σ H R => ∃ Z env, Eok K fa H Z σ env ∧ match evs G ms env with
  | .ok p => match items w p.1 p.2 with
    | some (env1, xs, ls) => ∀ Z' H' J P, Mid K fa σ H Z env H' Z' p.1 → Locks p.1 ls env1 → Eok K fa H' Z' σ env1 → Wlk K J xs P → P (Own σ env1) Z' H' → R J H'
    | none => False
  | .ex c a => ∀ Mu' Z' H', Stp (Own σ env) Z H Mu' Z' H' → XX c a σ H'
  | .bad => False
theorem PI.weak {X : Cx} {tg iter : Expr} {wi wi' : TI} (h : PI X tg iter wi) (w : ∀ σ H R, wi' σ H R → wi σ H R) : PI X tg iter wi' := ⟨fun pins s σ H R I q => h.run pins s σ H R I (w σ H R q)⟩
section
variable {X : Cx} {fa : Nat → V → Prop} {XX : XW} {G : Tab} {tg a b c : Expr} {ma mb mc : ME} {ms : List ME} {pos : Pos} {σ : L2.St} {H : Hp}
/-- the arguments are evaluated, their walk begins -/
theorem tI.args {w : Nat} {R : It → Hp → Prop} (h : tI X.K fa XX G w ms σ H R) : tA X.K fa XX G ms σ H fun vs H1 => ∃ Z env Z1 env' rs env1 xs ls, Eok X.K fa H Z σ env ∧ Mid X.K fa σ H Z env H1 Z1 env' ∧ RvsOk X.K fa H H1 Z1 σ rs vs ∧ items w env' rs = some (env1, xs, ls) ∧
    ∀ J P, Locks env' ls env1 → Eok X.K fa H1 Z1 σ env1 → Wlk X.K J xs P → P (Own σ env1) Z1 H1 → R J H1 := by
  obtain ⟨Z, env, ok, h⟩ := h
  refine ⟨Z, env, ok, ?_⟩
  revert h
  cases evs G ms env with
  | bad => exact fun z => z
  | ex c a => exact fun z => z
  | ok p =>
    intro h Z1 H1 vs m hr
    dsimp only at h
    cases hi : items w p.1 p.2 with
    | none => rw [hi] at h; exact h.elim
    | some q =>
      obtain ⟨env1, xs, ls⟩ := q
      rw [hi] at h
      exact ⟨Z, env, Z1, p.1, p.2, env1, xs, ls, ok, m, hr, hi, fun J P l1 l2 l3 l4 => h Z1 H1 J P m l1 l2 l3 l4⟩
theorem tI.one {w : Nat} {R : It → Hp → Prop} (h : tI X.K fa XX G w [ma] σ H R) : tE X.K fa XX G ma σ H fun v H1 => ∃ Z env Z1 env' r env1 xs ls, Eok X.K fa H Z σ env ∧ Mid X.K fa σ H Z env H1 Z1 env' ∧ RvOk X.K fa H H1 Z1 σ r v ∧ items w env' [r] = some (env1, xs, ls) ∧
    ∀ J P, Locks env' ls env1 → Eok X.K fa H1 Z1 σ env1 → Wlk X.K J xs P → P (Own σ env1) Z1 H1 → R J H1 := by
  obtain ⟨Z, env, ok, h⟩ := h
  refine ⟨Z, env, ok, ?_⟩
  unfold evs at h
  revert h
  cases ev G ma env with
  | bad => exact fun z => z
  | ex c a => exact fun z => z
  | ok p =>
    unfold evs
    intro h Z1 H1 v m hr
    simp only [Rs.bind] at h
    cases hi : items w p.1 [p.2] with
    | none => rw [hi] at h; exact h.elim
    | some q =>
      obtain ⟨env1, xs, ls⟩ := q
      rw [hi] at h
      exact ⟨Z, env, Z1, p.1, p.2, env1, xs, ls, ok, m, hr, hi, fun J P l1 l2 l3 l4 => h Z1 H1 J P m l1 l2 l3 l4⟩
theorem i_seq (ha : PE X a (tE X.K fa XX G ma)) : PI X tg a (tI X.K fa XX G 0 [ma]) := by
  refine PI.weak (pi_seq ha) fun σ H R h => tM.mono h.one fun v H1 ⟨Z, env, Z1, env', r, env1, xs, ls, ok, m, hr, hi, go⟩ => ?_
  obtain ⟨l1, l2, a, vs, rfl, q⟩ := lock_src m.ok (fun a q => m.old q) hr (show lockR env' r = some (env1, xs, ls) from hi)
  refine ⟨a, vs, rfl, ?_⟩
  rcases q with ⟨_, q⟩ | ⟨_, q⟩
  · exact .inl ⟨q.sq, go _ _ l1 l2 wlk_list q⟩
  · exact .inr ⟨q.1, go _ _ l1 l2 wlk_tup q⟩
theorem rvs1 {K : PySem.W.Frag} {H0 H1 : Hp} {Z : Addr → Prop} {rs : List Rv} {vs : List V} {r : Rv} (h : RvsOk K fa H0 H1 Z σ rs vs) (e : rs = [r]) : ∃ v, vs = [v] ∧ RvOk K fa H0 H1 Z σ r v := by
  subst e
  cases h with
  | cons h1 h2 h3 => cases h3; exact ⟨_, rfl, h1⟩
theorem rvs2 {K : PySem.W.Frag} {H0 H1 : Hp} {Z : Addr → Prop} {rs : List Rv} {vs : List V} {r q : Rv} (h : RvsOk K fa H0 H1 Z σ rs vs) (e : rs = [r, q]) : ∃ v u, vs = [v, u] ∧ RvOk K fa H0 H1 Z σ r v ∧ RvOk K fa H0 H1 Z σ q u := by
  subst e
  cases h with
  | cons h1 h2 h3 =>
    obtain ⟨u, rfl, h4⟩ := rvs1 h3 rfl
    exact ⟨_, u, rfl, h1, h4⟩
theorem i_enum {es : List Expr} {kk : Nat} {p pos tpos : Pos} (hg : Gl X "enumerate") (hm : X.mg "enumerate" = none) (ha : PA X [a] (tA X.K fa XX G [ma])) (hs : starEach [a] X.env = [(false, eval a X.env)]) : PI X (.Tuple es kk tpos) (.Call (.Name "enumerate" p) [a] [] pos) (tI X.K fa XX G 4 [ma]) := by
  refine PI.weak (pi_enumA hg hm ha hs) fun σ H R h => tA.mono h.args fun vs H1 ⟨Z, env, Z1, env', rs, env1, xs, ls, ok, m, hr, hi, go⟩ => ?_
  replace hi : items4 env' rs = some (env1, xs, ls) := hi
  unfold items4 at hi
  split at hi <;> try (cases hi; done)
  rename_i r
  obtain ⟨v, rfl, hv⟩ := rvs1 hr rfl
  cases hl : lockR env' r with
  | none => rw [hl] at hi; cases hi
  | some q =>
    obtain ⟨e1, ys, l⟩ := q
    rw [hl] at hi
    cases hi
    obtain ⟨l1, l2, a, vs, rfl, q⟩ := lock_src m.ok (fun a q => m.old q) hv hl
    refine ⟨a, vs, rfl, ?_⟩
    rcases q with ⟨_, q⟩ | ⟨_, q⟩
    · exact .inl ⟨q.sq, go _ _ l1 l2 wlk_enum q⟩
    · exact .inr ⟨q.1, go _ _ l1 l2 wlk_enumT q⟩
theorem PB.of {K : PySem.W.Frag} {b : Bool} {a : Addr} {vs : List V} {xs : List PyData} {Mu Z : Addr → Prop} {H : Hp} (h : (b = true ∧ PLs K a vs xs Mu Z H) ∨ (b = false ∧ PTu K a vs xs Mu Z H)) : PB K b a vs xs Mu Z H := by
  rcases h with ⟨e, h⟩ | ⟨e, h⟩
  · subst e; exact h
  · subst e; exact h
theorem i_zip {es : List Expr} {kk : Nat} {p pos tpos : Pos} (hg : Gl X "zip") (hm : X.mg "zip" = none) (ha : PA X [a, b] (tA X.K fa XX G [ma, mb])) (hs : starEach [a, b] X.env = (false, eval a X.env) :: starEach [b] X.env) (hpl : (backTo pos (starEach [b] X.env)).any (·.1) = false) :
    PI X (.Tuple es kk tpos) (.Call (.Name "zip" p) [a, b] [] pos) (tI X.K fa XX G 5 [ma, mb]) := by
  refine PI.weak (pi_zip2 hg hm ha hs hpl) fun σ H R h => tA.mono h.args fun vs H1 ⟨Z, env, Z1, env', rs, env1, xs, ls, ok, m, hr, hi, go⟩ => ?_
  replace hi : items5 env' rs = some (env1, xs, ls) := hi
  unfold items5 at hi
  split at hi <;> try (cases hi; done)
  rename_i r q
  obtain ⟨v, u, rfl, hv, hu⟩ := rvs2 hr rfl
  cases hl : lockR env' r with
  | none => rw [hl] at hi; cases hi
  | some t =>
    obtain ⟨e1, ys, l⟩ := t
    rw [hl] at hi
    dsimp only at hi
    cases hl2 : lockR e1 q with
    | none => rw [hl2] at hi; cases hi
    | some t =>
      obtain ⟨e2, zs, l'⟩ := t
      rw [hl2] at hi
      cases hi
      obtain ⟨l1, l2, a, vs, rfl, q1⟩ := lock_src m.ok (fun a q => m.old q) hv hl
      obtain ⟨l3, l4, b, us, rfl, q2⟩ := lock_src l2 (fun a q => m.old (l1.own a q)) hu hl2
      have st : Stp (Own σ e1) Z1 H1 (Own σ env1) Z1 H1 := ⟨fun _ _ h _ => h, fun _ o h => ⟨o, h⟩, fun _ h _ => h, fun _ h => .inl h, fun a h => .inl (l3.own a h), l2.muz, l2.zl⟩
      have p1 := (PB.of q1).step st
      have p2 := PB.of q2
      exact ⟨a, b, vs, us, _, _, rfl, p1.sq, p2.sq, go _ _ (l1.append l3) l4 wlk_zip2 ⟨p1, p2⟩⟩
theorem i_zip3 {es : List Expr} {kk : Nat} {p pos tpos : Pos} (hg : Gl X "zip") (hm : X.mg "zip" = none) (ha : PA X [a, b, c] (tA X.K fa XX G [ma, mb, mc])) (hs : starEach [a, b, c] X.env = (false, eval a X.env) :: starEach [b, c] X.env) (hpl : (backTo pos (starEach [b, c] X.env)).any (·.1) = false) :
    PI X (.Tuple es kk tpos) (.Call (.Name "zip" p) [a, b, c] [] pos) (tI X.K fa XX G 6 [ma, mb, mc]) := by
  refine PI.weak (pi_zip3 hg hm ha hs hpl) fun σ H R h => tA.mono h.args fun vs H1 ⟨Z, env, Z1, env', rs, env1, xs, ls, ok, m, hr, hi, go⟩ => ?_
  replace hi : items6 env' rs = some (env1, xs, ls) := hi
  unfold items6 at hi
  split at hi <;> try (cases hi; done)
  rename_i r q t
  cases hr with
  | cons hv _ hr =>
  obtain ⟨u, w, rfl, hu, hw⟩ := rvs2 hr rfl
  rename_i v _ _
  cases hl : lockR env' r with
  | none => rw [hl] at hi; cases hi
  | some t1 =>
  obtain ⟨e1, xs1, l⟩ := t1
  rw [hl] at hi
  dsimp only at hi
  cases hl2 : lockR e1 q with
  | none => rw [hl2] at hi; cases hi
  | some t1 =>
  obtain ⟨e2, xs2, l'⟩ := t1
  rw [hl2] at hi
  dsimp only at hi
  cases hl3 : lockR e2 t with
  | none => rw [hl3] at hi; cases hi
  | some t1 =>
  obtain ⟨e3, xs3, l''⟩ := t1
  rw [hl3] at hi
  cases hi
  obtain ⟨l1, l2, a, vs, rfl, q1⟩ := lock_src m.ok (fun a q => m.old q) hv hl
  obtain ⟨l3, l4, b, us, rfl, q2⟩ := lock_src l2 (fun a q => m.old (l1.own a q)) hu hl2
  obtain ⟨l5, l6, c, ws, rfl, q3⟩ := lock_src l4 (fun a q => m.old (l1.own a (l3.own a q))) hw hl3
  have st : ∀ {e e' : Env}, (∀ a, Own σ e' a → Own σ e a) → Eok X.K fa H1 Z1 σ e → Stp (Own σ e) Z1 H1 (Own σ e') Z1 H1 := fun o ok => ⟨fun _ _ h _ => h, fun _ o h => ⟨o, h⟩, fun _ h _ => h, fun _ h => .inl h, fun a h => .inl (o a h), ok.muz, ok.zl⟩
  have p1 := ((PB.of q1).step (st l3.own l2)).step (st l5.own l4)
  have p2 := (PB.of q2).step (st l5.own l4)
  have p3 := PB.of q3
  exact ⟨a, b, c, vs, us, ws, _, _, _, rfl, p1.sq, p2.sq, p3.sq, go _ _ (l1.append (l3.append l5)) l6 wlk_zip3 ⟨p1, p2, p3⟩⟩
theorem i_rng1 {p : Pos} (hg : Gl X "range") (hm : X.mg "range" = none) (ha : PA X [a] (tA X.K fa XX G [ma])) (hs : starEach [a] X.env = [(false, eval a X.env)]) : PI X tg (.Call (.Name "range" p) [a] [] pos) (tI X.K fa XX G 1 [ma]) := by
  refine PI.weak (pi_range1 hg hm ha hs) fun σ H R h => tA.mono h.args fun vs H1 ⟨Z, env, Z1, env', rs, env1, xs, ls, ok, m, hr, hi, go⟩ => ?_
  replace hi : items1 env' rs = some (env1, xs, ls) := hi
  unfold items1 at hi
  split at hi <;> try (cases hi; done)
  rename_i j
  obtain ⟨v, rfl, hv⟩ := rvs1 hr rfl
  have hv : Fz X.K H1 Z1 v (.int j) := hv
  cases hv
  split at hi
  · rename_i hb
    cases hi
    exact ⟨j, rfl, by omega, by omega, go _ _ .nil m.ok wlk_rng trivial⟩
  · cases hi
theorem i_rng2 {p : Pos} (hg : Gl X "range") (hm : X.mg "range" = none) (ha : PA X [a, b] (tA X.K fa XX G [ma, mb])) (hs : starEach [a, b] X.env = [(false, eval a X.env), (false, eval b X.env)]) (hs2 : starEach [b] X.env = [(false, eval b X.env)]) : PI X tg (.Call (.Name "range" p) [a, b] [] pos) (tI X.K fa XX G 2 [ma, mb]) := by
  refine PI.weak (pi_range2 hg hm ha hs hs2) fun σ H R h => tA.mono h.args fun vs H1 ⟨Z, env, Z1, env', rs, env1, xs, ls, ok, m, hr, hi, go⟩ => ?_
  replace hi : items2 env' rs = some (env1, xs, ls) := hi
  unfold items2 at hi
  split at hi <;> try (cases hi; done)
  rename_i i j
  obtain ⟨v, u, rfl, hv, hu⟩ := rvs2 hr rfl
  have hv : Fz X.K H1 Z1 v (.int i) := hv
  have hu : Fz X.K H1 Z1 u (.int j) := hu
  cases hv
  cases hu
  split at hi
  · rename_i hb
    cases hi
    exact ⟨i, j, rfl, ⟨by omega, by omega, by omega, by omega⟩, go _ _ .nil m.ok wlk_rng trivial⟩
  · cases hi
theorem i_rng3 {p : Pos} (hg : Gl X "range") (hm : X.mg "range" = none) (ha : PA X [a, b, c] (tA X.K fa XX G [ma, mb, mc])) (hs : starEach [a, b, c] X.env = (false, eval a X.env) :: starEach [b, c] X.env) (hpl : (backTo pos (starEach [b, c] X.env)).any (·.1) = false) : PI X tg (.Call (.Name "range" p) [a, b, c] [] pos) (tI X.K fa XX G 3 [ma, mb, mc]) := by
  refine PI.weak (pi_range3 hg hm ha hs hpl) fun σ H R h => tA.mono h.args fun vs H1 ⟨Z, env, Z1, env', rs, env1, xs, ls, ok, m, hr, hi, go⟩ => ?_
  replace hi : items3 env' rs = some (env1, xs, ls) := hi
  unfold items3 at hi
  split at hi <;> try (cases hi; done)
  rename_i i j k
  cases hr with
  | cons hv _ hr =>
    obtain ⟨u, w, rfl, hu, hw⟩ := rvs2 hr rfl
    rename_i v _ _
    have hv : Fz X.K H1 Z1 v (.int i) := hv
    have hu : Fz X.K H1 Z1 u (.int j) := hu
    have hw : Fz X.K H1 Z1 w (.int k) := hw
    cases hv
    cases hu
    cases hw
    split at hi
    · rename_i hb
      cases hi
      exact ⟨i, j, k, _, rfl, ⟨hb.1, hb.2.1, hb.2.2, PyProof.Rows.rangeSize_toNat i j k⟩, go _ _ .nil m.ok wlk_rngC trivial⟩
    · cases hi
end
end Ev

/-! Ev, part M: targets; comprehensions. -/
namespace Ev
open PySem L2 PyProof.Rows

/-- a step in which names may be bound to data, but to no list of their own -/
structure Bm (K : PySem.W.Frag) (fa : Nat → V → Prop) (σ0 : L2.St) (H0 : Hp) (Z0 : Addr → Prop) (env0 : Env) (σ : L2.St) (H : Hp) (Z : Addr → Prop) (env : Env) : Prop where
  st : Stp (Own σ0 env0) Z0 H0 (Own σ env) Z H
  mo : ∀ a, Own σ env a → Own σ0 env0 a
  mw : ∀ i, ownd env i → ownd env0 i ∧ σ[i]? = σ0[i]?
  kk : ∀ (i : Nat) (xs : List PyData), env[i]? = some (some (W.k xs)) → env0[i]? = some (some (W.k xs))
  ok : Eok K fa H Z σ env
section
variable {K : PySem.W.Frag} {fa : Nat → V → Prop} {σ σ0 σ1 σ2 : L2.St} {H H0 H1 H2 : Hp} {Z Z0 Z1 Z2 : Addr → Prop} {env env0 env1 env2 : Env} {v : V} {d : PyData}
theorem Bm.refl (h : Eok K fa H Z σ env) : Bm K fa σ H Z env σ H Z env := ⟨.refl h.muz h.zl, fun _ h => h, fun _ h => ⟨h, rfl⟩, fun _ _ h => h, h⟩
theorem Bm.trans (a : Bm K fa σ0 H0 Z0 env0 σ1 H1 Z1 env1) (b : Bm K fa σ1 H1 Z1 env1 σ2 H2 Z2 env2) : Bm K fa σ0 H0 Z0 env0 σ2 H2 Z2 env2 :=
  ⟨a.st.trans b.st, fun x h => a.mo x (b.mo x h), fun i h => let ⟨h1, e1⟩ := b.mw i h; let ⟨h2, e2⟩ := a.mw i h1; ⟨h2, e1.trans e2⟩, fun i xs h => a.kk i xs (b.kk i xs h), b.ok⟩
theorem Mid.bm (m : Mid K fa σ H0 Z0 env0 H Z env) : Bm K fa σ H0 Z0 env0 σ H Z env := ⟨m.st, m.mo, fun i h => ⟨m.mw i h, rfl⟩, m.kk, m.ok⟩
/-- the lists that names own stood at the start -/
theorem Bm.slot (m : Bm K fa σ0 H0 Z0 env0 σ H Z env) (ok : Eok K fa H0 Z0 σ0 env0) {i : Nat} {a : Addr} (h : ownd env i) (e : σ[i]? = some (some (V.ref a))) : ∃ vs, H0 a = some (HO.lst vs) := by
  obtain ⟨h1, e1⟩ := m.mw i h
  rw [e1] at e
  exact (ok.slot h1 e).2
theorem Bm.newT {p : Addr} {o : HO} (m : Bm K fa σ0 H0 Z0 env0 σ H Z env) (h : H p = none) : Bm K fa σ0 H0 Z0 env0 σ (upd H p o) Z env := m.trans ((Mid.refl m.ok).newT h).bm
/-- data is bound to a name -/
theorem Eok.bind (ok : Eok K fa H Z σ env) (f : Fz K H Z v d) (i : Nat) : Eok K fa H Z (σ.set i (some v)) (env.set i (some (.d d))) := by
  have nd : ∀ ys, (some (W.d d) : Option W) ≠ some (.l ys) ∧ (some (W.d d) : Option W) ≠ some (.k ys) := fun ys => ⟨fun q => (by cases q), fun q => (by cases q)⟩
  refine ⟨fun j w hj => ?_, fun j k b o1 o2 e1 e2 => ?_, ok.zl, by rw [List.length_set, List.length_set]; exact ok.len⟩
  · rcases getElem?_set_cases hj with ⟨rfl, e, hl⟩ | ⟨ne, e⟩
    · cases e
      exact ⟨v, List.getElem?_set_self (by rw [← ok.len]; exact hl), f⟩
    · obtain ⟨u, e1, e2⟩ := ok.nm j w e
      exact ⟨u, by rw [List.getElem?_set_ne (Ne.symm ne)]; exact e1, e2⟩
  · obtain ⟨h1, n1⟩ := ownd_set nd o1
    obtain ⟨h2, n2⟩ := ownd_set nd o2
    rw [List.getElem?_set_ne (Ne.symm n1)] at e1
    rw [List.getElem?_set_ne (Ne.symm n2)] at e2
    exact ok.apart j k b h1 h2 e1 e2
theorem Bm.bind (ok : Eok K fa H Z σ env) (f : Fz K H Z v d) (i : Nat) : Bm K fa σ H Z env (σ.set i (some v)) H Z (env.set i (some (.d d))) := by
  have nd : ∀ ys, (some (W.d d) : Option W) ≠ some (.l ys) ∧ (some (W.d d) : Option W) ≠ some (.k ys) := fun ys => ⟨fun q => (by cases q), fun q => (by cases q)⟩
  have mo : ∀ a, Own (σ.set i (some v)) (env.set i (some (.d d))) a → Own σ env a := fun a ⟨j, xs, q1, q2⟩ => by
    rcases getElem?_set_cases q1 with ⟨_, e, _⟩ | ⟨ne, e⟩
    · cases e
    · rw [List.getElem?_set_ne (Ne.symm ne)] at q2
      exact ⟨j, xs, e, q2⟩
  refine ⟨⟨fun _ _ h _ => h, fun _ o h => ⟨o, h⟩, fun _ h _ => h, fun _ h => .inl h, fun a h => .inl (mo a h), ok.muz, ok.zl⟩, mo, fun j h => ?_, fun j xs h => ?_, ok.bind f i⟩
  · obtain ⟨h1, n1⟩ := ownd_set nd h
    exact ⟨h1, List.getElem?_set_ne (Ne.symm n1)⟩
  · rcases getElem?_set_cases h with ⟨_, e, _⟩ | ⟨_, e⟩
    · cases e
    · exact e

/-! ### targets -/
def gT (K : PySem.W.Frag) (fa : Nat → V → Prop) (t : Tgt) : TG := fun v σ H Q => ∃ Z env d env', Eok K fa H Z σ env ∧ Fz K H Z v d ∧ asgT t d env = some env' ∧
  ∀ σ', Bm K fa σ H Z env σ' H Z env' → (∀ i, i ∉ stoT t → σ'[i]? = σ[i]?) → σ'.length = σ.length → Q σ' H
def gTs (K : PySem.W.Frag) (fa : Nat → V → Prop) (ts : List Tgt) : TGs := fun vs σ H Q => ∃ Z env ds env', Eok K fa H Z σ env ∧ FzAll K H Z vs ds ∧ asgTs ts ds env = some env' ∧
  ∀ σ', Bm K fa σ H Z env σ' H Z env' → (∀ i, i ∉ stoTs ts → σ'[i]? = σ[i]?) → σ'.length = σ.length → Q σ' H
theorem PG.weak {X : Cx} {e : Expr} {t t' : TG} (h : PG X e t) (w : ∀ v σ H Q, t' v σ H Q → t v σ H Q) : PG X e t' := ⟨fun pins s σ H v u Q I r q => h.run pins s σ H v u Q I r (w v σ H Q q)⟩
theorem PGs.weak {X : Cx} {es : List Expr} {t t' : TGs} (h : PGs X es t) (w : ∀ v σ H Q, t' v σ H Q → t v σ H Q) : PGs X es t' := ⟨fun pins s σ H v u Q I r q => h.run pins s σ H v u Q I r (w v σ H Q q)⟩
end
section
variable {X : Cx} {fa : Nat → V → Prop} {pos : Pos}
theorem g_name {i : Nat} {x : Str} (hN : X.N.Nodup) (hi : X.N[i]? = some x) (hx : Loc X.env.scope x) (hf : X.fn x = true ∨ X.env.scope.names.lookup x = some .local) : PG X (.Name x pos) (gT X.K fa (.n i)) := by
  refine PG.weak (pg_name hN hi hx hf) fun v σ H Q ⟨Z, env, d, env', ok, f, e, q⟩ => ?_
  unfold asgT at e
  split at e
  · cases e
    exact q _ (Bm.bind ok f i) (fun j hj => List.getElem?_set_ne (by
      intro e
      subst e
      exact hj (by simp [stoT]))) (by rw [List.length_set])
  · cases e
theorem gs_nil : PGs X [] (gTs X.K fa []) := PGs.weak pgs_nil fun vs σ H Q ⟨Z, env, ds, env', ok, f, e, q⟩ => by
  cases f with
  | nil =>
    cases e
    exact ⟨rfl, q σ (.refl ok) (fun _ _ => rfl) rfl⟩
  | cons h r => cases e
theorem gs_cons {e : Expr} {es : List Expr} {t : Tgt} {ts : List Tgt} (h1 : PG X e (gT X.K fa t)) (h2 : PGs X es (gTs X.K fa ts)) (hs : (assignEach (e :: es) X.env).map (·.2) = assign e X.env :: (assignEach es X.env).map (·.2)) : PGs X (e :: es) (gTs X.K fa (t :: ts)) := by
  refine PGs.weak (pgs_cons h1 h2 hs) fun vs σ H Q ⟨Z, env, ds, env', ok, f, e, q⟩ => ?_
  cases f with
  | nil => cases e
  | cons f1 f2 =>
    unfold asgTs at e
    split at e
    · rename_i env1 e1
      refine ⟨_, _, rfl, Z, env, _, env1, ok, f1, e1, fun σ1 b1 o1 l1 => ⟨Z, env1, _, env', b1.ok, f2, e, fun σ2 b2 o2 l2 => ?_⟩⟩
      refine q σ2 (b1.trans b2) (fun i hi => ?_) (l2.trans l1)
      unfold stoTs at hi
      rw [List.mem_append, not_or] at hi
      rw [o2 i hi.2, o1 i hi.1]
    · cases e
theorem asgTs_len : ∀ {ts : List Tgt} {ds : List PyData} {env env' : Env}, asgTs ts ds env = some env' → ts.length = ds.length
  | [], [], _, _, _ => rfl
  | [], _ :: _, _, _, h => by cases h
  | _ :: _, [], _, _, h => by cases h
  | t :: ts, d :: ds, env, env', h => by
    unfold asgTs at h
    split at h
    · rw [List.length_cons, List.length_cons, asgTs_len h]
    · cases h
theorem g_tup {es : List Expr} {k : Nat} {ts : List Tgt} {n : Nat} (hc : X.calm = true) (h : PGs X es (gTs X.K fa ts)) (hl : ts.length = n) (hn : (assignEach es X.env).length = n) (hst : (assignEach es X.env).findIdx? (·.1) = none) : PG X (.Tuple es k pos) (gT X.K fa (.t ts)) := by
  refine PG.weak (pg_tup hc h hn hst) fun v σ H Q ⟨Z, env, d, env', ok, f, e, q⟩ => ?_
  cases d <;> simp only [asgT] at e <;> try (cases e; done)
  cases f with
  | tup f1 f2 => exact ⟨_, _, rfl, f1, by rw [f2.length, ← asgTs_len e, hl], Z, env, _, env', ok, f2, e, fun σ' b o l => q σ' b (by simpa [stoT] using o) l⟩
/-- names by a list -/
def gL (K : PySem.W.Frag) (fa : Nat → V → Prop) (ts : List Tgt) : TG := fun v σ H Q => ∃ (a : Addr) (us : List V) (Z : Addr → Prop) (env : Env) (ds : List PyData) (env' : Env), v = V.ref a ∧ H a = some (HO.lst us) ∧ Eok K fa H Z σ env ∧ FzAll K H Z us ds ∧ asgTs ts ds env = some env' ∧
  ∀ σ', Bm K fa σ H Z env σ' H Z env' → (∀ i, i ∉ stoTs ts → σ'[i]? = σ[i]?) → σ'.length = σ.length → Q σ' H
theorem g_lst {es : List Expr} {k : Nat} {ts : List Tgt} {n : Nat} (hc : X.calm = true) (h : PGs X es (gTs X.K fa ts)) (hl : ts.length = n) (hn : (assignEach es X.env).length = n) (hst : (assignEach es X.env).findIdx? (·.1) = none) : PG X (.Tuple es k pos) (gL X.K fa ts) := by
  refine PG.weak (pg_unl hc h hn hst) fun v σ H Q ⟨a, us, Z, env, ds, env', ev, ha, ok, f, e, q⟩ => ?_
  exact ⟨a, us, ev, .inl (.inl ha), by rw [f.length, ← asgTs_len e, hl], Z, env, ds, env', ok, f, e, q⟩
end

/-! ### slots of a block's own names -/
section
variable {K : PySem.W.Frag} {fa : Nat → V → Prop} {σ σ0 σ1 σ2 : L2.St} {H H0 H1 H2 : Hp} {Z Z0 Z1 Z2 : Addr → Prop} {env env0 env1 env2 : Env} {v : V} {d : PyData}
theorem wipeE_len (env : Env) : ∀ vs : List Nat, (wipeE env vs).length = env.length
  | [] => rfl
  | v :: vs => by unfold wipeE; rw [List.length_set, wipeE_len env vs]
theorem wipeE_some {i : Nat} {w : W} : ∀ {vs : List Nat}, (wipeE env vs)[i]? = some (some w) → env[i]? = some (some w) ∧ i ∉ vs
  | [], h => ⟨h, by simp⟩
  | v :: vs, h => by
    unfold wipeE at h
    rcases getElem?_set_cases h with ⟨_, e, _⟩ | ⟨ne, e⟩
    · cases e
    · obtain ⟨h1, h2⟩ := wipeE_some e
      exact ⟨h1, by simp only [List.mem_cons, not_or]; exact ⟨ne, h2⟩⟩
theorem wipe_ne {i : Nat} : ∀ {vs : List Nat}, i ∉ vs → (L2.wipe σ vs)[i]? = σ[i]?
  | [], _ => rfl
  | v :: vs, h => by
    simp only [List.mem_cons, not_or] at h
    unfold L2.wipe
    rw [List.getElem?_set_ne (Ne.symm h.1), wipe_ne h.2]
theorem wipe_in {i : Nat} : ∀ {vs : List Nat}, i ∈ vs → i < σ.length → (L2.wipe σ vs)[i]? = some none
  | v :: vs, h, hl => by
    unfold L2.wipe
    by_cases e : v = i
    · subst e
      exact List.getElem?_set_self (by rw [L2.wipe_length]; exact hl)
    · rw [List.getElem?_set_ne e]
      rcases List.mem_cons.mp h with q | q
      · exact absurd q.symm e
      · exact wipe_in q hl
theorem wipe_eq {vs : List Nat} (hl : σ2.length = σ.length) (h : ∀ i, i ∉ vs → σ2[i]? = (L2.wipe σ vs)[i]?) : L2.wipe σ2 vs = L2.wipe σ vs := by
  apply List.ext_getElem?
  intro i
  by_cases hi : i ∈ vs
  · by_cases hb : i < σ.length
    · rw [wipe_in hi hb, wipe_in hi (by rw [hl]; exact hb)]
    · rw [List.getElem?_eq_none (by rw [L2.wipe_length, hl]; omega), List.getElem?_eq_none (by rw [L2.wipe_length]; omega)]
  · rw [wipe_ne hi, h i hi]
theorem Bm.wipe (ok : Eok K fa H Z σ env) (vs : List Nat) : Bm K fa σ H Z env (L2.wipe σ vs) H Z (wipeE env vs) := by
  have mo : ∀ a, Own (L2.wipe σ vs) (wipeE env vs) a → Own σ env a := fun a ⟨j, xs, q1, q2⟩ => ⟨j, xs, (wipeE_some q1).1, (L2.wipe_some q2).1⟩
  have mw : ∀ i, ownd (wipeE env vs) i → ownd env i ∧ (L2.wipe σ vs)[i]? = σ[i]? := fun i ⟨xs, h⟩ => by
    rcases h with h | h
    · obtain ⟨h1, h2⟩ := wipeE_some h
      exact ⟨⟨xs, .inl h1⟩, wipe_ne h2⟩
    · obtain ⟨h1, h2⟩ := wipeE_some h
      exact ⟨⟨xs, .inr h1⟩, wipe_ne h2⟩
  refine ⟨⟨fun _ _ h _ => h, fun _ o h => ⟨o, h⟩, fun _ h _ => h, fun _ h => .inl h, fun a h => .inl (mo a h), ok.muz, ok.zl⟩, mo, mw, fun i xs h => (wipeE_some h).1, ⟨fun i w h => ?_, fun i j b o1 o2 e1 e2 => ?_, ok.zl, by rw [wipeE_len, L2.wipe_length]; exact ok.len⟩⟩
  · obtain ⟨h1, h2⟩ := wipeE_some h
    obtain ⟨v, e1, e2⟩ := ok.nm i w h1
    exact ⟨v, by rw [wipe_ne h2]; exact e1, e2⟩
  · obtain ⟨h1, q1⟩ := mw i o1
    obtain ⟨h2, q2⟩ := mw j o2
    rw [q1] at e1
    rw [q2] at e2
    exact ok.apart i j b h1 h2 e1 e2
theorem restE_len (env0 env : Env) : ∀ vs : List Nat, (restE env0 env vs).length = env.length
  | [] => rfl
  | v :: vs => by unfold restE; rw [List.length_set, restE_len env0 env vs]
theorem restE_some {i : Nat} {w : W} : ∀ {vs : List Nat}, (restE env0 env vs)[i]? = some (some w) → (i ∈ vs ∧ env0[i]? = some (some w)) ∨ (i ∉ vs ∧ env[i]? = some (some w))
  | [], h => .inr ⟨by simp, h⟩
  | v :: vs, h => by
    unfold restE at h
    rcases getElem?_set_cases h with ⟨e1, e, _⟩ | ⟨ne, e⟩
    · subst e1
      refine .inl ⟨List.mem_cons_self, ?_⟩
      rw [List.getD_eq_getElem?_getD] at e
      cases q : env0[i]? with
      | none => rw [q] at e; cases e
      | some o => rw [q] at e; cases o <;> cases e; rfl
    · rcases restE_some e with ⟨h1, h2⟩ | ⟨h1, h2⟩
      · exact .inl ⟨List.mem_cons_of_mem _ h1, h2⟩
      · exact .inr ⟨by simp only [List.mem_cons, not_or]; exact ⟨ne, h1⟩, h2⟩
theorem restE_ownd {i : Nat} {vs : List Nat} (h : ownd (restE env0 env vs) i) : (i ∈ vs ∧ ownd env0 i) ∨ (i ∉ vs ∧ ownd env i) := by
  obtain ⟨xs, h | h⟩ := h
  · rcases restE_some h with ⟨h1, h2⟩ | ⟨h1, h2⟩
    · exact .inl ⟨h1, xs, .inl h2⟩
    · exact .inr ⟨h1, xs, .inl h2⟩
  · rcases restE_some h with ⟨h1, h2⟩ | ⟨h1, h2⟩
    · exact .inl ⟨h1, xs, .inr h2⟩
    · exact .inr ⟨h1, xs, .inr h2⟩
/-- behind the block its own names are as they were -/
theorem Bm.rest {vs : List Nat} (ok : Eok K fa H1 Z1 σ env1) (b : Bm K fa (L2.wipe σ vs) H1 Z1 (wipeE env1 vs) (L2.wipe σ vs) H Z env) : Mid K fa σ H1 Z1 env1 H Z (restE env1 env vs) := by
  have bw := Bm.wipe ok vs
  have own1 : ∀ a, Own (L2.wipe σ vs) env a → Own σ env1 a := fun a q => bw.mo a (b.mo a q)
  have own : ∀ a, Own σ (restE env1 env vs) a → Own σ env1 a := fun a ⟨i, xs, q1, q2⟩ => by
    rcases restE_some q1 with ⟨h1, h2⟩ | ⟨h1, h2⟩
    · exact ⟨i, xs, h2, q2⟩
    · exact own1 a ⟨i, xs, h2, by rw [wipe_ne h1]; exact q2⟩
  have mw : ∀ i, ownd (restE env1 env vs) i → ownd env1 i := fun i q => by
    rcases restE_ownd q with ⟨_, h⟩ | ⟨_, h⟩
    · exact h
    · exact (bw.mw i (b.mw i h).1).1
  have old : ∀ i a, i ∈ vs → ownd env1 i → σ[i]? = some (some (V.ref a)) → ¬ Own (L2.wipe σ vs) (wipeE env1 vs) a := fun i a hi o e ⟨j, xs, q1, q2⟩ => by
    obtain ⟨h1, h2⟩ := wipeE_some q1
    rw [wipe_ne h2] at q2
    have := ok.apart i j a o ⟨xs, .inl h1⟩ e q2
    subst this
    exact h2 hi
  refine ⟨⟨fun a o h n => b.st.keep a o h fun q => n (bw.mo a q), b.st.dom, fun a h n => b.st.zold a h fun q => n (bw.mo a q), b.st.znew, fun a h => .inl (own a h), ok.muz, ok.zl⟩, own, mw, fun i a h e => (ok.slot (mw i h) e).2, fun i xs h => ?_, ⟨fun i w h => ?_, fun i j a o1 o2 e1 e2 => ok.apart i j a (mw i o1) (mw j o2) e1 e2, b.ok.zl, ?_⟩⟩
  · rcases restE_some h with ⟨_, h⟩ | ⟨_, h⟩
    · exact h
    · exact bw.kk i xs (b.kk i xs h)
  · rcases restE_some h with ⟨hi, h⟩ | ⟨hi, h⟩
    · obtain ⟨v, e1, e2⟩ := ok.nm i w h
      refine ⟨v, e1, ?_⟩
      cases w with
      | d x => exact Fz.step b.st e2
      | l xs =>
        obtain ⟨a, us, rfl, h1, h2, h3⟩ := e2
        have n := old i a hi ⟨xs, .inl h⟩ e1
        exact ⟨a, us, rfl, b.st.keep a _ h1 n, b.st.zold a h2 n, FzAll.step b.st h3⟩
      | k xs =>
        obtain ⟨a, us, rfl, h1, h2, h3⟩ := e2
        have n := old i a hi ⟨xs, .inr h⟩ e1
        exact ⟨a, us, rfl, b.st.keep a _ h1 n, b.st.zold a h2 n, FzAll.step b.st h3⟩
      | r xs =>
        obtain ⟨a, us, rfl, h1, h3⟩ := e2
        exact ⟨a, us, rfl, RdL.step b.st h1, FzAll.step b.st h3⟩
      | f n => exact e2
    · obtain ⟨v, e1, e2⟩ := b.ok.nm i w h
      exact ⟨v, by rw [wipe_ne hi] at e1; exact e1, e2⟩
  · rw [restE_len, b.ok.len, L2.wipe_length]

/-! ### unlocking -/
theorem unlock1_some {i : Nat} (h : unlock1 env i = some env1) : ∃ xs, env[i]? = some (some (.k xs)) ∧ env1 = env.set i (some (.l xs)) := by
  unfold unlock1 at h
  split at h
  · rename_i xs e
    cases h
    exact ⟨xs, e, rfl⟩
  · cases h
theorem Eok.unlock1 {i : Nat} {xs : List PyData} (ok : Eok K fa H Z σ env) (h : env[i]? = some (some (.k xs))) : Eok K fa H Z σ (env.set i (some (.l xs))) := by
  have ow : ∀ j, ownd (env.set i (some (.l xs))) j → ownd env j := fun j ⟨ys, q⟩ => by
    by_cases ej : j = i
    · subst ej; exact ⟨xs, .inr h⟩
    · rw [List.getElem?_set_ne (Ne.symm ej)] at q
      exact ⟨ys, q⟩
  refine ⟨fun j w q => ?_, fun j k b q1 q2 => ok.apart j k b (ow j q1) (ow k q2), ok.zl, by rw [List.length_set]; exact ok.len⟩
  rcases getElem?_set_cases q with ⟨rfl, e, _⟩ | ⟨_, e⟩
  · cases e
    obtain ⟨v, e1, e2⟩ := ok.nm j _ h
    exact ⟨v, e1, e2⟩
  · exact ok.nm j w e
theorem Mid.unlock1 {i : Nat} {xs : List PyData} (ok : Eok K fa H1 Z1 σ env1) (h : env1[i]? = some (some (.l xs))) (m : Mid K fa σ H1 Z1 (env1.set i (some (.k xs))) H Z env) (u : unlock1 env i = some env2) : Mid K fa σ H1 Z1 env1 H Z env2 := by
  obtain ⟨ys, e1, rfl⟩ := unlock1_some u
  obtain ⟨a, vs, ea, _, _⟩ := ok.own h
  have hi : i < env1.length := (List.getElem?_eq_some_iff.mp h).1
  have mo0 : ∀ b, Own σ (env1.set i (some (.k xs))) b → Own σ env1 b := fun b q => Own_lock q
  have own : ∀ b, Own σ (env.set i (some (.l ys))) b → Own σ env1 b := fun b ⟨j, zs, q1, q2⟩ => by
    rcases getElem?_set_cases q1 with ⟨rfl, _, _⟩ | ⟨_, e⟩
    · exact ⟨j, xs, h, q2⟩
    · exact mo0 b (m.mo b ⟨j, zs, e, q2⟩)
  have mw : ∀ j, ownd (env.set i (some (.l ys))) j → ownd env1 j := fun j ⟨zs, q⟩ => by
    by_cases ej : j = i
    · subst ej; exact ⟨xs, .inl h⟩
    · rw [List.getElem?_set_ne (Ne.symm ej)] at q
      exact ownd_lock h (m.mw j ⟨zs, q⟩)
  refine ⟨⟨fun b o q n => m.st.keep b o q fun z => n (mo0 b z), m.st.dom, fun b q n => m.st.zold b q fun z => n (mo0 b z), m.st.znew, fun b q => .inl (own b q), ok.muz, ok.zl⟩, own, mw, fun j b q e => (ok.slot (mw j q) e).2, fun j zs q => ?_, m.ok.unlock1 e1⟩
  rcases getElem?_set_cases q with ⟨_, e, _⟩ | ⟨ne, e⟩
  · cases e
  · have := m.kk j zs e
    rw [List.getElem?_set_ne (Ne.symm ne)] at this
    exact this
theorem Mid.unlock : ∀ {ls : List Nat} {env1 envl env env2 : Env}, Locks env1 ls envl → Eok K fa H1 Z1 σ env1 → Mid K fa σ H1 Z1 envl H Z env → Ev.unlock env ls = some env2 → Mid K fa σ H1 Z1 env1 H Z env2
  | _, _, _, _, _, .nil, _, m, u => by cases u; exact m
  | _, _, _, _, _, .cons h r, ok, m, u => by
    unfold Ev.unlock at u
    split at u
    · rename_i e' h'
      exact Mid.unlock1 ok h (Mid.unlock r (ok.lock h) m h') u
    · cases u
end
end Ev

/-! Ev, part N: comprehensions. -/
namespace Ev
open PySem L2 PyProof.Rows

/-- nothing is raised -/
def noX : XW := fun _ _ _ _ => False
/-- the tests of a comprehension -/
def tTs (K : PySem.W.Frag) (fa : Nat → V → Prop) (G : Tab) (ms : List ME) : TT := fun σ H Q => ∃ Z env, Eok K fa H Z σ env ∧ match evt G ms env with
  | .ok p => ∀ Z' H', Mid K fa σ H Z env H' Z' p.1 → Q p.2 H'
  | _ => False
theorem PTs.weak {X : Cx} {ifs : List Expr} {t t' : TT} (h : PTs X ifs t) (w : ∀ σ H Q, t' σ H Q → t σ H Q) : PTs X ifs t' := ⟨fun pins s σ H Q I q => h.run pins s σ H Q I (w σ H Q q)⟩
section
variable {X : Cx} {fa : Nat → V → Prop} {G : Tab} {c : Expr} {mc : ME}
theorem t_nil : PTs X [] (tTs X.K fa G []) := PTs.weak pts_nil fun σ H Q ⟨Z, env, ok, h⟩ => h Z H (.refl ok)
theorem t_one (hc : PT X c (tB X.K fa noX G mc)) : PTs X [c] (tTs X.K fa G [mc]) := by
  refine PTs.weak (pts_one hc) fun σ H Q ⟨Z, env, ok, h⟩ => ?_
  refine ⟨Z, env, ok, ?_⟩
  unfold evt at h
  revert h
  cases ev G mc env with
  | bad => exact fun z => z
  | ex c a => exact fun z => z.elim
  | ok p =>
    simp only [Rs.bind]
    cases ht : truR p.1 p.2 with
    | none => exact fun z => z
    | some k =>
      cases k with
      | false => exact fun z => z
      | true =>
        unfold evt
        exact fun z => z
end
/-- one turn -/
def lcTurn (G : Tab) (own : List Nat) (tg : Tgt) (ifs : List ME) (e : ME) : PyData → Env → Rs (Env × Option PyData) := fun x en => match asgT tg x en with
  | none => .bad
  | some en1 => (evt G ifs en1).bind fun q => if q.2 then (ev G e q.1).bind fun t => match keep t.1 t.2 with
      | some (en2, y) => .ok (wipeE en2 own, some y)
      | none => .bad
    else .ok (wipeE q.1 own, none)
theorem ev_lc (G : Tab) (own : List Nat) (tg : Tgt) (w : Nat) (its ifs : List ME) (e : ME) (env : Env) : ev G (.lc own tg w its ifs e) env = (evs G its env).bind fun p => match items w p.1 p.2 with
    | none => .bad
    | some (env1, xs, ls) => match lcGo (lcTurn G own tg ifs e) xs (wipeE env1 own) [] with
        | .ok (env2, acc) => if acc.length ≤ sizeLine then match unlock (restE env1 env2 own) ls with
            | some env3 => .ok (env3, .n acc)
            | none => .bad
          else .bad
        | _ => .bad := by
  rw [ev]
  rfl
theorem lcGo_len (turn : PyData → Env → Rs (Env × Option PyData)) : ∀ (xs : List PyData) (en : Env) (acc : List PyData) (r : Env × List PyData), lcGo turn xs en acc = .ok r → acc.length ≤ r.2.length
  | [], en, acc, r, h => by cases h; exact Nat.le_refl _
  | x :: xs, en, acc, r, h => by
    unfold lcGo at h
    split at h
    · have := lcGo_len turn xs _ _ r h
      rw [List.length_append, List.length_singleton] at this
      omega
    · exact lcGo_len turn xs _ _ r h
    · cases h
section
variable {K : PySem.W.Frag} {fa : Nat → V → Prop} {σ : L2.St} {H H0 H1 : Hp} {Z Z0 Z1 : Addr → Prop} {env env0 env1 : Env} {D : Addr}
/-- the new list is written -/
theorem Bm.writeNew {vs : List V} (b : Bm K fa σ H0 Z0 env0 σ H Z env) (ok : Eok K fa H0 Z0 σ env0) (n : H0 D = none) (z : Z D) : Bm K fa σ H0 Z0 env0 σ (upd H D (.lst vs)) Z env := by
  have s : Stp (fun a => a = D) Z H (fun a => a = D) Z (upd H D (.lst vs)) := Stp.write (fun a e => by rw [e]; exact z) b.ok.zl rfl
  refine ⟨⟨fun a o h m => ?_, fun a o h => ?_, b.st.zold, b.st.znew, b.st.mnew, b.st.muz, b.st.zl⟩, b.mo, b.mw, b.kk, b.ok.stay s (fun a q => ?_) fun i a o e => ?_⟩
  · rw [upd_ne (ne_of_none h n)]; exact b.st.keep a o h m
  · rw [upd_ne (ne_of_none h n)]; exact b.st.dom a o h
  · by_cases e : a = D
    · subst e; exact ⟨vs, upd_same⟩
    · rw [upd_ne e]; exact b.ok.zl a q
  · obtain ⟨us, q⟩ := b.slot ok o e
    exact ⟨upd_ne (ne_of_none q n), (b.ok.slot o e).1⟩
theorem FzAll.writeNew {vs us : List V} {ds : List PyData} (zl : Zl Z H) (z : Z D) (f : FzAll K H Z us ds) : FzAll K (upd H D (.lst vs)) Z us ds :=
  f.step (Stp.write (Mu := fun a => a = D) (fun a e => by rw [e]; exact z) zl rfl)
end
theorem lc_weak {X : Cx} {fa : Nat → V → Prop} {XX : XW} {G : Tab} {vs : List Nat} {t : Tgt} {w : Nat} {its mifs : List ME} {me : ME} (hto : ∀ i ∈ stoT t, i ∈ vs) (σ : L2.St) (H : Hp) (Q : VK) (h0 : tE X.K fa XX G (.lc vs t w its mifs me) σ H Q) :
    L2.tLc (tI X.K fa XX G w its) (gT X.K fa t) (tTs X.K fa G mifs) (tE X.K fa noX G me) vs σ H Q := by
  obtain ⟨Z, env, ok, h⟩ := h0
  rw [ev_lc] at h
  refine ⟨Z, env, ok, ?_⟩
  revert h
  cases evs G its env with
  | bad => exact fun z => z
  | ex c a => exact fun z => z
  | ok p =>
    simp only [Rs.bind]
    cases hit : items w p.1 p.2 with
    | none => exact fun z => z
    | some q =>
      obtain ⟨env1, xs, ls⟩ := q
      dsimp only
      cases hgo : lcGo (lcTurn G vs t mifs me) xs (wipeE env1 vs) [] with
      | bad => exact fun z => z.elim
      | ex c a => exact fun z => z.elim
      | ok r =>
        obtain ⟨env2, acc⟩ := r
        dsimp only
        split
        · rename_i hz
          cases hu : unlock (restE env1 env2 vs) ls with
          | none => exact fun z => z.elim
          | some env3 =>
            intro hf Z1 H1 J P m hl ok1 wl p1 D hD
            have okw : Eok X.K fa H1 Z1 (L2.wipe σ vs) (wipeE env1 vs) := (Bm.wipe ok1 vs).ok
            refine ⟨fun i n H => n = xs.length - i ∧ i ≤ xs.length ∧ ∃ Z en av ad, Bm X.K fa (L2.wipe σ vs) H1 Z1 (wipeE env1 vs) (L2.wipe σ vs) H Z en ∧ H D = some (.lst av) ∧ Z D ∧ FzAll X.K H Z av ad ∧ lcGo (lcTurn G vs t mifs me) (xs.drop i) en ad = .ok (env2, acc),
              ⟨xs.length, by omega, Nat.zero_le _, more Z1 D, wipeE env1 vs, [], [], ?_, upd_same, .inr rfl, .nil, hgo⟩, ?_⟩
            · exact ((Mid.refl okw).newL hD).bm
            · rintro i n H' ⟨rfl, hi, Z', en, av, ad, b, hDv, hDz, hf', hgo'⟩
              have pc : P (Own (L2.wipe σ vs) en) Z' H' := wl.step _ _ _ _ _ _ (wl.step _ _ _ _ _ _ p1 (Bm.wipe ok1 vs).st) b.st
              by_cases hlt : i < xs.length
              · have hx : xs[i]? = some xs[i] := List.getElem?_eq_getElem hlt
                refine .inr ⟨wl.go i _ _ _ _ pc hx, _, fun H2 hn => hn, fun x H2 hy => ?_⟩
                rw [List.drop_eq_getElem_cons hlt] at hgo'
                unfold lcGo at hgo'
                -- the item
                have item : Bm X.K fa (L2.wipe σ vs) H1 Z1 (wipeE env1 vs) (L2.wipe σ vs) H2 Z' en ∧ Fz X.K H2 Z' x xs[i] ∧ H2 D = some (.lst av) ∧ FzAll X.K H2 Z' av ad := by
                  rcases wl.yld i _ _ _ _ x H2 pc hx hy with ⟨rfl, f⟩ | ⟨T, us, ds, rfl, hT, rfl, ed, f⟩
                  · exact ⟨b, f, hDv, hf'⟩
                  · refine ⟨b.newT hT, ?_, by rw [upd_ne (ne_of_none hDv hT)]; exact hDv, hf'.newT b.ok.zl hT⟩
                    rw [ed]
                    exact .tup (.inl (.inl upd_same)) (f.newT b.ok.zl hT)
                obtain ⟨b2, fx, hD2, hf2⟩ := item
                cases ha : asgT t xs[i] en with
                | none =>
                  unfold lcTurn at hgo'
                  simp only [ha] at hgo'
                  cases hgo'
                | some en1 =>
                  refine ⟨Z', en, xs[i], en1, b2.ok, fx, ha, fun σ2 b3 ho hlen => ?_⟩
                  have hw : L2.wipe σ2 vs = L2.wipe σ vs := wipe_eq (by rw [hlen, L2.wipe_length]) fun j hj => ho j fun q => hj (hto j q)
                  refine ⟨hw, Z', en1, b3.ok, ?_⟩
                  have step : lcTurn G vs t mifs me xs[i] en = (evt G mifs en1).bind fun q => if q.2 then (ev G me q.1).bind fun t => match keep t.1 t.2 with
                      | some (en2, y) => .ok (wipeE en2 vs, some y)
                      | none => .bad
                    else .ok (wipeE q.1 vs, none) := by
                    unfold lcTurn
                    rw [ha]
                  rw [step] at hgo'
                  cases htt : evt G mifs en1 with
                  | bad => rw [htt] at hgo'; cases hgo'
                  | ex c a => rw [htt] at hgo'; cases hgo'
                  | ok q =>
                    obtain ⟨en2, k⟩ := q
                    rw [htt] at hgo'
                    intro Z3 H3 m3
                    have b4 : Bm X.K fa (L2.wipe σ vs) H1 Z1 (wipeE env1 vs) σ2 H3 Z3 en2 := (b2.trans b3).trans m3.bm
                    have nD : ∀ {σ' : L2.St} {en' : Env}, (∀ a, Own σ' en' a → Own (L2.wipe σ vs) (wipeE env1 vs) a) → ¬ Own σ' en' D := fun mo q => by
                      obtain ⟨us, e⟩ := ok1.zl D (ok1.muz D ((Bm.wipe ok1 vs).mo D (mo D q)))
                      rw [hD] at e; cases e
                    have n1 : ¬ Own σ2 en1 D := nD (b2.trans b3).mo
                    have hD3 : H3 D = some (.lst av) := m3.st.keep D _ hD2 n1
                    have hZ3 : Z3 D := m3.st.zold D hDz n1
                    have hf3 : FzAll X.K H3 Z3 av ad := hf2.step m3.st
                    cases k with
                    | false =>
                      simp only [Rs.bind, Bool.false_eq_true, if_false] at hgo' ⊢
                      have b5 := b4.trans (Bm.wipe b4.ok vs)
                      rw [hw] at b5
                      exact ⟨xs.length - (i + 1), by omega, rfl, hlt, Z3, _, av, ad, b5, hD3, hZ3, hf3, hgo'⟩
                    | true =>
                      simp only [Rs.bind, if_true] at hgo' ⊢
                      refine ⟨Z3, en2, m3.ok, ?_⟩
                      cases hev : ev G me en2 with
                      | bad => rw [hev] at hgo'; cases hgo'
                      | ex c a => rw [hev] at hgo'; cases hgo'
                      | ok r =>
                        obtain ⟨en3, rr⟩ := r
                        rw [hev] at hgo'
                        simp only [Rs.bind] at hgo'
                        intro Z4 H4 y m4 hr
                        cases hk : keep en3 rr with
                        | none => rw [hk] at hgo'; cases hgo'
                        | some kq =>
                          obtain ⟨en4, yd⟩ := kq
                          rw [hk] at hgo'
                          dsimp only at hgo'
                          obtain ⟨Z5, m5, fy, _, _⟩ := m4.keep hr hk
                          have n2 : ¬ Own σ2 en2 D := nD b4.mo
                          have hD4 : H4 D = some (.lst av) := m5.st.keep D _ hD3 n2
                          have hZ5 : Z5 D := m5.st.zold D hZ3 n2
                          have hf5 : FzAll X.K H4 Z5 av ad := hf3.step m5.st
                          have b5 := (b4.trans m5.bm).trans (Bm.wipe m5.ok vs)
                          rw [hw] at b5
                          have hl2 := lcGo_len _ _ _ _ _ hgo'
                          rw [List.length_append, List.length_singleton] at hl2
                          dsimp only at hl2
                          refine ⟨av, hD4, by rw [hf5.length]; omega, ?_⟩
                          exact ⟨xs.length - (i + 1), by omega, rfl, hlt, Z5, _, av ++ [y], ad ++ [yd], b5.writeNew okw hD hZ5, upd_same, hZ5, (hf5.append (.cons fy .nil)).writeNew b5.ok.zl hZ5, hgo'⟩
              · have e : i = xs.length := by omega
                subst e
                rw [List.drop_length] at hgo'
                cases hgo'
                refine .inl ⟨wl.stop _ _ _ _ pc rfl, ?_⟩
                have m6 : Mid X.K fa σ H1 Z1 env1 H' Z' (restE env1 env2 vs) := Bm.rest ok1 b
                have m7 := m.trans (Mid.unlock hl m.ok m6 hu)
                exact hf Z' H' (V.ref D) m7 ⟨D, av, rfl, hDv, hDz, m.fresh hD, hf'⟩
        · exact fun z => z.elim
theorem s_lc {X : Cx} {fa : Nat → V → Prop} {XX : XW} {G : Tab} {elt tg iter : Expr} {ifs : List Expr} {scope : Scope} {own : List (Str × Nat)} {pos : Pos} {t : Tgt} {w : Nat} {its mifs : List ME} {me : ME} (hc : X.calm = true) (hN : X.N.Nodup) (hi : PI X tg iter (tI X.K fa XX G w its)) (ok : BlkOk X.N X.env.scope scope own)
    (hg : ∀ (s : Shared) (H : Hp) (C : Addr) (cl : List (Str × Addr)) (fp : List Addr), PG (X.blk s H scope (compEnvC scope cl C X.env) fp) tg (gT X.K fa t))
    (ht : ∀ (s : Shared) (H : Hp) (C : Addr) (cl : List (Str × Addr)) (fp : List Addr), PTs (X.blk s H scope (compEnvC scope cl C X.env) fp) ifs (tTs X.K fa G mifs))
    (he : ∀ (s : Shared) (H : Hp) (C : Addr) (cl : List (Str × Addr)) (fp : List Addr), PE (X.blk s H scope (compEnvC scope cl C X.env) fp) elt (tE X.K fa noX G me)) (hs : ∀ x, foldedSetIterable iter X.env x = pure x) (hto : ∀ i ∈ stoT t, i ∈ own.map (·.2)) :
    PE X (.ListComp elt [⟨tg, iter, ifs, 0⟩] scope pos) (tE X.K fa XX G (.lc (own.map (·.2)) t w its mifs me)) := by
  refine PE.weak (pe_lc hc hN hi ok hg ht he hs) (lc_weak hto)
end Ev

/-! Ev, part O: statements. -/
namespace Ev
open PySem L2 PyProof.Rows

/-- a step of statements: names may be bound to new lists of their own -/
structure Sm (S : Nat → Prop) (K : PySem.W.Frag) (fa : Nat → V → Prop) (σ0 : L2.St) (H0 : Hp) (Z0 : Addr → Prop) (env0 : Env) (σ : L2.St) (H : Hp) (Z : Addr → Prop) (env : Env) : Prop where
  st : Stp (Own σ0 env0) Z0 H0 (Own σ env) Z H
  kk : ∀ (i : Nat) (xs : List PyData), env[i]? = some (some (W.k xs)) → env0[i]? = some (some (W.k xs)) ∧ σ[i]? = σ0[i]?
  ow : ∀ (i : Nat) (a : Addr), ownd env i → σ[i]? = some (some (V.ref a)) → (ownd env0 i ∧ σ[i]? = σ0[i]?) ∨ H0 a = none
  ag : ∀ i, ¬ S i → σ[i]? = σ0[i]?
  len : σ.length = σ0.length
  ok : Eok K fa H Z σ env
section
variable {S : Nat → Prop} {K : PySem.W.Frag} {fa : Nat → V → Prop} {σ σ0 σ1 σ2 : L2.St} {H H0 H1 H2 : Hp} {Z Z0 Z1 Z2 : Addr → Prop} {env env0 env1 env2 : Env} {v : V} {d : PyData} {r : Rv}
theorem Sm.refl (h : Eok K fa H Z σ env) : Sm S K fa σ H Z env σ H Z env := ⟨.refl h.muz h.zl, fun _ _ h => ⟨h, rfl⟩, fun _ _ h _ => .inl ⟨h, rfl⟩, fun _ _ => rfl, rfl, h⟩
theorem Sm.trans (a : Sm S K fa σ0 H0 Z0 env0 σ1 H1 Z1 env1) (b : Sm S K fa σ1 H1 Z1 env1 σ2 H2 Z2 env2) : Sm S K fa σ0 H0 Z0 env0 σ2 H2 Z2 env2 := by
  refine ⟨a.st.trans b.st, fun i xs h => ?_, fun i x h e => ?_, fun i n => (b.ag i n).trans (a.ag i n), b.len.trans a.len, b.ok⟩
  · obtain ⟨h1, e1⟩ := b.kk i xs h
    obtain ⟨h2, e2⟩ := a.kk i xs h1
    exact ⟨h2, e1.trans e2⟩
  · rcases b.ow i x h e with ⟨h1, e1⟩ | h1
    · rcases a.ow i x h1 (e1 ▸ e) with ⟨h2, e2⟩ | h2
      · exact .inl ⟨h2, e1.trans e2⟩
      · exact .inr h2
    · right
      cases q : H0 x with
      | none => rfl
      | some o =>
        obtain ⟨o', q'⟩ := a.st.dom x o q
        rw [h1] at q'; cases q'
theorem Bm.sm (b : Bm K fa σ0 H0 Z0 env0 σ H Z env) (ag : ∀ i, ¬ S i → σ[i]? = σ0[i]?) (len : σ.length = σ0.length) : Sm S K fa σ0 H0 Z0 env0 σ H Z env := ⟨b.st, fun i xs h => ⟨b.kk i xs h, (b.mw i ⟨xs, .inr h⟩).2⟩, fun i a h _ => .inl (b.mw i h), ag, len, b.ok⟩
theorem Mid.sm (m : Mid K fa σ H0 Z0 env0 H Z env) : Sm S K fa σ H0 Z0 env0 σ H Z env := m.bm.sm (fun _ _ => rfl) rfl
theorem Sm.fresh (m : Sm S K fa σ0 H0 Z0 env0 σ H Z env) {a : Addr} (h : H a = none) : H0 a = none := by
  cases q : H0 a with
  | none => rfl
  | some o =>
    obtain ⟨o', q'⟩ := m.st.dom a o q
    rw [h] at q'; cases q'
theorem RvOk.backS (m : Sm S K fa σ0 H0 Z0 env0 σ H Z env) (h : RvOk K fa H H1 Z1 σ1 r v) : RvOk K fa H0 H1 Z1 σ1 r v := by
  cases r with
  | n xs =>
    obtain ⟨a, vs, rfl, h1, h2, h3, h4⟩ := h
    exact ⟨a, vs, rfl, h1, h2, m.fresh h3, h4⟩
  | v x => exact h
  | p i => exact h
  | r xs => exact h
  | f k => exact h

/-! ### names are bound -/
theorem Sm.bindL {a : Addr} {vs : List V} {xs : List PyData} {i : Nat} (hS : S i) (m : Sm S K fa σ0 H0 Z0 env0 σ H Z env) (h : H a = some (.lst vs)) (z : Z a) (n : H0 a = none) (f : FzAll K H Z vs xs) (ap : ∀ j, ownd env j → σ[j]? ≠ some (some (V.ref a))) :
    Sm S K fa σ0 H0 Z0 env0 (σ.set i (some (V.ref a))) H Z (env.set i (some (.l xs))) := by
  have own : ∀ b, Own (σ.set i (some (V.ref a))) (env.set i (some (.l xs))) b → Own σ env b ∨ b = a := fun b ⟨j, zs, q1, q2⟩ => by
    rcases getElem?_set_cases q1 with ⟨rfl, _, hl⟩ | ⟨ne, e⟩
    · right
      rw [List.getElem?_set_self (by rw [← m.ok.len]; exact hl)] at q2
      cases q2; rfl
    · left
      rw [List.getElem?_set_ne (Ne.symm ne)] at q2
      exact ⟨j, zs, e, q2⟩
  have ow : ∀ j, ownd (env.set i (some (.l xs))) j → j ≠ i → ownd env j := fun j ⟨zs, q⟩ ne => by
    rw [List.getElem?_set_ne (Ne.symm ne)] at q
    exact ⟨zs, q⟩
  refine ⟨⟨m.st.keep, m.st.dom, m.st.zold, m.st.znew, fun b q => ?_, m.st.muz, m.st.zl⟩, fun j zs q => ?_, fun j b o e => ?_, fun j nj => ?_, by rw [List.length_set]; exact m.len, ⟨fun j w q => ?_, fun j k b o1 o2 e1 e2 => ?_, m.ok.zl, by rw [List.length_set, List.length_set]; exact m.ok.len⟩⟩
  · rcases own b q with q | rfl
    · exact m.st.mnew b q
    · exact .inr n
  · rcases getElem?_set_cases q with ⟨_, e, _⟩ | ⟨ne, e⟩
    · cases e
    · obtain ⟨h1, h2⟩ := m.kk j zs e
      exact ⟨h1, by rw [List.getElem?_set_ne (Ne.symm ne)]; exact h2⟩
  · by_cases hj : j = i
    · subst hj
      have hl : j < σ.length := by
        rw [← m.ok.len]
        obtain ⟨zs, q⟩ := o
        rcases q with q | q <;> (have := (List.getElem?_eq_some_iff.mp q).1; rw [List.length_set] at this; exact this)
      rw [List.getElem?_set_self hl] at e
      cases e
      exact .inr n
    · rw [List.getElem?_set_ne (Ne.symm hj)] at e ⊢
      exact m.ow j b (ow j o hj) e
  · have ne : i ≠ j := fun e => nj (by rw [← e]; exact hS)
    rw [List.getElem?_set_ne ne]
    exact m.ag j nj
  · rcases getElem?_set_cases q with ⟨rfl, e, hl⟩ | ⟨ne, e⟩
    · cases e
      exact ⟨V.ref a, List.getElem?_set_self (by rw [← m.ok.len]; exact hl), a, vs, rfl, h, z, f⟩
    · obtain ⟨u, e1, e2⟩ := m.ok.nm j w e
      exact ⟨u, by rw [List.getElem?_set_ne (Ne.symm ne)]; exact e1, e2⟩
  · have il : ∀ j, ownd (env.set i (some (.l xs))) j → j = i → i < env.length := fun j ⟨zs, q⟩ e => by
      subst e
      rcases q with q | q <;> (have := (List.getElem?_eq_some_iff.mp q).1; rw [List.length_set] at this; exact this)
    by_cases hj : j = i
    · by_cases hk : k = i
      · rw [hj, hk]
      · exfalso
        rw [hj, List.getElem?_set_self (by rw [← m.ok.len]; exact il j o1 hj)] at e1
        rw [List.getElem?_set_ne (Ne.symm hk)] at e2
        cases e1
        exact ap k (ow k o2 hk) e2
    · by_cases hk : k = i
      · exfalso
        rw [hk, List.getElem?_set_self (by rw [← m.ok.len]; exact il k o2 hk)] at e2
        rw [List.getElem?_set_ne (Ne.symm hj)] at e1
        cases e2
        exact ap j (ow j o1 hj) e1
      · rw [List.getElem?_set_ne (Ne.symm hj)] at e1
        rw [List.getElem?_set_ne (Ne.symm hk)] at e2
        exact m.ok.apart j k b (ow j o1 hj) (ow k o2 hk) e1 e2
theorem Eok.bindF (ok : Eok K fa H Z σ env) {n : Nat} (f : fa n v) (i : Nat) : Bm K fa σ H Z env (σ.set i (some v)) H Z (env.set i (some (.f n))) := by
  have nd : ∀ ys, (some (W.f n) : Option W) ≠ some (.l ys) ∧ (some (W.f n) : Option W) ≠ some (.k ys) := fun ys => ⟨fun q => (by cases q), fun q => (by cases q)⟩
  have mo : ∀ a, Own (σ.set i (some v)) (env.set i (some (.f n))) a → Own σ env a := fun a ⟨j, xs, q1, q2⟩ => by
    rcases getElem?_set_cases q1 with ⟨_, e, _⟩ | ⟨ne, e⟩
    · cases e
    · rw [List.getElem?_set_ne (Ne.symm ne)] at q2
      exact ⟨j, xs, e, q2⟩
  refine ⟨⟨fun _ _ h _ => h, fun _ o h => ⟨o, h⟩, fun _ h _ => h, fun _ h => .inl h, fun a h => .inl (mo a h), ok.muz, ok.zl⟩, mo, fun j h => ?_, fun j xs h => ?_, ⟨fun j w hj => ?_, fun j k b o1 o2 e1 e2 => ?_, ok.zl, by rw [List.length_set, List.length_set]; exact ok.len⟩⟩
  · obtain ⟨h1, n1⟩ := ownd_set nd h
    exact ⟨h1, List.getElem?_set_ne (Ne.symm n1)⟩
  · rcases getElem?_set_cases h with ⟨_, e, _⟩ | ⟨_, e⟩
    · cases e
    · exact e
  · rcases getElem?_set_cases hj with ⟨rfl, e, hl⟩ | ⟨ne, e⟩
    · cases e
      exact ⟨v, List.getElem?_set_self (by rw [← ok.len]; exact hl), f⟩
    · obtain ⟨u, e1, e2⟩ := ok.nm j w e
      exact ⟨u, by rw [List.getElem?_set_ne (Ne.symm ne)]; exact e1, e2⟩
  · obtain ⟨h1, n1⟩ := ownd_set nd o1
    obtain ⟨h2, n2⟩ := ownd_set nd o2
    rw [List.getElem?_set_ne (Ne.symm n1)] at e1
    rw [List.getElem?_set_ne (Ne.symm n2)] at e2
    exact ok.apart j k b h1 h2 e1 e2
/-- the values no longer tell of names -/
def noP (rs : List Rv) : Prop := ∀ i, Rv.p i ∉ rs
theorem Mid.settle : ∀ {rs : List Rv} {vs : List V} {qs : List Rv} {env env2 : Env} {Z : Addr → Prop}, Mid K fa σ H0 Z0 env0 H Z env → RvsOk K fa H0 H Z σ rs vs → Ev.settle env rs = some (env2, qs) →
    ∃ Z1, Mid K fa σ H0 Z0 env0 H Z1 env2 ∧ RvsOk K fa H0 H Z1 σ qs vs ∧ noP qs ∧ (∀ a, Z1 a → Z a) ∧ (∀ a, Z a → H0 a = none → Z1 a) ∧ ∀ a, Nw qs vs a → Nw rs vs a
  | _, _, qs, env, env2, Z, m, .nil, e => by cases e; exact ⟨Z, m, .nil, fun _ h => by simp at h, fun _ q => q, fun _ q _ => q, fun _ q => q⟩
  | _, _, qs, env, env2, Z, m, .cons (r := r) (rs := rs) (v := v) (vs := vs) h1 h2 h3, e => by
    have gen : (∀ j, r ≠ .p j) → Ev.settle env (r :: rs) = (match Ev.settle env rs with
      | some (e2, qs) => some (e2, r :: qs)
      | none => none) := fun n => by
      cases r <;> first | rfl | exact absurd rfl (n _)
    by_cases hp : ∃ j, r = .p j
    · obtain ⟨j, rfl⟩ := hp
      unfold Ev.settle at e
      cases k : Ev.keep env (.p j) with
      | none => rw [k] at e; cases e
      | some p =>
        obtain ⟨e1, x⟩ := p
        rw [k] at e
        obtain ⟨Z1, m1, f1, s1, k1⟩ := m.keep h1 k
        dsimp only at e
        cases k2 : Ev.settle e1 rs with
        | none => rw [k2] at e; cases e
        | some p =>
          obtain ⟨e2, ps⟩ := p
          rw [k2] at e
          cases e
          obtain ⟨Z2, m2, r2, n2, s2, t2, w2⟩ := Mid.settle m1 (h3.less s1 fun a q z n => k1 a z n fun ⟨ys, e1⟩ => by cases e1) k2
          refine ⟨Z2, m2, .cons (f1.sub s2) (fun ys a e => by cases e) r2, fun i hi => ?_, fun a q => s1 a (s2 a q), fun a z n => t2 a (k1 a z n fun ⟨ys, e1⟩ => by cases e1) n, fun a q => ?_⟩
          · rcases List.mem_cons.mp hi with hi | hi
            · cases hi
            · exact n2 i hi
          · rcases q.cons with ⟨ys, e, _⟩ | q
            · cases e
            · exact (w2 a q).tail
    · have hp : ∀ j, r ≠ .p j := fun j e => hp ⟨j, e⟩
      rw [gen hp] at e
      cases k2 : Ev.settle env rs with
      | none => rw [k2] at e; cases e
      | some p =>
        obtain ⟨e2, ps⟩ := p
        rw [k2] at e
        cases e
        obtain ⟨Z2, m2, r2, n2, s2, t2, w2⟩ := Mid.settle m h3 k2
        refine ⟨Z2, m2, .cons (h1.less s2 fun a ys _ _ z n => t2 a z n) (fun ys a e1 e2 q => h2 ys a e1 e2 (w2 a q)) r2, fun i hi => ?_, s2, t2, fun a q => ?_⟩
        · rcases List.mem_cons.mp hi with hi | hi
          · exact hp i hi.symm
          · exact n2 i hi
        · rcases q.cons with ⟨ys, e1, e2⟩ | q
          · exact ⟨0, ys, by rw [e1]; rfl, by rw [e2]; rfl⟩
          · exact (w2 a q).tail
/-- the slots with their new values -/
def setV (σ : L2.St) : List Nat → List V → L2.St
  | i :: is, v :: vs => setV (σ.set i (some v)) is vs
  | _, _ => σ
theorem RvOk.noName {r : Rv} (n : ∀ j, r ≠ .p j) (h : RvOk K fa H0 H Z σ r v) : RvOk K fa H0 H Z σ1 r v := by
  cases r with
  | p i => exact absurd rfl (n i)
  | v x => exact h
  | n xs => exact h
  | r xs => exact h
  | f k => exact h
theorem RvsOk.noName : ∀ {rs : List Rv} {vs : List V}, noP rs → RvsOk K fa H0 H Z σ rs vs → RvsOk K fa H0 H Z σ1 rs vs
  | _, _, _, .nil => .nil
  | _, _, n, .cons h1 h2 h3 => .cons (h1.noName fun j e => n j (by rw [e]; exact List.mem_cons_self)) h2 (RvsOk.noName (fun j h => n j (List.mem_cons_of_mem _ h)) h3)
theorem Sm.bindAll : ∀ {qs : List Rv} {vs : List V} {is : List Nat} {σ : L2.St} {env env2 : Env}, (∀ i ∈ is, S i) → Sm S K fa σ0 H0 Z0 env0 σ H Z env → RvsOk K fa H0 H Z σ qs vs → noP qs → (∀ a, Nw qs vs a → ∀ j, ownd env j → σ[j]? ≠ some (some (V.ref a))) → Ev.bindAll env is qs = some env2 →
    is.length = vs.length ∧ Sm S K fa σ0 H0 Z0 env0 (setV σ is vs) H Z env2
  | _, _, [], σ, env, env2, _, m, .nil, _, _, e => by cases e; exact ⟨rfl, m⟩
  | _, _, _ :: _, σ, env, env2, _, m, .nil, _, _, e => by cases e
  | _, _, [], σ, env, env2, _, m, .cons _ _ _, _, _, e => by cases e
  | _, _, i :: is, σ, env, env2, hS, m, .cons (r := r) (rs := rs) (v := v) (vs := vs) h1 h2 h3, n, ap, e => by
    unfold Ev.bindAll at e
    cases k : bindN env i r with
    | none => rw [k] at e; cases e
    | some e1 =>
      rw [k] at e
      have n3 : noP rs := fun j h => n j (List.mem_cons_of_mem _ h)
      have ags : ∀ _k : Nat, ∀ j, ¬ S j → (σ.set i (some v))[j]? = σ[j]? := fun _ j nj => List.getElem?_set_ne (show i ≠ j from fun e => nj (by rw [← e]; exact hS i List.mem_cons_self))
      have key : ∃ w, Sm S K fa σ0 H0 Z0 env0 (σ.set i (some v)) H Z e1 ∧ e1 = env.set i (some w) ∧ ((∃ xs, w = .l xs ∧ r = .n xs) ∨ ((∀ ys, (some w : Option W) ≠ some (.l ys)) ∧ ∀ ys, (some w : Option W) ≠ some (.k ys))) := by
        cases r with
        | v x =>
          simp only [bindN] at k
          split at k
          · cases k
            exact ⟨.d x, m.trans ((Bm.bind m.ok h1 i).sm (ags i) (by rw [List.length_set])), rfl, .inr ⟨fun ys q => (by cases q), fun ys q => (by cases q)⟩⟩
          · cases k
        | n xs =>
          simp only [bindN] at k
          split at k
          · cases k
            obtain ⟨a, us, rfl, q1, q2, q3, q4⟩ := h1
            exact ⟨.l xs, Sm.bindL (hS i List.mem_cons_self) m q1 q2 q3 q4 (ap a ⟨0, xs, rfl, rfl⟩), rfl, .inl ⟨xs, rfl, rfl⟩⟩
          · cases k
        | f t =>
          simp only [bindN] at k
          split at k
          · cases k
            exact ⟨.f t, m.trans ((m.ok.bindF h1 i).sm (ags i) (by rw [List.length_set])), rfl, .inr ⟨fun ys q => (by cases q), fun ys q => (by cases q)⟩⟩
          · cases k
        | p j => cases k
        | r xs => cases k
      obtain ⟨w, m1, ew, hw⟩ := key
      have hap : ∀ a, Nw rs vs a → ∀ j, ownd e1 j → (σ.set i (some v))[j]? ≠ some (some (V.ref a)) := fun a q j o ej => by
        by_cases hj : j = i
        · subst hj
          rcases hw with ⟨xs, rfl, rfl⟩ | ⟨w1, w2⟩
          · have il : j < σ.length := by
              obtain ⟨zs, q⟩ := o
              rw [← m.ok.len]
              rw [ew] at q
              rcases q with q | q <;> (have := (List.getElem?_eq_some_iff.mp q).1; rw [List.length_set] at this; exact this)
            rw [List.getElem?_set_self il] at ej
            cases ej
            exact h2 xs a rfl rfl q
          · obtain ⟨zs, q⟩ := o
            rw [ew] at q
            rcases q with q | q
            · rcases getElem?_set_cases q with ⟨_, e, _⟩ | ⟨ne, _⟩
              · exact w1 zs e.symm
              · exact ne rfl
            · rcases getElem?_set_cases q with ⟨_, e, _⟩ | ⟨ne, _⟩
              · exact w2 zs e.symm
              · exact ne rfl
        · rw [List.getElem?_set_ne (Ne.symm hj)] at ej
          refine ap a q.tail j ?_ ej
          obtain ⟨zs, q⟩ := o
          rw [ew, List.getElem?_set_ne (Ne.symm hj)] at q
          exact ⟨zs, q⟩
      obtain ⟨l1, m2⟩ := Sm.bindAll (fun j h => hS j (List.mem_cons_of_mem _ h)) m1 (h3.noName n3) n3 hap e
      exact ⟨by rw [List.length_cons, List.length_cons, l1], m2⟩
end
end Ev

/-! Ev, part P: the readings of statements. -/
namespace Ev
open PySem L2 PyProof.Rows

def FinO (S : Nat → Prop) (K : PySem.W.Frag) (fa : Nat → V → Prop) (X : XW) (σ0 : L2.St) (H0 : Hp) (Z0 : Addr → Prop) (env0 : Env) (o : Ou) (D : Ends) : Prop := match o with
  | .nx e => ∀ σ' Z' H', Sm S K fa σ0 H0 Z0 env0 σ' H' Z' e → D.nx σ' H'
  | .ct e => ∀ σ' Z' H', Sm S K fa σ0 H0 Z0 env0 σ' H' Z' e → D.ct σ' H'
  | .bk e => ∀ σ' Z' H', Sm S K fa σ0 H0 Z0 env0 σ' H' Z' e → D.bk σ' H'
  | .rt e r => ∀ σ' Z' H' v, Sm S K fa σ0 H0 Z0 env0 σ' H' Z' e → RvOk K fa H0 H' Z' σ' r v → D.rt v H'
  | .ex c a => ∀ σ' Mu' Z' H', Stp (Own σ0 env0) Z0 H0 Mu' Z' H' → X c a σ' H'
  | .bad => False
def tS (S : Nat → Prop) (K : PySem.W.Frag) (fa : Nat → V → Prop) (X : XW) (run : Env → Ou) : TS := fun D σ H => ∃ Z env, Eok K fa H Z σ env ∧ FinO S K fa X σ H Z env (run env) D
section
variable {S : Nat → Prop} {K : PySem.W.Frag} {fa : Nat → V → Prop} {XX : XW} {σ σ0 : L2.St} {H H0 : Hp} {Z Z0 : Addr → Prop} {env env0 : Env} {o : Ou} {D : Ends}
theorem FinO.on (m : Sm S K fa σ0 H0 Z0 env0 σ H Z env) (h : FinO S K fa XX σ0 H0 Z0 env0 o D) : FinO S K fa XX σ H Z env o D := by
  cases o with
  | nx e => exact fun σ' Z' H' s => h σ' Z' H' (m.trans s)
  | ct e => exact fun σ' Z' H' s => h σ' Z' H' (m.trans s)
  | bk e => exact fun σ' Z' H' s => h σ' Z' H' (m.trans s)
  | rt e r => exact fun σ' Z' H' v s q => h σ' Z' H' v (m.trans s) (q.backS m)
  | ex c a => exact fun σ' Mu' Z' H' s => h σ' Mu' Z' H' (m.st.trans s)
  | bad => exact h
/-- an expression, then the rest -/
theorem FinO.of {X : Cx} {G : Tab} {ma : ME} {k : Env × Rv → Ou} (ok : Eok X.K fa H0 Z0 σ0 env0) (h : FinO S X.K fa XX σ0 H0 Z0 env0 (Ou.of (ev G ma env0) k) D) :
    tE X.K fa XX G ma σ0 H0 fun v H1 => ∃ Z1 env1 r, Mid X.K fa σ0 H0 Z0 env0 H1 Z1 env1 ∧ RvOk X.K fa H0 H1 Z1 σ0 r v ∧ FinO S X.K fa XX σ0 H0 Z0 env0 (k (env1, r)) D := by
  refine ⟨Z0, env0, ok, ?_⟩
  revert h
  cases ev G ma env0 with
  | bad => exact fun z => z
  | ex c a => exact fun z Mu' Z' H' s => z σ0 Mu' Z' H' s
  | ok p => exact fun z Z' H' v m r => ⟨Z', p.1, p.2, m, r, z⟩
theorem FinO.ofs {X : Cx} {G : Tab} {ms : List ME} {k : Env × List Rv → Ou} (ok : Eok X.K fa H0 Z0 σ0 env0) (h : FinO S X.K fa XX σ0 H0 Z0 env0 (Ou.of (evs G ms env0) k) D) :
    tA X.K fa XX G ms σ0 H0 fun vs H1 => ∃ Z1 env1 rs, Mid X.K fa σ0 H0 Z0 env0 H1 Z1 env1 ∧ RvsOk X.K fa H0 H1 Z1 σ0 rs vs ∧ FinO S X.K fa XX σ0 H0 Z0 env0 (k (env1, rs)) D := by
  refine ⟨Z0, env0, ok, ?_⟩
  revert h
  cases evs G ms env0 with
  | bad => exact fun z => z
  | ex c a => exact fun z Mu' Z' H' s => z σ0 Mu' Z' H' s
  | ok p => exact fun z Z' H' v m r => ⟨Z', p.1, p.2, m, r, z⟩
end
theorem PS.weak {X : Cx} {s : Stmt} {t t' : TS} (h : PS X s t) (w : ∀ D σ H, t' D σ H → t D σ H) : PS X s t' := ⟨fun pins sh σ H D I q => h.run pins sh σ H D I (w D σ H q)⟩
theorem PSs.weak {X : Cx} {s : List Stmt} {t t' : TS} (h : PSs X s t) (w : ∀ D σ H, t' D σ H → t D σ H) : PSs X s t' := ⟨fun pins sh σ H D I q => h.run pins sh σ H D I (w D σ H q)⟩
section
variable {S : Nat → Prop} {X : Cx} {fa : Nat → V → Prop} {XX : XW} {G : Tab} {a b c : Expr} {ma mb mc : ME} {ms : List ME} {pos : Pos} {st : Stmt} {ss : List Stmt} {m : MS} {bs : List MS}
abbrev t1 (S : Nat → Prop) (K : PySem.W.Frag) (fa : Nat → V → Prop) (XX : XW) (G : Tab) (m : MS) : TS := tS S K fa XX (exs1 G m)
abbrev tn (S : Nat → Prop) (K : PySem.W.Frag) (fa : Nat → V → Prop) (XX : XW) (G : Tab) (bs : List MS) : TS := tS S K fa XX (exs G bs)
theorem p_nil : PSs X [] (tn S X.K fa XX G []) := PSs.weak pss_nil fun D σ H ⟨Z, env, ok, h⟩ => by
  unfold exs at h
  exact h σ Z H (.refl ok)
theorem p_cons (h1 : PS X st (t1 S X.K fa XX G m)) (h2 : PSs X ss (tn S X.K fa XX G bs)) : PSs X (st :: ss) (tn S X.K fa XX G (m :: bs)) := by
  refine PSs.weak (pss_cons h1 h2) fun D σ H ⟨Z, env, ok, h⟩ => ?_
  refine ⟨Z, env, ok, ?_⟩
  unfold exs at h
  revert h
  cases exs1 G m env with
  | nx e => exact fun z σ' Z' H' s => ⟨Z', e, s.ok, FinO.on s z⟩
  | ct e => exact fun z => z
  | bk e => exact fun z => z
  | rt e r => exact fun z => z
  | ex c a => exact fun z => z
  | bad => exact fun z => z
theorem p_pass : PS X (.Pass pos) (t1 S X.K fa XX G .pas) := PS.weak ps_pass fun D σ H ⟨Z, env, ok, h⟩ => by
  unfold exs1 at h
  exact h σ Z H (.refl ok)
theorem p_doc {x : Str} {j : Nat} {pos' : Pos} (hd : PS X st tNext) : PS X st (t1 S X.K fa XX G .pas) := PS.weak hd fun D σ H ⟨Z, env, ok, h⟩ => by
  unfold exs1 at h
  exact h σ Z H (.refl ok)
theorem p_brk : PS X (.Break pos) (t1 S X.K fa XX G .brk) := PS.weak ps_break fun D σ H ⟨Z, env, ok, h⟩ => by
  unfold exs1 at h
  exact h σ Z H (.refl ok)
theorem p_cnt : PS X (.Continue pos) (t1 S X.K fa XX G .cnt) := PS.weak ps_continue fun D σ H ⟨Z, env, ok, h⟩ => by
  unfold exs1 at h
  exact h σ Z H (.refl ok)
theorem p_exp (he : PE X a (tE X.K fa XX G ma)) (hs : swapsWith a none pos.line X.env = pure false) : PS X (.Expr a pos) (t1 S X.K fa XX G (.exp ma)) := by
  refine PS.weak (ps_expr he hs) fun D σ H ⟨Z, env, ok, h⟩ => ?_
  unfold exs1 at h
  exact tM.mono (FinO.of ok h) fun v H1 ⟨Z1, env1, r, m1, hr, hf⟩ => hf σ Z1 H1 m1.sm
theorem p_ret (he : PE X a (tE X.K fa XX G ma)) : PS X (.Return (some a) pos) (t1 S X.K fa XX G (.ret ma)) := by
  refine PS.weak (ps_ret he) fun D σ H ⟨Z, env, ok, h⟩ => ?_
  unfold exs1 at h
  exact tM.mono (FinO.of ok h) fun v H1 ⟨Z1, env1, r, m1, hr, hf⟩ => hf σ Z1 H1 v m1.sm hr
theorem p_retN : PS X (.Return none pos) (t1 S X.K fa XX G .retN) := PS.weak ps_retN fun D σ H ⟨Z, env, ok, h⟩ => by
  unfold exs1 at h
  exact h σ Z H _ (.refl ok) .non
theorem p_ite {p q : List Stmt} {mp mq : List MS} (hc : PT X c (tB X.K fa XX G mc)) (hp : PSs X p (tn S X.K fa XX G mp)) (hq : PSs X q (tn S X.K fa XX G mq)) : PS X (.If c p q pos) (t1 S X.K fa XX G (.ite mc mp mq)) := by
  refine PS.weak (ps_if hc hp hq) fun D σ H ⟨Z, env, ok, h⟩ => ?_
  refine ⟨Z, env, ok, ?_⟩
  unfold exs1 at h
  revert h
  cases ev G mc env with
  | bad => exact fun z => z
  | ex c a => exact fun z Mu' Z' H' s => z σ Mu' Z' H' s
  | ok r =>
    simp only [Ou.of]
    cases truR r.1 r.2 with
    | none => exact fun z => z
    | some k =>
      cases k with
      | true => exact fun z Z' H' n => iteT ⟨Z', r.1, n.ok, FinO.on n.sm z⟩
      | false => exact fun z Z' H' n => iteF ⟨Z', r.1, n.ok, FinO.on n.sm z⟩
/-- a target is stored: data -/
theorem asg_weak {t : Tgt} (hS : ∀ i ∈ stoT t, S i) (D : Ends) (σ : L2.St) (H : Hp) (h0 : t1 S X.K fa XX G (.asg t ma) D σ H) : tAsg (tE X.K fa XX G ma) (gT X.K fa t) D σ H := by
  obtain ⟨Z, env, ok, h⟩ := h0
  unfold exs1 at h
  refine tM.mono (FinO.of ok h) fun v H1 ⟨Z1, env1, r, m1, hr, hf⟩ => ?_
  cases r with
  | v x =>
    dsimp only at hf
    cases ha : asgT t x env1 with
    | none => rw [ha] at hf; exact hf.elim
    | some env2 =>
      rw [ha] at hf
      exact ⟨Z1, env1, x, env2, m1.ok, hr, ha, fun σ' b ag ln => hf σ' Z1 H1 (m1.sm.trans (b.sm (fun j nj => ag j fun q => nj (hS j q)) ln))⟩
  | n xs => exact hf.elim
  | p i => exact hf.elim
  | r xs => exact hf.elim
  | f k => exact hf.elim
theorem p_asg {tg : Expr} {t : Tgt} (hS : ∀ i ∈ stoT t, S i) (he : PE X a (tE X.K fa XX G ma)) (hg : PG X tg (gT X.K fa t)) (hs : swapsWithSole [tg] a pos.line X.env = pure false) (hw : swappedStores [tg] a X.env = pure none) (h1 : (assignEach [tg] X.env).map (·.2) = [assign tg X.env]) :
    PS X (.Assign [tg] a pos) (t1 S X.K fa XX G (.asg t ma)) := PS.weak (ps_asg he hg hs hw h1) (asg_weak hS)
/-- values bound to names -/
theorem par_go {is : List Nat} (hS : ∀ i ∈ is, S i) (D : Ends) (σ : L2.St) (H : Hp) (h0 : t1 S X.K fa XX G (.par is ms) D σ H) : tA X.K fa XX G ms σ H fun vs H1 => is.length = vs.length ∧ D.nx (setV σ is vs) H1 := by
  obtain ⟨Z, env, ok, h⟩ := h0
  unfold exs1 at h
  refine tA.mono (FinO.ofs ok h) fun vs H1 ⟨Z1, env1, rs, m1, hr, hf⟩ => ?_
  dsimp only at hf
  cases hs : settle env1 rs with
  | none => rw [hs] at hf; exact hf.elim
  | some q =>
    obtain ⟨env2, qs⟩ := q
    rw [hs] at hf
    dsimp only at hf
    cases hb : bindAll env2 is qs with
    | none => rw [hb] at hf; exact hf.elim
    | some env3 =>
      rw [hb] at hf
      obtain ⟨Z2, m2, r2, n2, _, _, _⟩ := m1.settle hr hs
      obtain ⟨hl, m3⟩ := Sm.bindAll hS m2.sm r2 n2 (fun a q j o e => by
        obtain ⟨_, hn, _⟩ := r2.nw q
        obtain ⟨us, e2⟩ := m2.sl j a o e
        rw [hn] at e2; cases e2) hb
      exact ⟨hl, hf _ Z2 H1 m3⟩
theorem one_par {i : Nat} (hS : S i) (D : Ends) (σ : L2.St) (H : Hp) (h0 : t1 S X.K fa XX G (.par [i] [ma]) D σ H) : tAsg (tE X.K fa XX G ma) (gName i) D σ H := by
  obtain ⟨Z, env, ok, h⟩ := par_go (is := [i]) (fun j h => by rw [List.mem_singleton.mp h]; exact hS) D σ H h0
  refine ⟨Z, env, ok, ?_⟩
  unfold evs at h
  revert h
  cases ev G ma env with
  | bad => exact fun z => z
  | ex c a => exact fun z => z
  | ok p =>
    unfold evs
    intro h Z' H' v m r
    exact (h Z' H' [v] m (.cons r (fun _ _ _ _ q => Nw.not_nil q) .nil)).2
/-- name = value -/
theorem p_set {i : Nat} {x : Str} {p : Pos} (hS : S i) (hN : X.N.Nodup) (hi : X.N[i]? = some x) (hx : Loc X.env.scope x) (he : PE X a (tE X.K fa XX G ma)) (hs : swapsWith a (some (.Name x p)) pos.line X.env = pure false) (hf : X.fn x = true ∨ X.env.scope.names.lookup x = some .local) :
    PS X (.Assign [.Name x p] a pos) (t1 S X.K fa XX G (.par [i] [ma])) := PS.weak (ps_set hN hi hx he hs hf) (one_par hS)
/-- name = [..] on one line -/
theorem p_setLc {i : Nat} {y : Str} {py : Pos} {elt tg iter : Expr} {ifs : List Expr} {scope : Scope} {own : List (Str × Nat)} {pos spos : Pos} {t : Tgt} {w : Nat} {its mifs : List ME} {me : ME} (hS : S i) (hc : X.calm = true) (hN : X.N.Nodup) (hy : X.N[i]? = some y) (hyl : X.env.scope.names.lookup y = some .local)
    (hsw : swapsWith (.ListComp elt [⟨tg, iter, ifs, 0⟩] scope pos) (some (.Name y py)) spos.line X.env = pure true) (hi : PI X tg iter (tI X.K fa XX G w its)) (ok : BlkOk X.N X.env.scope scope own)
    (hg : ∀ (s : Shared) (H : Hp) (C : Addr) (cl : List (Str × Addr)) (fp : List Addr), PG (X.blk s H scope (compEnvC scope cl C X.env) fp) tg (gT X.K fa t))
    (ht : ∀ (s : Shared) (H : Hp) (C : Addr) (cl : List (Str × Addr)) (fp : List Addr), PTs (X.blk s H scope (compEnvC scope cl C X.env) fp) ifs (tTs X.K fa G mifs))
    (he : ∀ (s : Shared) (H : Hp) (C : Addr) (cl : List (Str × Addr)) (fp : List Addr), PE (X.blk s H scope (compEnvC scope cl C X.env) fp) elt (tE X.K fa noX G me)) (hs : ∀ x, foldedSetIterable iter X.env x = pure x) (hto : ∀ i ∈ stoT t, i ∈ own.map (·.2)) :
    PS X (.Assign [.Name y py] (.ListComp elt [⟨tg, iter, ifs, 0⟩] scope pos) spos) (t1 S X.K fa XX G (.par [i] [.lc (own.map (·.2)) t w its mifs me])) := by
  refine PS.weak (ps_setLc hc hN hy hyl hsw hi ok hg ht he hs) fun D σ H h => ?_
  exact lc_weak hto σ H _ (one_par hS D σ H h)
theorem p_par2 {i j : Nat} {x y : Str} {px py pt : Pos} {kt k2 : Nat} {pt2 : Pos} (hS : ∀ k ∈ [i, j], S k) (hc : X.calm = true) (hN : X.N.Nodup) (hi : X.N[i]? = some x) (hj : X.N[j]? = some y) (hij : i ≠ j) (hx : X.env.scope.names.lookup x = some .local) (hy : X.env.scope.names.lookup y = some .local) (ha : PA X [a, b] (tA X.K fa XX G ms))
    (hw : swappedStores [.Tuple [.Name x px, .Name y py] kt pt] (.Tuple [a, b] k2 pt2) X.env = pure (some [x, y])) (hs : swapsWithSole [.Tuple [.Name x px, .Name y py] kt pt] (.Tuple [a, b] k2 pt2) pos.line X.env = pure false) :
    PS X (.Assign [.Tuple [.Name x px, .Name y py] kt pt] (.Tuple [a, b] k2 pt2) pos) (t1 S X.K fa XX G (.par [i, j] ms)) := by
  refine PS.weak (ps_par hc hN hi hj hij hx hy ha hw hs) fun D σ H h => tA.mono (par_go hS D σ H h) fun vs H1 ⟨hl, q⟩ => ?_
  match vs, hl, q with
  | [v, w], _, q => exact ⟨v, w, rfl, q⟩
theorem p_par3 {i j l : Nat} {x y z : Str} {px py pz pt : Pos} {kt k2 : Nat} {pt2 : Pos} (hS : ∀ k ∈ [i, j, l], S k) (hc : X.calm = true) (hN : X.N.Nodup) (hi : X.N[i]? = some x) (hj : X.N[j]? = some y) (hl : X.N[l]? = some z) (hij : i ≠ j) (hil : i ≠ l) (hjl : j ≠ l) (hx : X.env.scope.names.lookup x = some .local) (hy : X.env.scope.names.lookup y = some .local) (hz : X.env.scope.names.lookup z = some .local) (ha : PA X [a, b, c] (tA X.K fa XX G ms))
    (hw : swappedStores [.Tuple [.Name x px, .Name y py, .Name z pz] kt pt] (.Tuple [a, b, c] k2 pt2) X.env = pure (some [x, y, z])) (hs : swapsWithSole [.Tuple [.Name x px, .Name y py, .Name z pz] kt pt] (.Tuple [a, b, c] k2 pt2) pos.line X.env = pure false) :
    PS X (.Assign [.Tuple [.Name x px, .Name y py, .Name z pz] kt pt] (.Tuple [a, b, c] k2 pt2) pos) (t1 S X.K fa XX G (.par [i, j, l] ms)) := by
  refine PS.weak (ps_par3 hc hN hi hj hl hij hil hjl hx hy hz ha hw hs) fun D σ H h => tA.mono (par_go hS D σ H h) fun vs H1 ⟨hl, q⟩ => ?_
  match vs, hl, q with
  | [u, v, w], _, q => exact ⟨u, v, w, rfl, q⟩
/-- names as targets, from the left -/
def gNames : List Nat → TGs := fun is vs σ H Q => is.length = vs.length ∧ Q (setV σ is vs) H
theorem gn_nil : PGs X [] (gNames []) := PGs.weak pgs_nil fun vs σ H Q ⟨hl, q⟩ => by
  cases vs with
  | nil => exact ⟨rfl, q⟩
  | cons v vs => cases hl
theorem gn_cons {i : Nat} {x : Str} {p : Pos} {es : List Expr} {is : List Nat} (hN : X.N.Nodup) (hi : X.N[i]? = some x) (hx : Loc X.env.scope x) (hf : X.fn x = true ∨ X.env.scope.names.lookup x = some .local) (h2 : PGs X es (gNames is)) (hs : (assignEach (.Name x p :: es) X.env).map (·.2) = assign (.Name x p) X.env :: (assignEach es X.env).map (·.2)) :
    PGs X (.Name x p :: es) (gNames (i :: is)) := by
  refine PGs.weak (pgs_cons (pg_name hN hi hx hf) h2 hs) fun vs σ H Q ⟨hl, q⟩ => ?_
  cases vs with
  | nil => cases hl
  | cons v vs => exact ⟨v, vs, rfl, by simpa using hl, q⟩
/-- several names of any kind, by a tuple -/
theorem p_parT {es fs : List Expr} {kt k2 : Nat} {pt pt2 : Pos} {is : List Nat} {n : Nat} (hS : ∀ i ∈ is, S i) (hc : X.calm = true) (ha : PA X fs (tA X.K fa XX G ms)) (hg : PGs X es (gNames is)) (hl : is.length = n) (hz : n ≤ sizeLine) (hn : (assignEach es X.env).length = n) (hst : (assignEach es X.env).findIdx? (·.1) = none)
    (hs : swapsWithSole [.Tuple es kt pt] (.Tuple fs k2 pt2) pos.line X.env = pure false) (hw : swappedStores [.Tuple es kt pt] (.Tuple fs k2 pt2) X.env = pure none) (h1 : (assignEach [.Tuple es kt pt] X.env).map (·.2) = [assign (.Tuple es kt pt) X.env]) :
    PS X (.Assign [.Tuple es kt pt] (.Tuple fs k2 pt2) pos) (t1 S X.K fa XX G (.par is ms)) := by
  refine PS.weak (ps_asg (pe_tup ha) (pg_tup hc hg hn hst) hs hw h1) fun D σ H ⟨Z, env, ok, h⟩ => ?_
  unfold exs1 at h
  refine tA.mono (FinO.ofs ok h) fun vs H1 ⟨Z1, env1, rs, m1, hr, hf⟩ => ?_
  dsimp only at hf
  cases hs : settle env1 rs with
  | none => rw [hs] at hf; exact hf.elim
  | some q =>
    obtain ⟨env2, qs⟩ := q
    rw [hs] at hf
    dsimp only at hf
    cases hb : bindAll env2 is qs with
    | none => rw [hb] at hf; exact hf.elim
    | some env3 =>
      rw [hb] at hf
      obtain ⟨Z2, m2, r2, n2, _, _, _⟩ := m1.settle hr hs
      have hlen : is.length = vs.length := (Sm.bindAll hS m2.sm r2 n2 (fun a q j o e => by
        obtain ⟨_, hn, _⟩ := r2.nw q
        obtain ⟨us, e2⟩ := m2.sl j a o e
        rw [hn] at e2; cases e2) hb).1
      refine ⟨by omega, fun p hp => ⟨p, vs, rfl, .inl (.inl upd_same), by omega, hlen, ?_⟩⟩
      have m3 := m2.newT (o := .tup vs) hp
      have r3 : RvsOk X.K fa H (upd H1 p (.tup vs)) Z2 σ qs vs := r2.on2 m2 ((Mid.refl m2.ok).newT hp)
      exact hf _ Z2 _ (Sm.bindAll hS m3.sm r3 n2 (fun a q j o e => by
        obtain ⟨_, hn, _⟩ := r3.nw q
        obtain ⟨us, e2⟩ := m3.sl j a o e
        rw [hn] at e2; cases e2) hb).2

/-! ### places of lists -/
def gSets (K : PySem.W.Frag) (fa : Nat → V → Prop) (G : Tab) (ts : List (Nat × ME)) : TGs := fun vs σ H Q => ∃ Z env ys env2, Eok K fa H Z σ env ∧ FzAll K H Z vs ys ∧ setAll (fun e en => ev G e en) ts ys env = some env2 ∧ ∀ Z' H', Mid K fa σ H Z env H' Z' env2 → Q σ H'
def gSet (K : PySem.W.Frag) (fa : Nat → V → Prop) (G : Tab) (i : Nat) (m : ME) : TG := fun v σ H Q => ∃ Z env y env2, Eok K fa H Z σ env ∧ Fz K H Z v y ∧ setAll (fun e en => ev G e en) [(i, m)] [y] env = some env2 ∧ ∀ Z' H', Mid K fa σ H Z env H' Z' env2 → Q σ H'
theorem setAll_cons {evl : ME → Env → Rs (Env × Rv)} {i : Nat} {ix : ME} {ts : List (Nat × ME)} {y : PyData} {ys : List PyData} {env env2 : Env} (h : setAll evl ((i, ix) :: ts) (y :: ys) env = some env2) :
    isL env i = true ∧ ∃ e1 k xs j, evl ix env = .ok (e1, .v (.int k)) ∧ e1[i]? = some (some (.l xs)) ∧ L2.ixN xs.length k = some j ∧ setAll evl ts ys (e1.set i (some (.l (xs.set j y)))) = some env2 := by
  unfold setAll at h
  split at h
  · rename_i hl
    refine ⟨hl, ?_⟩
    split at h
    · rename_i e1 k he
      split at h
      · rename_i xs hx
        split at h
        · rename_i j hj
          exact ⟨e1, k, xs, j, he, hx, hj, h⟩
        · cases h
      · cases h
    · cases h
  · cases h
theorem g_set {i : Nat} {x : Str} {p : Pos} (hN : X.N[i]? = some x) (hv : Vis X.env.scope x) (hd : (x == ("__debug__" : Str)) = false) (hcd : (x == ("__classdict__" : Str)) = false) (hb : PE X b (tE X.K fa noX G mb))
    (ha : ∀ v, assign (.Subscript (.Name x p) b pos) X.env v = (do
      let ov ← holding [v] (eval (.Name x p) X.env)
      let iv ← holding [v, ov] (eval b X.env)
      standAt pos
      holding [v, ov, iv] (setItem ov iv v)
      release [v, ov, iv] [])) : PG X (.Subscript (.Name x p) b pos) (gSet X.K fa G i mb) := by
  refine PG.weak (pg_sub (recv_v hN hv hd hcd) hb set_list ha) fun v σ H Q ⟨Z, env, y, env2, ok, f, e, q⟩ => ?_
  obtain ⟨hl, e1, k, xs, j, h1, h2, h3, h4⟩ := setAll_cons e
  cases h4
  obtain ⟨a, ea, _⟩ := ok.recv hl
  refine ⟨V.ref a, ea, Z, env, ok, ?_⟩
  rw [h1]
  intro Z1 H1 u m1 hr
  have hr : Fz X.K H1 Z1 u (.int k) := hr
  cases hr
  obtain ⟨a', vs, ea', q1, q2⟩ := m1.ok.own h2
  rw [ea] at ea'; cases ea'
  refine ⟨a, vs, k, j, rfl, rfl, q1, by rw [q2.length]; exact h3, ?_⟩
  exact q Z1 _ (m1.write h2 ea (q2.set (Fz.step m1.st f) j))
theorem gs_set_nil : PGs X [] (gSets X.K fa G []) := PGs.weak pgs_nil fun vs σ H Q ⟨Z, env, ys, env2, ok, f, e, q⟩ => by
  cases f with
  | nil => cases e; exact ⟨rfl, q Z H (.refl ok)⟩
  | cons _ _ => cases e
theorem gs_set_cons {e : Expr} {es : List Expr} {i : Nat} {m : ME} {ts : List (Nat × ME)} (h1 : PG X e (gSet X.K fa G i m)) (h2 : PGs X es (gSets X.K fa G ts)) (hs : (assignEach (e :: es) X.env).map (·.2) = assign e X.env :: (assignEach es X.env).map (·.2)) : PGs X (e :: es) (gSets X.K fa G ((i, m) :: ts)) := by
  refine PGs.weak (pgs_cons h1 h2 hs) fun vs σ H Q ⟨Z, env, ys, env2, ok, f, e, q⟩ => ?_
  cases f with
  | nil => cases e
  | cons f1 f2 =>
    obtain ⟨hl, e1, k, xs, j, a1, a2, a3, a4⟩ := setAll_cons e
    refine ⟨_, _, rfl, Z, env, _, e1.set i (some (.l (xs.set j _))), ok, f1, ?_, fun Z1 H1 m1 => ⟨Z1, _, _, env2, m1.ok, f2.step m1.st, a4, fun Z2 H2 m2 => q Z2 H2 (m1.trans m2)⟩⟩
    unfold setAll
    rw [if_pos hl, a1]
    dsimp only
    rw [a2]
    dsimp only
    rw [a3]
    rfl
theorem setAll_len {evl : ME → Env → Rs (Env × Rv)} : ∀ {ts : List (Nat × ME)} {ys : List PyData} {env env2 : Env}, setAll evl ts ys env = some env2 → ts.length = ys.length
  | [], [], _, _, _ => rfl
  | [], _ :: _, _, _, h => by cases h
  | _ :: _, [], _, _, h => by cases h
  | (i, m) :: ts, y :: ys, env, env2, h => by
    obtain ⟨_, _, _, _, _, _, _, _, h4⟩ := setAll_cons h
    rw [List.length_cons, List.length_cons, setAll_len h4]
theorem p_sets1 {i : Nat} {tg : Expr} (he : PE X a (tE X.K fa XX G ma)) (hg : PG X tg (gSet X.K fa G i mb)) (hs : swapsWithSole [tg] a pos.line X.env = pure false) (hw : swappedStores [tg] a X.env = pure none) (h1 : (assignEach [tg] X.env).map (·.2) = [assign tg X.env]) :
    PS X (.Assign [tg] a pos) (t1 S X.K fa XX G (.sets [(i, mb)] [ma])) := by
  refine PS.weak (ps_asg he hg hs hw h1) fun D σ H ⟨Z, env, ok, h⟩ => ?_
  unfold exs1 at h
  refine ⟨Z, env, ok, ?_⟩
  unfold evs at h
  revert h
  cases ev G ma env with
  | bad => exact fun z => z
  | ex c a => exact fun z Mu' Z' H' s => z σ Mu' Z' H' s
  | ok p =>
    unfold evs
    intro hf Z1 H1 v m1 hr
    simp only [Rs.bind, Ou.of] at hf
    cases hk : keepAll p.1 [p.2] with
    | none => rw [hk] at hf; exact hf.elim
    | some q =>
      obtain ⟨env1, ys⟩ := q
      rw [hk] at hf
      dsimp only at hf
      obtain ⟨Z2, m2, f, _⟩ := m1.keepAll (.cons hr (fun _ _ _ _ q => Nw.not_nil q) .nil) hk
      cases f with
      | cons f1 f2 =>
        cases f2
        cases hsA : setAll (fun e en => ev G e en) [(i, mb)] [_] env1 with
        | none => rw [hsA] at hf; exact hf.elim
        | some env2 =>
          rw [hsA] at hf
          exact ⟨Z2, env1, _, env2, m2.ok, f1, hsA, fun Z3 H3 m3 => hf σ Z3 H3 (m2.trans m3).sm⟩
theorem p_setsT {ts : List (Nat × ME)} {es fs : List Expr} {kt k2 : Nat} {pt pt2 : Pos} {n : Nat} (hc : X.calm = true) (ha : PA X fs (tA X.K fa XX G ms)) (hg : PGs X es (gSets X.K fa G ts)) (hl : ts.length = n) (hz : n ≤ sizeLine) (hn : (assignEach es X.env).length = n) (hst : (assignEach es X.env).findIdx? (·.1) = none)
    (hs : swapsWithSole [.Tuple es kt pt] (.Tuple fs k2 pt2) pos.line X.env = pure false) (hw : swappedStores [.Tuple es kt pt] (.Tuple fs k2 pt2) X.env = pure none) (h1 : (assignEach [.Tuple es kt pt] X.env).map (·.2) = [assign (.Tuple es kt pt) X.env]) :
    PS X (.Assign [.Tuple es kt pt] (.Tuple fs k2 pt2) pos) (t1 S X.K fa XX G (.sets ts ms)) := by
  refine PS.weak (ps_asg (pe_tup ha) (pg_tup hc hg hn hst) hs hw h1) fun D σ H ⟨Z, env, ok, h⟩ => ?_
  unfold exs1 at h
  refine tA.mono (FinO.ofs ok h) fun vs H1 ⟨Z1, env1, rs, m1, hr, hf⟩ => ?_
  dsimp only at hf
  cases hk : keepAll env1 rs with
  | none => rw [hk] at hf; exact hf.elim
  | some q =>
    obtain ⟨env2, ys⟩ := q
    rw [hk] at hf
    dsimp only at hf
    obtain ⟨Z2, m2, f, _⟩ := m1.keepAll hr hk
    cases hsA : setAll (fun e en => ev G e en) ts ys env2 with
    | none => rw [hsA] at hf; exact hf.elim
    | some env3 =>
      rw [hsA] at hf
      have hlen := setAll_len hsA
      have hv := f.length
      refine ⟨by omega, fun p hp => ⟨p, vs, rfl, .inl (.inl upd_same), by omega, ?_⟩⟩
      have m3 := m2.newT (o := .tup vs) hp
      exact ⟨Z2, env2, ys, env3, m3.ok, f.newT m2.ok.zl hp, hsA, fun Z4 H4 m4 => hf σ Z4 H4 (m3.trans m4).sm⟩
/-- names unpacked from a new list -/
theorem p_unp {tg : Expr} {ts : List Tgt} (hS : ∀ i ∈ stoTs ts, S i) (he : PE X a (tE X.K fa XX G ma)) (hg : PG X tg (gL X.K fa ts)) (hs : swapsWithSole [tg] a pos.line X.env = pure false) (hw : swappedStores [tg] a X.env = pure none) (h1 : (assignEach [tg] X.env).map (·.2) = [assign tg X.env]) :
    PS X (.Assign [tg] a pos) (t1 S X.K fa XX G (.unp ts ma)) := PS.weak (ps_asg he hg hs hw h1) fun D σ H ⟨Z, env, ok, h⟩ => by
  unfold exs1 at h
  refine tM.mono (FinO.of ok h) fun v H1 ⟨Z1, env1, r, m1, hr, hf⟩ => ?_
  cases r with
  | n xs =>
    dsimp only at hf
    obtain ⟨b, us, rfl, q1, q2, q3, q4⟩ := hr
    cases ha : asgTs ts xs env1 with
    | none => rw [ha] at hf; exact hf.elim
    | some env2 =>
      rw [ha] at hf
      exact ⟨b, us, Z1, env1, xs, env2, rfl, q1, m1.ok, q4, ha, fun σ' b ag ln => hf σ' Z1 H1 (m1.sm.trans (b.sm (fun j nj => ag j fun q => nj (hS j q)) ln))⟩
  | v x => exact hf.elim
  | p i => exact hf.elim
  | r xs => exact hf.elim
  | f k => exact hf.elim

/-! ### names and places -/
abbrev nmMix (ts : List (Nat × Option ME)) : List Nat := ts.filterMap fun t => match t.2 with
    | none => some t.1
    | some _ => none
def gMix (K : PySem.W.Frag) (fa : Nat → V → Prop) (G : Tab) (ts : List (Nat × Option ME)) : TGs := fun vs σ H Q => ∃ Z env ys env2, Eok K fa H Z σ env ∧ FzAll K H Z vs ys ∧ setMix (fun e en => ev G e en) ts ys env = some env2 ∧ ∀ σ' Z' H', Bm K fa σ H Z env σ' H' Z' env2 → (∀ i, i ∉ nmMix ts → σ'[i]? = σ[i]?) → σ'.length = σ.length → Q σ' H'
theorem gm_nil : PGs X [] (gMix X.K fa G []) := PGs.weak pgs_nil fun vs σ H Q ⟨Z, env, ys, env2, ok, f, e, q⟩ => by
  cases f with
  | nil => cases e; exact ⟨rfl, q σ Z H (.refl ok) (fun _ _ => rfl) rfl⟩
  | cons _ _ => cases e
theorem gm_name {e : Expr} {es : List Expr} {i : Nat} {ts : List (Nat × Option ME)} (h1 : PG X e (gT X.K fa (.n i))) (h2 : PGs X es (gMix X.K fa G ts)) (hs : (assignEach (e :: es) X.env).map (·.2) = assign e X.env :: (assignEach es X.env).map (·.2)) : PGs X (e :: es) (gMix X.K fa G ((i, none) :: ts)) := by
  refine PGs.weak (pgs_cons h1 h2 hs) fun vs σ H Q ⟨Z, env, ys, env2, ok, f, e, q⟩ => ?_
  cases f with
  | nil => cases e
  | cons f1 f2 =>
    unfold setMix at e
    split at e
    · rename_i hl
      refine ⟨_, _, rfl, Z, env, _, env.set i (some (.d _)), ok, f1, ?_, fun σ1 b1 o1 l1 => ⟨Z, _, _, env2, b1.ok, f2, e, fun σ2 Z2 H2 b2 o2 l2 => ?_⟩⟩
      · unfold asgT; rw [if_pos hl]
      · refine q σ2 Z2 H2 (b1.trans b2) (fun j hj => ?_) (l2.trans l1)
        have hj : j ∉ i :: nmMix ts := hj
        simp only [List.mem_cons, not_or] at hj
        rw [o2 j hj.2, o1 j (by simpa [stoT] using hj.1)]
    · cases e
theorem gm_set {e : Expr} {es : List Expr} {i : Nat} {m : ME} {ts : List (Nat × Option ME)} (h1 : PG X e (gSet X.K fa G i m)) (h2 : PGs X es (gMix X.K fa G ts)) (hs : (assignEach (e :: es) X.env).map (·.2) = assign e X.env :: (assignEach es X.env).map (·.2)) : PGs X (e :: es) (gMix X.K fa G ((i, some m) :: ts)) := by
  refine PGs.weak (pgs_cons h1 h2 hs) fun vs σ H Q ⟨Z, env, ys, env2, ok, f, e, q⟩ => ?_
  cases f with
  | nil => cases e
  | @cons v0 vs0 y0 ys0 f1 f2 =>
    have hex : isL env i = true ∧ ∃ e1 k xs j, ev G m env = .ok (e1, .v (.int k)) ∧ e1[i]? = some (some (.l xs)) ∧ L2.ixN xs.length k = some j ∧ setMix (fun e en => ev G e en) ts ys0 (e1.set i (some (.l (xs.set j y0)))) = some env2 := by
      unfold setMix at e
      split at e
      · rename_i hl
        refine ⟨hl, ?_⟩
        split at e
        · rename_i e1 k he
          split at e
          · rename_i xs hx
            split at e
            · rename_i j hj
              exact ⟨e1, k, xs, j, he, hx, hj, e⟩
            · cases e
          · cases e
        · cases e
      · cases e
    obtain ⟨hl, e1, k, xs, j, a1, a2, a3, a4⟩ := hex
    refine ⟨_, _, rfl, Z, env, _, e1.set i (some (.l (xs.set j _))), ok, f1, ?_, fun Z1 H1 m1 => ⟨Z1, _, _, env2, m1.ok, f2.step m1.st, a4, fun σ2 Z2 H2 m2 o2 l2 => q σ2 Z2 H2 (m1.bm.trans m2) o2 l2⟩⟩
    unfold setAll
    rw [if_pos hl, a1]
    dsimp only
    rw [a2]
    dsimp only
    rw [a3]
    rfl
theorem setMix_len {evl : ME → Env → Rs (Env × Rv)} : ∀ {ts : List (Nat × Option ME)} {ys : List PyData} {env env2 : Env}, setMix evl ts ys env = some env2 → ts.length = ys.length
  | [], [], _, _, _ => rfl
  | [], _ :: _, _, _, h => by cases h
  | (_, none) :: _, [], _, _, h => by cases h
  | (_, some _) :: _, [], _, _, h => by cases h
  | (i, none) :: ts, y :: ys, env, env2, h => by
    unfold setMix at h
    split at h
    · rw [List.length_cons, List.length_cons, setMix_len h]
    · cases h
  | (i, some m) :: ts, y :: ys, env, env2, h => by
    unfold setMix at h
    split at h
    · split at h
      · split at h
        · split at h
          · rw [List.length_cons, List.length_cons, setMix_len h]
          · cases h
        · cases h
      · cases h
    · cases h
theorem p_mixT {ts : List (Nat × Option ME)} {es fs : List Expr} {kt k2 : Nat} {pt pt2 : Pos} {n : Nat} (hS : ∀ i ∈ nmMix ts, S i) (hc : X.calm = true) (ha : PA X fs (tA X.K fa XX G ms)) (hg : PGs X es (gMix X.K fa G ts)) (hl : ts.length = n) (hz : n ≤ sizeLine) (hn : (assignEach es X.env).length = n) (hst : (assignEach es X.env).findIdx? (·.1) = none)
    (hs : swapsWithSole [.Tuple es kt pt] (.Tuple fs k2 pt2) pos.line X.env = pure false) (hw : swappedStores [.Tuple es kt pt] (.Tuple fs k2 pt2) X.env = pure none) (h1 : (assignEach [.Tuple es kt pt] X.env).map (·.2) = [assign (.Tuple es kt pt) X.env]) :
    PS X (.Assign [.Tuple es kt pt] (.Tuple fs k2 pt2) pos) (t1 S X.K fa XX G (.mix ts ms)) := by
  refine PS.weak (ps_asg (pe_tup ha) (pg_tup hc hg hn hst) hs hw h1) fun D σ H ⟨Z, env, ok, h⟩ => ?_
  unfold exs1 at h
  refine tA.mono (FinO.ofs ok h) fun vs H1 ⟨Z1, env1, rs, m1, hr, hf⟩ => ?_
  dsimp only at hf
  cases hk : keepAll env1 rs with
  | none => rw [hk] at hf; exact hf.elim
  | some q =>
    obtain ⟨env2, ys⟩ := q
    rw [hk] at hf
    dsimp only at hf
    obtain ⟨Z2, m2, f, _⟩ := m1.keepAll hr hk
    cases hsA : setMix (fun e en => ev G e en) ts ys env2 with
    | none => rw [hsA] at hf; exact hf.elim
    | some env3 =>
      rw [hsA] at hf
      have hlen := setMix_len hsA
      have hv := f.length
      refine ⟨by omega, fun p hp => ⟨p, vs, rfl, .inl (.inl upd_same), by omega, ?_⟩⟩
      have m3 := m2.newT (o := .tup vs) hp
      exact ⟨Z2, env2, ys, env3, m3.ok, f.newT m2.ok.zl hp, hsA, fun σ4 Z4 H4 m4 ag ln => hf σ4 Z4 H4 (m3.sm.trans (m4.sm (fun j nj => ag j fun q => nj (hS j q)) ln))⟩
end
end Ev

/-! Ev, part Q: augmented stores, loops. -/
namespace Ev
open PySem L2 PyProof.Rows
section
variable {S : Nat → Prop} {X : Cx} {fa : Nat → V → Prop} {XX : XW} {G : Tab} {a b c : Expr} {ma mb mc : ME} {ms : List ME} {pos : Pos} {st : Stmt} {ss : List Stmt} {m : MS} {bs : List MS}
def rAug (K : PySem.W.Frag) (o : BOp) : R2 := fun x y H Q => ∃ Z dx dy z, Ds K H Z x dx ∧ Ds K H Z y dy ∧ augT o dx dy = some z ∧ ∀ v, Fz K H Z v z → Q v H
theorem aug_of (o : BOp) : OpR X (inplaceOp (opOf o)) (rAug X.K o) := by
  cases o
  · refine OpR.weak (OpR.or iop_add iop_add_str) fun x y H Q ⟨Z, dx, dy, z, hx, hy, e, w⟩ => ?_
    cases dx <;> cases dy <;> simp only [augT] at e <;> try (cases e; done)
    · cases e
      exact .inl ⟨_, _, hx.int, hy.int, w _ (.int _)⟩
    · split at e
      · rename_i hl
        cases e
        exact .inr ⟨_, _, hx.str, hy.str, hl, w _ (.str _)⟩
      · cases e
  · refine OpR.weak iop_sub fun x y H Q ⟨Z, dx, dy, z, hx, hy, e, w⟩ => ?_
    cases dx <;> cases dy <;> simp only [augT] at e <;> try (cases e; done)
    cases e
    exact ⟨_, _, hx.int, hy.int, w _ (.int _)⟩
  · refine OpR.weak iop_mul fun x y H Q ⟨Z, dx, dy, z, hx, hy, e, w⟩ => ?_
    cases dx <;> cases dy <;> simp only [augT] at e <;> try (cases e; done)
    split at e
    · rename_i hs
      cases e
      refine ⟨_, _, hx.int, hy.int, ?_, w _ (.int _)⟩
      rw [Bool.or_eq_true] at hs
      simp only [sml, Bool.and_eq_true, decide_eq_true_eq] at hs
      exact hs
    · cases e
  · refine OpR.weak iop_fdiv fun x y H Q ⟨Z, dx, dy, z, hx, hy, e, w⟩ => ?_
    cases dx <;> cases dy <;> simp only [augT] at e <;> try (cases e; done)
    split at e
    · rename_i hs
      cases e
      exact ⟨_, _, hx.int, hy.int, hs, w _ (.int _)⟩
    · cases e
  · refine OpR.weak iop_mod fun x y H Q ⟨Z, dx, dy, z, hx, hy, e, w⟩ => ?_
    cases dx <;> cases dy <;> simp only [augT] at e <;> try (cases e; done)
    split at e
    · rename_i hs
      cases e
      exact ⟨_, _, hx.int, hy.int, hs, w _ (.int _)⟩
    · cases e
  · intro pins s σ H x y v u Q I rx ry ⟨Z, dx, dy, z, hx, hy, e, w⟩
    cases dx <;> cases dy <;> simp only [augT] at e <;> cases e
theorem p_aug {i : Nat} {x : Str} {p : Pos} (o : BOp) (hS : S i) (hN : X.N.Nodup) (hi : X.N[i]? = some x) (hx : Loc X.env.scope x) (he : PE X a (tE X.K fa XX G ma)) (hf : X.fn x = true ∨ X.env.scope.names.lookup x = some .local) :
    PS X (.AugAssign (.Name x p) (opOf o) a pos) (t1 S X.K fa XX G (.aug i o ma)) := by
  refine PS.weak (ps_aug hN hi hx he (aug_of o) hf) fun D σ H ⟨Z, env, ok, h⟩ => ?_
  unfold exs1 at h
  split at h
  · rename_i x0 hr
    have hw : env[i]? = some (some (W.d x0)) := by
      unfold rdName at hr
      split at hr <;> cases hr
      assumption
    obtain ⟨v, e1, e2⟩ := ok.nm i _ hw
    refine ⟨v, e1, tM.mono (FinO.of ok h) fun y H1 ⟨Z1, env1, r, m1, hr, hf⟩ => ?_⟩
    dsimp only at hf
    cases hd : dat env1 r with
    | none => rw [hd] at hf; exact hf.elim
    | some d =>
      rw [hd] at hf
      dsimp only at hf
      cases hz : augT o x0 d with
      | none => rw [hz] at hf; exact hf.elim
      | some z =>
        rw [hz] at hf
        dsimp only at hf
        split at hf
        · have e2' : Fz X.K H Z v x0 := e2
          exact ⟨Z1, x0, d, z, .of (Fz.step m1.st e2'), hr.ds m1.ok hd, hz, fun u f => hf _ Z1 H1 (m1.sm.trans ((Bm.bind m1.ok f i).sm (fun j nj => List.getElem?_set_ne (show i ≠ j from fun e => nj (by rw [← e]; exact hS))) (by rw [List.length_set])))⟩
        · exact hf.elim
  · exact h.elim

/-! ### while -/
def whT (G : Tab) (mc : ME) : Env → Rs (Env × Bool) := fun e => (ev G mc e).bind fun p => match truR p.1 p.2 with
  | some k => .ok (p.1, k)
  | none => .bad
theorem p_whl (hp : PassesOwn (model X.prog X.w) X.A X.env X.xe) (hc : PT X c (tB X.K fa XX G mc)) (hb : PSs X ss (tn S X.K fa XX G bs)) : PS X (.While c ss [] pos) (t1 S X.K fa XX G (.whl mc bs)) := by
  refine PS.weak (ps_while hp hc hb) fun D σ H ⟨Z, env, ok, h⟩ => ?_
  have e0 : exs1 G (.whl mc bs) env = whlGo (whT G mc) (fun e => exs G bs e) turns env := by
    rw [exs1]; rfl
  rw [e0] at h
  refine ⟨fun n σ' H' => ∃ Z' en, Sm S X.K fa σ H Z env σ' H' Z' en ∧ FinO S X.K fa XX σ' H' Z' en (whlGo (whT G mc) (fun e => exs G bs e) n en) D, ⟨turns, Z, env, .refl ok, h⟩, ?_⟩
  rintro n σ1 H1 ⟨Z1, en, s1, h1⟩
  refine ⟨Z1, en, s1.ok, ?_⟩
  cases n with
  | zero => exact h1.elim
  | succ n =>
    unfold whlGo at h1
    unfold whT at h1
    revert h1
    cases ev G mc en with
    | bad => exact fun z => z
    | ex c a => exact fun z Mu' Z' H' s => z σ1 Mu' Z' H' s
    | ok p =>
      simp only [Rs.bind]
      cases truR p.1 p.2 with
      | none => exact fun z => z
      | some k =>
        cases k with
        | false => exact fun z Z2 H2 m2 => iteF (z σ1 Z2 H2 m2.sm)
        | true =>
          intro z Z2 H2 m2
          refine iteT ⟨fun σ' H' => ∃ Z' en', Sm S X.K fa σ H Z env σ' H' Z' en' ∧ FinO S X.K fa XX σ' H' Z' en' (whlGo (whT G mc) (fun e => exs G bs e) n en') D, fun σ' H' q => ⟨n, Nat.lt_succ_self n, q⟩, Z2, p.1, m2.ok, ?_⟩
          have z := FinO.on m2.sm z
          dsimp only at z
          have s2 := s1.trans m2.sm
          revert z
          cases exs G bs p.1 with
          | nx e => exact fun z σ' Z' H' s => ⟨Z', e, s2.trans s, FinO.on s z⟩
          | ct e => exact fun z σ' Z' H' s => ⟨Z', e, s2.trans s, FinO.on s z⟩
          | bk e => exact fun z => z
          | rt e r => exact fun z => z
          | ex c a => exact fun z => z
          | bad => exact fun z => z

/-! ### for -/
theorem Sm.unlock1 {K : PySem.W.Frag} {σ σ1 : L2.St} {H H1 : Hp} {Z Z1 : Addr → Prop} {env env1 env2 : Env} {i : Nat} {xs : List PyData} (ok : Eok K fa H1 Z1 σ1 env1) (h : env1[i]? = some (some (.l xs))) (m : Sm S K fa σ1 H1 Z1 (env1.set i (some (.k xs))) σ H Z env) (u : Ev.unlock1 env i = some env2) : Sm S K fa σ1 H1 Z1 env1 σ H Z env2 := by
  obtain ⟨ys, e1, rfl⟩ := unlock1_some u
  have mo0 : ∀ b, Own σ1 (env1.set i (some (.k xs))) b → Own σ1 env1 b := fun b q => Own_lock q
  obtain ⟨k1, k2⟩ := m.kk i ys e1
  refine ⟨⟨fun b o q n => m.st.keep b o q fun z => n (mo0 b z), m.st.dom, fun b q n => m.st.zold b q fun z => n (mo0 b z), m.st.znew, fun b ⟨j, zs, q1, q2⟩ => ?_, ok.muz, ok.zl⟩, fun j zs q => ?_, fun j b q e => ?_, m.ag, m.len, m.ok.unlock1 e1⟩
  · rcases getElem?_set_cases q1 with ⟨rfl, _, _⟩ | ⟨_, e⟩
    · rw [k2] at q2
      exact .inl ⟨j, xs, h, q2⟩
    · rcases m.st.mnew b ⟨j, zs, e, q2⟩ with q | q
      · exact .inl (mo0 b q)
      · exact .inr q
  · rcases getElem?_set_cases q with ⟨_, e, _⟩ | ⟨ne, e⟩
    · cases e
    · obtain ⟨h1, h2⟩ := m.kk j zs e
      rw [List.getElem?_set_ne (Ne.symm ne)] at h1
      exact ⟨h1, h2⟩
  · have o1 : ownd env j := by
      obtain ⟨zs, q⟩ := q
      by_cases ej : j = i
      · subst ej; exact ⟨ys, .inr e1⟩
      · rw [List.getElem?_set_ne (Ne.symm ej)] at q
        exact ⟨zs, q⟩
    rcases m.ow j b o1 e with ⟨h1, h2⟩ | h1
    · exact .inl ⟨ownd_lock h h1, h2⟩
    · exact .inr h1
theorem Sm.unlock {K : PySem.W.Frag} {σ σ1 : L2.St} {H H1 : Hp} {Z Z1 : Addr → Prop} : ∀ {ls : List Nat} {env1 envl env env2 : Env}, Locks env1 ls envl → Eok K fa H1 Z1 σ1 env1 → Sm S K fa σ1 H1 Z1 envl σ H Z env → Ev.unlock env ls = some env2 → Sm S K fa σ1 H1 Z1 env1 σ H Z env2
  | _, _, _, _, _, .nil, _, m, u => by cases u; exact m
  | _, _, _, _, _, .cons h r, ok, m, u => by
    unfold Ev.unlock at u
    split at u
    · rename_i e' h'
      exact Sm.unlock1 ok h (Sm.unlock r (ok.lock h) m h') u
    · cases u
theorem FinO.opened {K : PySem.W.Frag} {σ : L2.St} {H1 : Hp} {Z1 : Addr → Prop} {envU env1 : Env} {ls : List Nat} {o : Ou} {D : Ends} (hl : Locks envU ls env1) (ok : Eok K fa H1 Z1 σ envU) (ok1 : Eok K fa H1 Z1 σ env1) (h : FinO S K fa XX σ H1 Z1 envU (Ev.opened ls o) D) :
    FinO S K fa XX σ H1 Z1 env1 o { D with nx := D.nx, bk := D.nx, ct := fun _ _ => False } := by
  cases o with
  | nx e =>
    intro σ' Z' H' s
    unfold Ev.opened at h
    dsimp only at h
    cases hu : unlock e ls with
    | none => rw [hu] at h; exact h.elim
    | some e' => rw [hu] at h; exact h σ' Z' H' (Sm.unlock hl ok s hu)
  | bk e =>
    intro σ' Z' H' s
    unfold Ev.opened at h
    dsimp only at h
    cases hu : unlock e ls with
    | none => rw [hu] at h; exact h.elim
    | some e' => rw [hu] at h; exact h σ' Z' H' (Sm.unlock hl ok s hu)
  | ct e => exact h.elim
  | rt e r =>
    intro σ' Z' H' v s q
    unfold Ev.opened at h
    dsimp only at h
    cases hu : unlock e ls with
    | none => rw [hu] at h; exact h.elim
    | some e' => rw [hu] at h; exact h σ' Z' H' v (Sm.unlock hl ok s hu) q
  | ex c a =>
    intro σ' Mu' Z' H' s
    refine h σ' Mu' Z' H' ⟨fun b o q n => s.keep b o q fun z => n (hl.own b z), s.dom, fun b q n => s.zold b q fun z => n (hl.own b z), s.znew, fun b q => ?_, ok.muz, ok.zl⟩
    rcases s.mnew b q with q | q
    · exact .inl (hl.own b q)
    · exact .inr q
  | bad => exact h
def forT (G : Tab) (t : Tgt) (bs : List MS) : PyData → Env → Ou := fun x e => match asgT t x e with
  | none => .bad
  | some e1 => exs G bs e1
theorem p_for {tg iter : Expr} {t : Tgt} {w : Nat} {its : List ME} (hS : ∀ i ∈ stoT t, S i) (hp : PassesOwn (model X.prog X.w) X.A X.env X.xe) (hc : X.calm = true) (hi : PI X tg iter (tI X.K fa XX G w its)) (hg : PG X tg (gT X.K fa t)) (hb : PSs X ss (tn S X.K fa XX G bs)) (hs : ∀ x, foldedSetIterable iter X.env x = pure x) :
    PS X (.For tg iter ss [] pos) (t1 S X.K fa XX G (.for_ t w its bs)) := by
  refine PS.weak (ps_for hp hc hi hg hb hs) fun D σ H ⟨Z, env, ok, h⟩ => ?_
  refine ⟨Z, env, ok, ?_⟩
  have e0 : exs1 G (.for_ t w its bs) env = Ou.of (evs G its env) fun p => match items w p.1 p.2 with
    | none => .bad
    | some (env1, xs, ls) => opened ls (forGo (forT G t bs) xs env1) := by
    rw [exs1]; rfl
  rw [e0] at h
  revert h
  cases evs G its env with
  | bad => exact fun z => z
  | ex c a => exact fun z Mu' Z' H' s => z σ Mu' Z' H' s
  | ok p =>
    simp only [Ou.of]
    cases hit : items w p.1 p.2 with
    | none => exact fun z => z
    | some q =>
      obtain ⟨env1, xs, ls⟩ := q
      intro h Z1 H1 J P m hl ok1 wl p1
      have h2 := FinO.opened hl m.ok ok1 (FinO.on m.sm h)
      refine ⟨fun i n σ' H' => n = xs.length - i ∧ i ≤ xs.length ∧ ∃ Z' en, Sm S X.K fa σ H1 Z1 env1 σ' H' Z' en ∧ FinO S X.K fa XX σ' H' Z' en (forGo (forT G t bs) (xs.drop i) en) { D with nx := D.nx, bk := D.nx, ct := fun _ _ => False },
        ⟨xs.length, by omega, Nat.zero_le _, Z1, env1, .refl ok1, h2⟩, ?_⟩
      rintro i n σ2 H2 ⟨rfl, hi, Z2, en, s2, h3⟩
      have pc : P (Own σ2 en) Z2 H2 := wl.step _ _ _ _ _ _ p1 s2.st
      by_cases hlt : i < xs.length
      · have hx : xs[i]? = some xs[i] := List.getElem?_eq_getElem hlt
        rw [List.drop_eq_getElem_cons hlt] at h3
        unfold forGo at h3
        refine .inr ⟨wl.go i _ _ _ _ pc hx, fun σ' H' => ∃ Z' en', Sm S X.K fa σ H1 Z1 env1 σ' H' Z' en' ∧ FinO S X.K fa XX σ' H' Z' en' (forGo (forT G t bs) (xs.drop (i + 1)) en') { D with nx := D.nx, bk := D.nx, ct := fun _ _ => False }, fun σ' H' q => ⟨xs.length - (i + 1), by omega, rfl, hlt, q⟩, fun x H3 hy => ?_⟩
        have item : Sm S X.K fa σ2 H2 Z2 en σ2 H3 Z2 en ∧ Fz X.K H3 Z2 x xs[i] := by
          rcases wl.yld i _ _ _ _ x H3 pc hx hy with ⟨rfl, f⟩ | ⟨T, us, ds, rfl, hT, rfl, ed, f⟩
          · exact ⟨.refl s2.ok, f⟩
          · refine ⟨((Mid.refl s2.ok).newT hT).sm, ?_⟩
            rw [ed]
            exact .tup (.inl (.inl upd_same)) (f.newT s2.ok.zl hT)
        obtain ⟨s3, fx⟩ := item
        cases ha : asgT t xs[i] en with
        | none =>
          unfold forT at h3
          rw [ha] at h3
          exact h3.elim
        | some en1 =>
          refine ⟨Z2, en, xs[i], en1, s3.ok, fx, ha, fun σ4 b4 ag ln => ⟨Z2, en1, b4.ok, ?_⟩⟩
          have s4 := s3.trans (b4.sm (fun j nj => ag j fun q => nj (hS j q)) ln)
          have h4 := FinO.on s4 h3
          have e1 : forT G t bs xs[i] en = exs G bs en1 := by
            unfold forT
            rw [ha]
          rw [e1] at h4
          have s5 := s2.trans s4
          revert h4
          cases exs G bs en1 with
          | nx e => exact fun z σ' Z' H' s => ⟨Z', e, s5.trans s, FinO.on s z⟩
          | ct e => exact fun z σ' Z' H' s => ⟨Z', e, s5.trans s, FinO.on s z⟩
          | bk e => exact fun z => z
          | rt e r => exact fun z => z
          | ex c a => exact fun z => z
          | bad => exact fun z => z
      · have e : i = xs.length := by omega
        subst e
        rw [List.drop_length] at h3
        exact .inl ⟨wl.stop _ _ _ _ pc rfl, h3 σ2 Z2 H2 (.refl s2.ok)⟩
end
end Ev

/-! Ev, part Q1: augmented stores to places of lists. -/
namespace Ev
open PySem L2 PyProof.Rows
section
variable {S : Nat → Prop} {X : Cx} {fa : Nat → V → Prop} {XX : XW} {G : Tab} {a b c : Expr} {ma mb mc : ME} {ms : List ME} {pos : Pos}
def rGetN (K : PySem.W.Frag) : V → V → Hp → VK → Prop := fun o i H Q => ∃ p xs k v, o = V.ref p ∧ i = .int k ∧ SqL K H p xs ∧ 0 ≤ k ∧ xs[k.toNat]? = some v ∧ Q v H
theorem get_list : PGet X (rGetN X.K) := by
  intro pins s σ H o i ov iv Q I ro ri h
  obtain ⟨p, xs, k, z, rfl, rfl, hq, h0, he, q⟩ := h
  cases ro
  obtain ⟨t, rfl⟩ := ri
  obtain ⟨its, r, pl, hz⟩ := I.list hq
  obtain ⟨w, ew, rw'⟩ := r.get he
  have hl := r.length
  have hk : k.toNat < xs.length := (List.getElem?_eq_some_iff.mp he).1
  have hn : sizeLine < 2 ^ 63 := by decide
  exact PySem.wpAny_getItem_list pl.isList h0 (by omega) (by simpa using ew) ⟨z, H, I, rw', q⟩
theorem p_augs {i : Nat} {x : Str} {p tpos : Pos} (o : BOp) (hN : X.N[i]? = some x) (hv : Vis X.env.scope x) (hd : (x == ("__debug__" : Str)) = false) (hcd : (x == ("__classdict__" : Str)) = false) (hb : PE X b (tE X.K fa XX G mb)) (he : PE X a (tE X.K fa XX G ma))
    (ha : ∀ ov iv new, augStore b ov iv new = (do holding [new, ov, iv] (setItem ov iv new); release [new, ov, iv] []; pure .next)) :
    PS X (.AugAssign (.Subscript (.Name x p) b tpos) (opOf o) a pos) (t1 S X.K fa XX G (.augs i mb o ma)) := by
  refine PS.weak (ps_augS (recv_v hN hv hd hcd) hb get_list he (aug_of o) set_list ha) fun D σ H ⟨Z, env, ok, h⟩ => ?_
  unfold exs1 at h
  split at h
  · rename_i hl
    obtain ⟨ad, ea, _⟩ := ok.recv hl
    refine ⟨V.ref ad, ea, tM.mono (FinO.of ok h) fun v H1 ⟨Z1, env1, r, m1, hr, hf⟩ => ?_⟩
    dsimp only at hf
    split at hf <;> try (exact hf.elim)
    rename_i k
    have hr : Fz X.K H1 Z1 v (.int k) := hr
    cases hr
    split at hf <;> try (exact hf.elim)
    rename_i xs hx
    split at hf <;> try (exact hf.elim)
    rename_i hk
    split at hf <;> try (exact hf.elim)
    rename_i d hd'
    obtain ⟨a', vs, ea', q1, q2⟩ := m1.ok.own hx
    rw [ea] at ea'; cases ea'
    obtain ⟨u, hu, fu⟩ := q2.get hd'
    refine ⟨ad, vs, k, u, rfl, rfl, .inl (.inl q1), hk, hu, tM.mono (FinO.of m1.ok (FinO.on m1.sm hf)) fun y H2 ⟨Z2, env2, r2, m2, hr2, hf2⟩ => ?_⟩
    dsimp only at hf2
    cases hy : dat env2 r2 with
    | none => rw [hy] at hf2; exact hf2.elim
    | some dy =>
      rw [hy] at hf2
      dsimp only at hf2
      cases hz : augT o d dy with
      | none => rw [hz] at hf2; exact hf2.elim
      | some z =>
        rw [hz] at hf2
        dsimp only at hf2
        split at hf2 <;> try (exact hf2.elim)
        rename_i ys hys
        split at hf2 <;> try (exact hf2.elim)
        rename_i j hj
        refine ⟨Z2, d, dy, z, .of (Fz.step m2.st fu), hr2.ds m2.ok hy, hz, fun w fw => ?_⟩
        obtain ⟨a', us, ea', w1, w2⟩ := m2.ok.own hys
        rw [ea] at ea'; cases ea'
        refine ⟨ad, us, k, j, rfl, rfl, w1, by rw [w2.length]; exact hj, ?_⟩
        exact hf2 σ Z2 _ (m2.write hys ea (w2.set fw j)).sm
  · exact h.elim
end
end Ev

/-! Ev, part R: defs whose callers are not within a repr; the law's end. -/
namespace Ev
open PySem PySem.Spec L2 PyProof.Rows

/-- a def's promise, for callers that are in no repr -/
structure FnG (P : Program) (w : World) (K : PySem.W.Frag) (mg : Str → Option Value) (base : Heap) (CX : CXT) (k : Nat) (f : Addr) (fd : FuncData) (ps : List Str) (sp : Sp) : Prop where
  len : ∀ vs H Q E, sp vs H Q E → vs.length = ps.length
  run : ∀ (A : Around) (outer : List PySem.Env) (s : Shared) (H : Hp) (args : Args) (us : List Value) (vs : List V) (Q : VK) (E : XK), Room k A → A.guards = some [] → Env0 P w K mg base A outer s H → BindsTo s fd args (ps.zip us) → Vals vs us → sp vs H Q E →
    codeAny (model P w) A (.call (.ref f) args) (CR CX outer P w H s Q E) s
section
variable {CX : CXT} {P : Program} {w : World} {K : PySem.W.Frag} {mg : Str → Option Value} {base : Heap} {j k : Nat} {f : Addr} {fd : FuncData} {ps : List Str} {sp : Sp}
theorem FnG.mono (F : FnG P w K mg base CX j f fd ps sp) (h : j ≤ k) : FnG P w K mg base CX k f fd ps sp where
  len := F.len
  run := fun A outer s H args us vs Q E r => F.run A outer s H args us vs Q E (r.mono h)
/-- a def by its body -/
theorem fnG_of {x qual : Str} {st : Stmt} {N : List Str} (F : Fun K x qual st f fd) (S : FnScope N ps (defScope st)) (len : ∀ vs H Q E, sp vs H Q E → vs.length = ps.length)
    (body : ∀ (cdv : Value) (A : Around) (outer : List PySem.Env) (s : Shared) (H : Hp) (vs : List V) (Q : VK) (E : XK), Room k (A.deeper (envOfC qual (defScope st) s.heap.objs.size f cdv)) → A.guards = some [] → sp vs H Q E →
      ∃ t, PSs (cxOf CX P w K mg base N qual (defScope st) f cdv A outer s H E) (defBody st) t ∧ t { nx := fun _ H' => Q .non H', rt := Q } (start N vs) H) : FnG P w K mg base CX (k + 1) f fd ps sp := by
  obtain ⟨oc, od, kV, doc, pm, an, cdv, ct, osl, rfl, lk, hcd⟩ := F.ex
  refine ⟨len, ?_⟩
  intro A outer s H args us vs Q E hr hg e0 hb rv h
  have kin : K.In s.heap := e0.mod.kin.keeps fun b o e => (e0.bs b o e).1
  have nolim : s.heap.NoLimit := e0.mod.nolimit.keeps fun b o e => (e0.bs b o e).1
  have kinds : ∀ y ∈ ps.zip us, (defScope st).names.lookup y.1 = some .local ∨ ((defScope st).names.lookup y.1 = some .cell ∧ ((cellsFrom (s.heap.objs.size + 1) (defScope st).names []).lookup y.1).isSome = true) := by
    rintro ⟨n, v⟩ hy
    have hp := S.par n (List.of_mem_zip hy).1
    exact hp.imp id fun q => ⟨q, PySem.W.cellsFrom_some _ _ _ (.inl q)⟩
  refine codeAny_call_function hr.depth (kin _ _ lk) rfl S.co S.gen rfl (PySem.W.codeRec_of kin hcd) (hb _ _ _ _ ?_)
  refine wpAny_newFunctionEnv_cells S.kind kinds fun env he s1 X1 => ?_
  cases he
  refine ⟨nolim.keeps X1.toInCall.keep, codeAny_func ?_⟩
  obtain ⟨t, ht, hq⟩ := body cdv A outer s H vs Q E (hr.deeper _) hg h
  have run := ht.run [] s1 (start N vs) H _ (inv_start S hr.hd e0 (len _ _ _ _ h) rv X1) hq
  refine wpAny_mono run ?_ fun e s' he => he
  intro fl s' hs
  cases fl with
  | next => obtain ⟨σ', H', I, q⟩ := hs; exact ⟨.non, H', I.os, I.bare, I.base, I.hok, rfl, q⟩
  | ret u => obtain ⟨v, σ', H', I, r, q⟩ := hs; exact ⟨v, H', I.os, I.bare, I.base, I.hok, r, q⟩
  | brk => obtain ⟨_, _, _, q⟩ := hs; exact q.elim
  | cont => obtain ⟨_, _, _, q⟩ := hs; exact q.elim
end
section
variable {X : Cx} {CX : CXT} {k : Nat} {f : Addr} {fd : FuncData} {ps : List Str} {sp : Sp} {E : XK} {x : Str} {p pos : Pos} {e : Expr} {es : List Expr} {t : TA}
theorem runG {pins : List (Addr × Obj)} {σ : L2.St} {H : Hp} {s : Shared} {Q : VK} {us : List Value} {vs : List V} (F : FnG X.prog X.w X.K X.mg X.base CX k f fd ps sp) (hr : Room k X.A) (hg : X.A.guards = some []) (hb : Binds X.K fd ps []) (hx : Passes CX X E)
    (I : L2.Inv X pins σ H s) (r : Vals vs us) (h : sp vs H Q E) : wpAny (model X.prog X.w) X.A (call (.ref f) us) (EP X pins σ Q) X.xe s := by
  have hl : (us ++ []).length = ps.length := by rw [List.append_nil, ← r.length]; exact F.len _ _ _ _ h
  have hb := hb s us I.kIn hl
  rw [List.append_nil] at hb
  refine wpAny_call (codeAny_mono (F.run X.A X.stack s H ⟨us, []⟩ us vs Q E hr hg I.env0 hb r h) ?_)
  intro res s' hq
  match res, hq with
  | .error e, hq => exact hx pins σ H s e s' I hq
  | .ok (.ret u), hq => exact I.after hq
  | .ok .next, hq => exact hq.elim
  | .ok .brk, hq => exact hq.elim
  | .ok .cont, hq => exact hq.elim
def tFn (sp : Sp) (E : XK) (t : TA) : TE := fun σ H Q => t σ H fun vs H1 => sp vs H1 Q E
theorem pe_fn (F : FnG X.prog X.w X.K X.mg X.base CX k f fd ps sp) (hr : Room k X.A) (hgu : X.A.guards = some []) (hg : Gl X x) (hm : X.mg x = some (.ref f)) (hk : PySem.W.keepIn X.K (.ref f) = true) (hb : Binds X.K fd ps []) (hx : Passes CX X E) (ha : PA X (e :: es) t)
    (hdb : (x == ("__debug__" : Str)) = false) (he : starEach (e :: es) X.env = (false, eval e X.env) :: starEach es X.env) (hpl : (backTo pos (starEach es X.env)).any (·.1) = false) : PE X (.Call (.Name x p) (e :: es) [] pos) (tFn sp E t) :=
  ⟨fun pins s σ H Q I h => wpAny_Call_Name_kw (ld_glob I hg hm (PySem.W.callWith_K (h₀ := X.base) I.ok.mod.kin hk (thn (ha.run pos pins s σ H _ I h) fun us s1 ⟨vs, H1, I1, r, q⟩ => ⟨I1.kIn, runG F hr hgu hb hx I1 r q⟩) he hpl) hdb)⟩
theorem pe_fn0 (F : FnG X.prog X.w X.K X.mg X.base CX k f fd ps sp) (hr : Room k X.A) (hgu : X.A.guards = some []) (hg : Gl X x) (hm : X.mg x = some (.ref f)) (hk : PySem.W.keepIn X.K (.ref f) = true) (hb : Binds X.K fd ps []) (hx : Passes CX X E)
    (hdb : (x == ("__debug__" : Str)) = false) : PE X (.Call (.Name x p) [] [] pos) (tFn sp E tNil) :=
  ⟨fun pins s σ H Q I h => wpAny_Call_Name_kw (ld_glob I hg hm (PySem.W.callWith_K0 I.kIn hk (runG (us := []) F hr hgu hb hx I .nil h)) hdb)⟩
/-- a call of what a name holds -/
def tFnV (X : Cx) (E : XK) (i : Nat) (t : TA) : TE := fun σ H Q => ∃ (f : Addr) (fd : FuncData) (ps : List Str) (sp : Sp) (k : Nat) (CX : CXT), σ[i]? = some (some (V.ref f)) ∧ FnG X.prog X.w X.K X.mg X.base CX k f fd ps sp ∧ Room k X.A ∧ PySem.W.keepIn X.K (.ref f) = true ∧ Binds X.K fd ps [] ∧ Passes CX X E ∧ tFn sp E t σ H Q
theorem pe_fnv {i : Nat} (hgu : X.A.guards = some []) (hN : X.N[i]? = some x) (hv : Vis X.env.scope x) (ha : PA X (e :: es) t) (hdb : (x == ("__debug__" : Str)) = false) (hcd : (x == ("__classdict__" : Str)) = false)
    (he : starEach (e :: es) X.env = (false, eval e X.env) :: starEach es X.env) (hpl : (backTo pos (starEach es X.env)).any (·.1) = false) : PE X (.Call (.Name x p) (e :: es) [] pos) (tFnV X E i t) :=
  ⟨fun pins s σ H Q I ⟨f, fd, ps, sp, k, CX, h0, F, hr, hk, hb, hx, h⟩ => by
    refine wpAny_Call_Name_kw (thn ((pe_var (pos := p) hN hv hdb hcd).run pins s σ H (fun v H1 => v = .ref f ∧ H1 = H) I ⟨_, h0, rfl, rfl⟩) fun u s0 ⟨v, H1, I1, r1, ev, eH⟩ => ?_)
    subst ev
    obtain rfl : u = Value.ref f := r1
    rw [eH] at I1
    exact PySem.W.callWith_K (h₀ := X.base) I1.ok.mod.kin hk (thn (ha.run pos pins s0 σ H _ I1 h) fun us s1 ⟨vs, H1, I2, r, q⟩ => ⟨I2.kIn, runG F hr hgu hb hx I2 r q⟩) he hpl⟩
/-- repr of data -/
theorem b1_repr (hu : X.A.units + 66 < cLine) (hg : X.A.guards = some []) : CallR X (.builtin "repr") (fun xs H Q => ∃ v d, xs = [v] ∧ Dp X.K H v d ∧ d.showable = true ∧ d.hasDict = false ∧ d.depth ≤ 64 ∧ d.shown.length ≤ sizeLine ∧ Q (.str d.shown) H) := by
  intro pins s σ H xs us Q I r h
  obtain ⟨v, d, rfl, hd, h1, h2, h3, h4, q⟩ := h
  obtain ⟨u, rfl, ru⟩ := vals1 r
  obtain ⟨as, rd⟩ := Dp.reads I d _ _ hd ru
  cases hd with
  | non =>
    cases ru
    refine PySem.P.repr_of_none ⟨.str (PyData.none).shown, H, I.tok _, ⟨s.toks, ?_⟩, q⟩
    first | (simp only [PyData.shown]; done) | (simp only [PyData.shown]; rfl)
  | bl b =>
    cases ru
    refine PySem.P.repr_of_bool ⟨.str (PyData.bool b).shown, H, I.tok _, ⟨s.toks, ?_⟩, q⟩
    cases b <;> simp only [PyData.shown] <;> rfl
  | int i =>
    obtain ⟨t, rfl⟩ := ru
    refine PySem.P.repr_of_int (by simpa [PyData.showable] using h1) ⟨.str (PyData.int i).shown, H, I.tok _, ⟨s.toks, ?_⟩, q⟩
    first | (simp only [PyData.shown]; done) | (simp only [PyData.shown]; rfl)
  | str x =>
    obtain ⟨t, rfl⟩ := ru
    refine PySem.P.repr_of_str ⟨.str (PyData.str x).shown, H, I.tok _, ⟨s.toks, ?_⟩, q⟩ (by simpa [PyData.shown] using h4)
    simp only [PyData.shown]
  | lst _ _ =>
    cases ru
    exact repr_of_reads' rd h1 (fun z => by rw [h2] at z; cases z) hg (by omega) (fun _ _ e => e) (fun h' u tk hk => ⟨.str _, H, I.kept hk, ⟨_, rfl⟩, q⟩) h4
  | tup _ _ =>
    cases ru
    exact repr_of_reads' rd h1 (fun z => by rw [h2] at z; cases z) hg (by omega) (fun _ _ e => e) (fun h' u tk hk => ⟨.str _, H, I.kept hk, ⟨_, rfl⟩, q⟩) h4
theorem b1x_repr (hu : X.A.units + 66 < cLine) (hg : X.A.guards = some []) : CallR X (.builtin "repr") (rB1x X.K .repr) := by
  refine CallR.weak (b1_repr hu hg) fun xs H Q q => ?_
  rcases q with ⟨x, rfl, Z, dx, r, zl, hx, e, w⟩ | ⟨_, _, _, _, q⟩
  · have e : shw dx = some r := by cases dx <;> exact e
    unfold shw at e
    split at e
    · rename_i hc
      cases e
      simp only [Bool.and_eq_true, decide_eq_true_eq, Bool.not_eq_true'] at hc
      exact ⟨x, dx, rfl, hx.dp hc.2, hc.1.1.1, hc.2, hc.1.2, hc.1.1.2, w.1 _ (.str _)⟩
    · cases e
  · exact q.elim
end
/-- the law's call, at the heap behind the top -/
theorem topG {P : Program} {w : World} {K : PySem.W.Frag} {mg mb : Str → Option Value} {k : Nat} {fa a : Addr} {fd : FuncData} {x : Str} {sp : Sp} {s₁ : Shared} {vs : List Value} {ns : List Int} {CX : CXT}
    (kin : K.In s₁.heap) (gl : s₁.heap.Ns mainGlobals mg) (bl : s₁.heap.Ns builtinsNs mb) (bb : ∀ x : Str, x ≠ "__name__" → mb x = bootBuiltins x) (lim : s₁.heap.NoLimit) (ng : s₁.gens = #[])
    (ha : s₁.heap.get? a = some { cls := .type "list", data := .seq vs.toArray }) (hi : IntsAre vs ns) (hl : ns.length ≤ sizeLine) (hr : Room k callerA)
    (F : ∀ base : Heap, K.In base → base.Ns mainGlobals mg → FnG P w K mg base CX k fa fd [x] sp) (hbind : ∀ (s : Shared) (u : Value), BindsTo s fd ⟨[u], []⟩ [(x, u)])
    (hsp : ∀ H : Hp, (∀ b u, H b = some u → b = a ∧ ∃ o, u = .frz o (.lst (ns.map V.int))) → RdL K H a (ns.map V.int) → sp [.ref a] H (fun v _ => v = .bl true) fun _ _ _ => False)
    (hCX : ∀ H e s', CX [] H s₁ (fun _ _ _ => False) e s' → False) :
    codeAny (model P w) callerA (.call (.ref fa) ⟨[.ref a], []⟩) (fun r s' => r = .ok (.ret (.bool true)) ∧ OldK s₁.heap s'.heap ∧ s'.os = s₁.os ∧ AllBare s'.gens) s₁ := by
  have rv := vals_ints hi
  have lenv : vs.length = ns.length := hi.length
  obtain ⟨H, hH, hS, hK⟩ : ∃ H : Hp, (∀ b u, H b = some u → b = a ∧ u = .frz { cls := .type "list", data := .seq vs.toArray } (.lst (ns.map V.int))) ∧ RdL K H a (ns.map V.int) ∧ ∀ b o, K.lookup b = some o → H b = none := by
    cases q : K.lookup a with
    | some o =>
      have e := kin a o q
      rw [ha] at e
      cases e
      exact ⟨fun _ => none, fun b u e => (nomatch e), .inr ⟨_, vs.toArray, _, q, rfl, rfl, rfl, by rw [List.size_toArray, lenv]; exact hl, by simpa using rv⟩, fun _ _ _ => rfl⟩
    | none =>
      refine ⟨fun b => if b = a then some (.frz { cls := .type "list", data := .seq vs.toArray } (.lst (ns.map V.int))) else none, fun b u e => ?_, .inl ⟨_, if_pos rfl⟩, fun b o e => if_neg fun z => ?_⟩
      · by_cases z : b = a
        · have e := (if_pos z).symm.trans e
          cases e; exact ⟨z, rfl⟩
        · have e := (if_neg z).symm.trans e
          cases e
      · rw [z, q] at e; cases e
  have hok : HOk P w H s₁.heap := fun b u e => by
    obtain ⟨rfl, rfl⟩ := hH b u e
    exact ⟨ha, by rw [List.length_map]; exact hl, vs, _, rv, ha⟩
  have nodict : ∀ {b : Addr} {o : Obj} {es : Array DictEntry} {ep : Nat}, s₁.heap.get? b = some o → o.data = .dict es ep → H b = none := fun {b o es ep} e d => by
    cases q : H b with
    | none => rfl
    | some u =>
      obtain ⟨rfl, _⟩ := hH b u q
      rw [ha] at e
      cases e
      exact absurd (show Data.seq vs.toArray _ = Data.dict es ep from d) (fun z => nomatch z)
  have ns' : ∀ {b : Addr} {m : Str → Option Value}, s₁.heap.Ns b m → (hidT s₁.heap H).Ns b m := fun ⟨o, es, ep, e, d, r⟩ => ⟨o, es, ep, hidT_get e (nodict e d), d, r⟩
  have kb : K.In (hidT s₁.heap H) := fun b o e => hidT_get (kin b o e) (hK b o e)
  obtain ⟨mc, l1, l2⟩ := lim
  have e0 : Env0 P w K mg (hidT s₁.heap H) callerA [] s₁ H := {
    frames := rfl
    mod := ⟨kb, ns' gl, ⟨mb, ns' bl, bb⟩, mc, ns' l1, l2⟩
    bs := fun b o e => of_hidT e
    bsz := Nat.le_of_eq (hidT_size _ _)
    funs := trivial
    frf := fun b hb => absurd (show b ∈ ([] : List Addr) from hb) (by simp)
    hok := hok
    bare := .of_eq ng }
  have hsp := hsp H (fun b u e => let ⟨h1, h2⟩ := hH b u e; ⟨h1, _, h2⟩) hS
  refine codeAny_mono ((F _ kb (ns' gl)).run callerA [] s₁ H ⟨[.ref a], []⟩ [.ref a] [.ref a] _ _ hr rfl e0 (hbind s₁ (.ref a)) (.cons rfl .nil) hsp) ?_
  intro res s' h
  match res, h with
  | .error e, h => exact (hCX H e s' h).elim
  | .ok .next, h => exact h.elim
  | .ok .brk, h => exact h.elim
  | .ok .cont, h => exact h.elim
  | .ok (.ret u), ⟨v, H', os, bare, un, hok', r', q⟩ =>
    cases (show v = .bl true from q)
    cases (show u = Value.bool true from r')
    refine ⟨rfl, OldK.of_keep fun b o e => ?_, os, bare⟩
    cases q : H b with
    | none => exact un.keep b o e q (fun z => absurd (show b ∈ ([] : List Addr) from z) (by simp)) (by simp)
    | some u =>
      obtain ⟨rfl, rfl⟩ := hH b u q
      obtain ⟨e2, _⟩ := hok' b _ (un.frzs b _ _ q)
      rw [ha] at e
      cases e
      exact e2
theorem walkG {l : PySem.W.OpenLaw} {n k : Nat} {q : Program} {loose : List Str} {XP : (Str → Option Value) → Heap → Prop} {YP : World → Heap → Prop} {d : DefRec} {K : Params → PySem.W.Frag} {CX : World → CXT} {sp : World → Sp} {x : Str}
    (hn : l.most = some n) (hn2 : n ≤ sizeLine) (hdf : d.params.defaults = []) (hr : Room k callerA) (hY : ∀ (w : World) (h : Heap), YP w h → (K w.params).In h)
    (F : ∀ (w : World) (mg : Str → Option Value) (fa : Addr) (h : Heap), (K w.params).In h → h.Ns mainGlobals mg → mg d.name = some (.ref fa) →
      ∃ fd : FuncData, (∀ (s : Shared) (u : Value), BindsTo s fd ⟨[u], []⟩ [(x, u)]) ∧ ∀ base : Heap, (K w.params).In base → base.Ns mainGlobals mg → FnG l.prog w (K w.params) mg base (CX w) k fa fd [x] (sp w))
    (hsp : ∀ (w : World) (H : Hp) (a : Addr) (ns : List Int), ns.length ≤ n → (∀ b u, H b = some u → b = a ∧ ∃ o, u = .frz o (.lst (ns.map V.int))) → RdL (K w.params) H a (ns.map V.int) → sp w [.ref a] H (fun v _ => v = .bl true) fun _ _ _ => False)
    (hCX : ∀ (w : World) (H : Hp) (s : Shared) (e : Value) (s' : Shared), CX w [] H s (fun _ _ _ => False) e s' → False) : PySem.W.WalkO q loose XP YP l.row.toRowW d [] (fun f vs => PySem.call f vs) := by
  refine Att.attach_call hn hdf ?_
  intro w s₀ s₁ mg mb fa o pm cd doc a vs ns G Y ho hd hcd hmg hobj hints hlen hg
  obtain ⟨fd, hb, hF⟩ := F w mg fa _ (hY w _ Y) G.T.g hmg
  exact topG (hY w _ Y) G.T.g G.T.b G.T.builtins G.T.nolimit hg hobj hints (Nat.le_trans hlen hn2) hr hF hb (fun H h1 h2 => hsp w H a ns hlen h1 h2) fun H e s' => hCX w H s₁ e s'
end Ev

/-! Ev, part S: calls and defs. -/
namespace Ev
open PySem PySem.Spec L2 PyProof.Rows

/-- what the arguments' places hold behind a call -/
def outE : List W → List (Option W) → Env
  | .l _ :: ws, o :: os => o :: outE ws os
  | w :: ws, _ :: os => some w :: outE ws os
  | _, _ => []
theorem outE_get : ∀ {ws : List W} {os : List (Option W)} {i : Nat} {w : W}, (outE ws os)[i]? = some (some w) → ∃ u, ws[i]? = some u ∧ (((∃ xs, u = .l xs) ∧ os[i]? = some (some w)) ∨ ((∀ xs, u ≠ .l xs) ∧ w = u))
  | [], _, _, _, h => by simp [outE] at h
  | u :: ws, [], _, _, h => by cases u <;> simp [outE] at h
  | u :: ws, o :: os, 0, w, h => by
    cases u <;> simp [outE] at h
    · exact ⟨_, rfl, .inr ⟨fun xs e => (by cases e), h.symm⟩⟩
    · exact ⟨_, rfl, .inl ⟨⟨_, rfl⟩, by rw [h]; rfl⟩⟩
    · exact ⟨_, rfl, .inr ⟨fun xs e => (by cases e), h.symm⟩⟩
    · exact ⟨_, rfl, .inr ⟨fun xs e => (by cases e), h.symm⟩⟩
    · exact ⟨_, rfl, .inr ⟨fun xs e => (by cases e), h.symm⟩⟩
  | u :: ws, o :: os, i + 1, w, h => by
    have h' : (outE ws os)[i]? = some (some w) := by cases u <;> simpa [outE] using h
    obtain ⟨u', h1, h2⟩ := outE_get h'
    exact ⟨u', by simpa using h1, by simpa using h2⟩
theorem outE_len : ∀ {ws : List W} {os : List (Option W)}, os.length = ws.length → (outE ws os).length = ws.length
  | [], [], _ => rfl
  | [], _ :: _, h => by simp at h
  | _ :: _, [], h => by simp at h
  | u :: ws, o :: os, h => by
    have := outE_len (ws := ws) (os := os) (by simpa using h)
    cases u <;> simp [outE, this]
/-- what a def promises by its meaning s -/
def spS (K : PySem.W.Frag) (fa : Nat → V → Prop) (EX : Nat → PyData → Hp → XK → Prop) (ar : Nat) (s : Sem) : Sp := fun vs H Q E => vs.length = ar ∧ ∃ Z ws, Eok K fa H Z (vs.map some) (ws.map some) ∧ (∀ xs, W.k xs ∉ ws) ∧ match s ws with
  | .ok (r, os) => os.length = ar → ∀ Z' H' v, Sm (fun _ => False) K fa (vs.map some) H Z (ws.map some) (vs.map some) H' Z' (outE ws os) → RvOk K fa H H' Z' [] r v → Q v H'
  | .ex c a => ∀ Mu' Z' H', Stp (Own (vs.map some) (ws.map some)) Z H Mu' Z' H' → EX c a H' E
  | .bad => False
section
variable {K : PySem.W.Frag} {fa : Nat → V → Prop} {H H0 H1 H' : Hp} {Z Z0 Z1 Z' : Addr → Prop} {σ σ' : L2.St} {env env0 env1 : Env} {n : Nat}
theorem map_some {α : Type} {l : List α} {i : Nat} {x : α} : (l.map some)[i]? = some (some x) ↔ l[i]? = some x := by
  rw [List.getElem?_map, Option.map_eq_some_iff]
  constructor
  · rintro ⟨y, h, e⟩; cases e; exact h
  · intro h; exact ⟨x, h, rfl⟩
theorem ext_get {α : Type} {l : List (Option α)} {n i : Nat} {x : α} : (l ++ List.replicate n none)[i]? = some (some x) ↔ l[i]? = some (some x) := by
  by_cases h : i < l.length
  · rw [List.getElem?_append_left h]
  · rw [List.getElem?_append_right (by omega), List.getElem?_replicate, List.getElem?_eq_none (by omega)]
    constructor
    · intro q; split at q <;> cases q
    · intro q; cases q
theorem Own_ext {a : Addr} : Own (σ ++ List.replicate n none) (env ++ List.replicate n none) a ↔ Own σ env a := by
  constructor
  · rintro ⟨i, xs, h1, h2⟩; exact ⟨i, xs, ext_get.mp h1, ext_get.mp h2⟩
  · rintro ⟨i, xs, h1, h2⟩; exact ⟨i, xs, ext_get.mpr h1, ext_get.mpr h2⟩
theorem ownd_ext {i : Nat} : ownd (env ++ List.replicate n none) i ↔ ownd env i := by
  constructor
  · rintro ⟨xs, h | h⟩
    · exact ⟨xs, .inl (ext_get.mp h)⟩
    · exact ⟨xs, .inr (ext_get.mp h)⟩
  · rintro ⟨xs, h | h⟩
    · exact ⟨xs, .inl (ext_get.mpr h)⟩
    · exact ⟨xs, .inr (ext_get.mpr h)⟩
theorem Eok.ext (ok : Eok K fa H Z σ env) (n : Nat) : Eok K fa H Z (σ ++ List.replicate n none) (env ++ List.replicate n none) := by
  refine ⟨fun i w h => ?_, fun i j a o1 o2 e1 e2 => ok.apart i j a (ownd_ext.mp o1) (ownd_ext.mp o2) (ext_get.mp e1) (ext_get.mp e2), ok.zl, by rw [List.length_append, List.length_append, ok.len, List.length_replicate, List.length_replicate]⟩
  obtain ⟨v, h1, h2⟩ := ok.nm i w (ext_get.mp h)
  exact ⟨v, ext_get.mpr h1, h2⟩
/-- a body's end, as its caller sees it -/
theorem Sm.out {S : Nat → Prop} {vs : List V} {ws : List W} {e : Env} (ok : Eok K fa H Z (vs.map some) (ws.map some)) (nk : ∀ xs, W.k xs ∉ ws) (hS : ∀ i xs, ws[i]? = some (W.l xs) → ¬ S i)
    (m : Sm S K fa (vs.map some ++ List.replicate n none) H Z (ws.map some ++ List.replicate n none) σ' H' Z' e) : Sm (fun _ => False) K fa (vs.map some) H Z (ws.map some) (vs.map some) H' Z' (outE ws (e.take ws.length)) := by
  have hl : vs.length = ws.length := by have := ok.len; rw [List.length_map, List.length_map] at this; exact this.symm
  have el : e.length = ws.length + n := by
    rw [m.ok.len, m.len, List.length_append, List.length_map, List.length_replicate, hl]
  have tk : ∀ {i w}, (e.take ws.length)[i]? = some (some w) → e[i]? = some (some w) := fun {i w} h => by
    have : i < ws.length := by
      have := (List.getElem?_eq_some_iff.mp h).1
      rw [List.length_take] at this; omega
    rwa [List.getElem?_take_of_lt this] at h
  have sg : ∀ {i xs}, ws[i]? = some (W.l xs) → σ'[i]? = (vs.map some)[i]? := fun {i xs} h => by
    have hi : i < (vs.map some).length := by
      rw [List.length_map, hl]
      exact (List.getElem?_eq_some_iff.mp h).1
    rw [m.ag i (hS i xs h), List.getElem?_append_left hi]
  have od : ∀ i, ownd (outE ws (e.take ws.length)) i → (∃ xs, ws[i]? = some (W.l xs)) ∧ ownd e i := fun i ⟨zs, h⟩ => by
    have nw : ∀ u, ws[i]? = some u → (∀ xs, u ≠ .l xs) → ¬ (u = .l zs ∨ u = .k zs) := fun u h1 h2 h3 => by
      rcases h3 with rfl | rfl
      · exact h2 zs rfl
      · exact nk zs (List.mem_of_getElem? h1)
    rcases h with h | h
    · obtain ⟨u, h1, ⟨⟨xs, rfl⟩, h2⟩ | ⟨h2, h3⟩⟩ := outE_get h
      · exact ⟨⟨xs, h1⟩, zs, .inl (tk h2)⟩
      · exact (nw u h1 h2 (.inl h3.symm)).elim
    · obtain ⟨u, h1, ⟨⟨xs, rfl⟩, h2⟩ | ⟨h2, h3⟩⟩ := outE_get h
      · exact ⟨⟨xs, h1⟩, zs, .inr (tk h2)⟩
      · exact (nw u h1 h2 (.inr h3.symm)).elim
  have own : ∀ b, Own (vs.map some) (outE ws (e.take ws.length)) b → Own σ' e b := fun b ⟨i, zs, h1, h2⟩ => by
    obtain ⟨u, q1, ⟨⟨xs, rfl⟩, q2⟩ | ⟨q2, q3⟩⟩ := outE_get h1
    · exact ⟨i, zs, tk q2, by rw [sg q1]; exact h2⟩
    · exact (q2 zs q3.symm).elim
  refine ⟨⟨fun a o h q => m.st.keep a o h fun z => q (Own_ext.mp z), m.st.dom, fun a h q => m.st.zold a h fun z => q (Own_ext.mp z), m.st.znew, fun a q => ?_, ok.muz, ok.zl⟩, fun i xs h => ?_, fun i a o e1 => ?_, fun _ _ => rfl, rfl, ⟨fun i w h => ?_, fun i j a o1 o2 e1 e2 => ?_, m.ok.zl, ?_⟩⟩
  · rcases m.st.mnew a (own a q) with z | z
    · exact .inl (Own_ext.mp z)
    · exact .inr z
  · obtain ⟨u, q1, ⟨⟨ys, rfl⟩, q2⟩ | ⟨q2, q3⟩⟩ := outE_get h
    · exact ⟨ext_get.mp (m.kk i xs (tk q2)).1, rfl⟩
    · exact ⟨by rw [q3]; exact map_some.mpr q1, rfl⟩
  · obtain ⟨⟨xs, q1⟩, _⟩ := od i o
    exact .inl ⟨⟨xs, .inl (map_some.mpr q1)⟩, rfl⟩
  · obtain ⟨u, q1, ⟨⟨ys, rfl⟩, q2⟩ | ⟨q2, q3⟩⟩ := outE_get h
    · obtain ⟨v, e1, e2⟩ := m.ok.nm i w (tk q2)
      exact ⟨v, by rw [← sg q1]; exact e1, e2⟩
    · subst q3
      obtain ⟨v, e1, e2⟩ := ok.nm i w (map_some.mpr q1)
      refine ⟨v, e1, ?_⟩
      cases w with
      | d x => exact Fz.step m.st e2
      | l xs => exact (q2 xs rfl).elim
      | k xs => exact (nk xs (List.mem_of_getElem? q1)).elim
      | r xs =>
        obtain ⟨a, us, rfl, h1, h3⟩ := e2
        exact ⟨a, us, rfl, RdL.step m.st h1, FzAll.step m.st h3⟩
      | f n => exact e2
  · obtain ⟨⟨xs, q1⟩, _⟩ := od i o1
    obtain ⟨⟨ys, q2⟩, _⟩ := od j o2
    exact ok.apart i j a ⟨xs, .inl (map_some.mpr q1)⟩ ⟨ys, .inl (map_some.mpr q2)⟩ e1 e2
  · rw [List.length_map, hl]
    exact outE_len (by rw [List.length_take]; omega)
theorem lentOk_get {st : List Nat} : ∀ {ws : List W} {k i : Nat} {xs : List PyData}, lentOk st k ws = true → ws[i]? = some (W.l xs) → k + i ∉ st
  | [], _, _, _, _, h => by simp at h
  | u :: ws, k, 0, xs, h, e => by
    simp at e
    subst e
    unfold lentOk at h
    simp only [Bool.and_eq_true, Bool.not_eq_true'] at h
    intro q
    have := h.1
    simp at this
    exact this q
  | u :: ws, k, i + 1, xs, h, e => by
    have h' : lentOk st (k + 1) ws = true := by
      cases u <;> simp [lentOk] at h
      · exact h
      · exact h.2
      · exact h
      · exact h
      · exact h
    have := lentOk_get (i := i) h' (by simpa using e)
    rw [show k + (i + 1) = k + 1 + i by omega]
    exact this
end
/-- a def's body does what its meaning says -/
theorem def_go {X : Cx} {fa : Nat → V → Prop} {EX : Nat → PyData → Hp → XK → Prop} {G : Tab} {ar : Nat} {body : List MS} {vs : List V} {H : Hp} {Q : VK} {E : XK} {N : List Str} (hN : ar ≤ N.length) (h : spS X.K fa EX ar (runDef G ar N.length body) vs H Q E) :
    tn (fun i => i ∈ stos body) X.K fa (fun c a _ H' => EX c a H' E) G body { nx := fun _ H' => Q .non H', rt := Q } (L2.start N vs) H := by
  obtain ⟨hl, Z, ws, ok, nk, h⟩ := h
  have hlw : ws.length = vs.length := by have := ok.len; rw [List.length_map, List.length_map] at this; exact this
  have es : L2.start N vs = vs.map some ++ List.replicate (N.length - ar) none := by unfold L2.start; rw [hl]
  rw [es]
  refine ⟨Z, ws.map some ++ List.replicate (N.length - ar) none, ok.ext _, ?_⟩
  unfold runDef at h
  by_cases hc : ws.length = ar ∧ lentOk (stos body) 0 ws = true
  · rw [if_pos hc] at h
    obtain ⟨hw, hlo⟩ := hc
    have hS : ∀ i xs, ws[i]? = some (W.l xs) → ¬ i ∈ stos body := fun i xs e => by
      have := lentOk_get hlo e
      rwa [Nat.zero_add] at this
    have ow : ∀ {σ' : L2.St} {H' : Hp} {Z' : Addr → Prop} {e : Env}, Sm (fun i => i ∈ stos body) X.K fa (vs.map some ++ List.replicate (N.length - ar) none) H Z (ws.map some ++ List.replicate (N.length - ar) none) σ' H' Z' e → Sm (fun _ => False) X.K fa (vs.map some) H Z (ws.map some) (vs.map some) H' Z' (outE ws (e.take ar)) := fun m => by
      have := Sm.out ok nk hS m
      rwa [hw] at this
    have tl : ∀ {σ' : L2.St} {H' : Hp} {Z' : Addr → Prop} {e : Env}, Sm (fun i => i ∈ stos body) X.K fa (vs.map some ++ List.replicate (N.length - ar) none) H Z (ws.map some ++ List.replicate (N.length - ar) none) σ' H' Z' e → (e.take ar).length = ar := fun m => by
      have h1 := m.ok.len
      have h2 := m.len
      rw [List.length_append, List.length_map, List.length_replicate] at h2
      rw [List.length_take]
      omega
    revert h
    cases exs G body (ws.map some ++ List.replicate (N.length - ar) none) with
    | nx e => exact fun h σ' Z' H' m => h (tl m) Z' H' .non (ow m) .non
    | ct e => exact fun h => h.elim
    | bk e => exact fun h => h.elim
    | bad => exact fun h => h
    | ex c a =>
      refine fun h σ' Mu' Z' H' s => h Mu' Z' H' ⟨fun b o q n => s.keep b o q fun z => n (Own_ext.mp z), s.dom, fun b q n => s.zold b q fun z => n (Own_ext.mp z), s.znew, fun b q => ?_, ok.muz, ok.zl⟩
      rcases s.mnew b q with z | z
      · exact .inl (Own_ext.mp z)
      · exact .inr z
    | rt e r =>
      dsimp only
      cases hg : giveR e ar r with
      | none => exact fun h => h.elim
      | some p =>
        obtain ⟨e', r'⟩ := p
        intro h σ' Z' H' v m hr
        dsimp only at h
        cases r with
        | v x => cases hg; exact h (tl m) Z' H' v (ow m) hr
        | n xs => cases hg; exact h (tl m) Z' H' v (ow m) hr
        | f t => cases hg; exact h (tl m) Z' H' v (ow m) hr
        | r xs => cases hg
        | p i =>
          have hr : σ'[i]? = some (some v) := hr
          unfold giveR at hg
          dsimp only at hg
          split at hg
          · rename_i xs hx
            obtain ⟨a, us, ea, h1, h3⟩ := m.ok.own hx
            rw [hr] at ea
            cases ea
            split at hg
            · cases hg
              obtain ⟨a', us', ea', q1, q2, _, m2⟩ := (Mid.refl m.ok).freezeN hx
              rw [hr] at ea'
              cases ea'
              have m3 := m.trans m2.sm
              exact h (tl m3) _ H' _ (ow m3) (.lst q1 (fun z => z.2 rfl) q2)
            · rename_i hi
              cases hg
              have ht : (e.set i none).take ar = e.take ar := by
                apply List.ext_getElem?
                intro j
                by_cases hj : j < ar
                · rw [List.getElem?_take_of_lt hj, List.getElem?_take_of_lt hj, List.getElem?_set_ne (by omega)]
                · rw [List.getElem?_eq_none (by rw [List.length_take]; omega), List.getElem?_eq_none (by rw [List.length_take]; omega)]
              rw [ht] at h
              refine h (tl m) Z' H' _ (ow m) ⟨a, us, rfl, h1, (m.ok.slot ⟨xs, .inl hx⟩ hr).1, ?_, h3⟩
              rcases m.ow i a ⟨xs, .inl hx⟩ hr with ⟨o, _⟩ | q
              · exfalso
                obtain ⟨zs, o⟩ := ownd_ext.mp o
                have : i < (ws.map some).length := by
                  rcases o with o | o <;> exact (List.getElem?_eq_some_iff.mp o).1
                rw [List.length_map] at this
                omega
              · exact q
          · rename_i x hx
            cases hg
            obtain ⟨u, e1, e2⟩ := m.ok.nm i _ hx
            rw [hr] at e1
            cases e1
            exact h (tl m) Z' H' _ (ow m) e2
          · cases hg
  · rw [if_neg hc] at h
    exact h.elim
end Ev

/-! Ev, part T: calls, from the caller's side. -/
namespace Ev
open PySem PySem.Spec L2 PyProof.Rows

/-- an argument as it is lent -/
inductive LendR (env : Env) : Rv → W → Prop
  | v (x : PyData) : LendR env (.v x) (.d x)
  | n (xs : List PyData) : LendR env (.n xs) (.d (.list xs))
  | r (xs : List PyData) : LendR env (.r xs) (.r xs)
  | f (n : Nat) : LendR env (.f n) (.f n)
  | pl {i : Nat} {xs : List PyData} : env[i]? = some (some (W.l xs)) → LendR env (.p i) (.l xs)
  | pd {i : Nat} {x : PyData} : env[i]? = some (some (.d x)) → LendR env (.p i) (.d x)
theorem lend_get : ∀ {rs : List Rv} {ls : List Nat} {ws : List W} {env : Env}, lend env rs ls = some ws → ws.length = rs.length ∧ (∀ (j : Nat) (r : Rv), rs[j]? = some r → ∃ w, ws[j]? = some w ∧ LendR env r w) ∧
    (∀ (j i : Nat) (xs : List PyData), rs[j]? = some (Rv.p i) → env[i]? = some (some (W.l xs)) → i ∉ ls) ∧ (∀ (j j' i : Nat) (xs : List PyData), rs[j]? = some (Rv.p i) → rs[j']? = some (Rv.p i) → env[i]? = some (some (W.l xs)) → j = j')
  | [], _, _, _, h => by
    cases h
    exact ⟨rfl, fun j r e => by simp at e, fun j i xs e => by simp at e, fun j j' i xs e => by simp at e⟩
  | r :: rs, ls, ws, env, h => by
    have easy : ∀ w : W, (∀ (i : Nat) (xs : List PyData), r = Rv.p i → env[i]? ≠ some (some (W.l xs))) → LendR env r w → lend env (r :: rs) ls = (lend env rs ls).map (w :: ·) → ws.length = (r :: rs).length ∧ (∀ (j : Nat) (q : Rv), (r :: rs)[j]? = some q → ∃ w, ws[j]? = some w ∧ LendR env q w) ∧
        (∀ (j i : Nat) (xs : List PyData), (r :: rs)[j]? = some (Rv.p i) → env[i]? = some (some (W.l xs)) → i ∉ ls) ∧ (∀ (j j' i : Nat) (xs : List PyData), (r :: rs)[j]? = some (Rv.p i) → (r :: rs)[j']? = some (Rv.p i) → env[i]? = some (some (W.l xs)) → j = j') := fun w np hw e => by
      rw [e] at h
      obtain ⟨us, h1, rfl⟩ := Option.map_eq_some_iff.mp h
      obtain ⟨a1, a2, a3, a4⟩ := lend_get h1
      refine ⟨by rw [List.length_cons, List.length_cons, a1], fun j q e => ?_, fun j i xs e1 e2 => ?_, fun j j' i xs e1 e2 e3 => ?_⟩
      · cases j with
        | zero => simp at e; subst e; exact ⟨w, rfl, hw⟩
        | succ j => simpa using a2 j q (by simpa using e)
      · cases j with
        | zero => simp at e1; exact absurd e2 (np i xs e1)
        | succ j => exact a3 j i xs (by simpa using e1) e2
      · cases j with
        | zero => simp at e1; exact absurd e3 (np i xs e1)
        | succ j =>
          cases j' with
          | zero => simp at e2; exact absurd e3 (np i xs e2)
          | succ j' => rw [a4 j j' i xs (by simpa using e1) (by simpa using e2) e3]
    cases r with
    | v x => exact easy _ (fun i xs e => (by cases e)) (.v x) rfl
    | n ys => exact easy _ (fun i xs e => (by cases e)) (.n ys) rfl
    | r ys => exact easy _ (fun i xs e => (by cases e)) (.r ys) rfl
    | f n => exact easy _ (fun i xs e => (by cases e)) (.f n) rfl
    | p i =>
      unfold lend at h
      split at h
      · cases h
      · rename_i hi
        split at h
        · rename_i xs hx
          obtain ⟨us, h1, rfl⟩ := Option.map_eq_some_iff.mp h
          obtain ⟨a1, a2, a3, a4⟩ := lend_get h1
          refine ⟨by rw [List.length_cons, List.length_cons, a1], fun j q e => ?_, fun j k ys e1 e2 => ?_, fun j j' k ys e1 e2 e3 => ?_⟩
          · cases j with
            | zero => simp at e; subst e; exact ⟨_, rfl, .pl hx⟩
            | succ j => simpa using a2 j q (by simpa using e)
          · cases j with
            | zero => simp at e1; subst e1; exact hi
            | succ j => exact fun q => a3 j k ys (by simpa using e1) e2 (List.mem_cons_of_mem _ q)
          · cases j with
            | zero =>
              simp at e1
              subst e1
              cases j' with
              | zero => rfl
              | succ j' => exact absurd List.mem_cons_self (a3 j' i ys (by simpa using e2) e3)
            | succ j =>
              cases j' with
              | zero => simp at e2; subst e2; exact absurd List.mem_cons_self (a3 j i ys (by simpa using e1) e3)
              | succ j' => rw [a4 j j' k ys (by simpa using e1) (by simpa using e2) e3]
        · rename_i x hx
          refine easy (.d x) (fun k xs e e2 => ?_) (.pd hx) ?_
          · cases e; rw [hx] at e2; cases e2
          · show (if i ∈ ls then none else _) = _
            rw [if_neg hi, hx]
        · cases h
theorem back_len : ∀ {rs : List Rv} {os : List (Option W)} {env : Env}, (back env rs os).length = env.length
  | [], os, env => by cases os <;> rfl
  | r :: rs, [], env => by cases r <;> rfl
  | r :: rs, o :: os, env => by
    cases r <;> simp only [back] <;> rw [back_len]
    split
    · rw [List.length_set]
    · rfl
/-- a name that was not lent is as it was -/
theorem back_out : ∀ {rs : List Rv} {os : List (Option W)} {env : Env} {i : Nat}, (∀ (j : Nat) (xs : List PyData), rs[j]? = some (Rv.p i) → env[i]? ≠ some (some (W.l xs))) → (back env rs os)[i]? = env[i]?
  | [], os, env, i, _ => by cases os <;> rfl
  | r :: rs, [], env, i, _ => by cases r <;> rfl
  | r :: rs, o :: os, env, i, h => by
    have ht : ∀ (j : Nat) (xs : List PyData), rs[j]? = some (Rv.p i) → env[i]? ≠ some (some (W.l xs)) := fun j xs e => h (j + 1) xs (by simpa using e)
    cases r with
    | v x =>
      show (back env rs os)[i]? = _
      exact back_out ht
    | n x =>
      show (back env rs os)[i]? = _
      exact back_out ht
    | r x =>
      show (back env rs os)[i]? = _
      exact back_out ht
    | f x =>
      show (back env rs os)[i]? = _
      exact back_out ht
    | p k =>
      show (back (match env[k]? with
        | some (some (W.l _)) => env.set k o
        | _ => env) rs os)[i]? = _
      split
      · rename_i xs hk
        have ne : k ≠ i := fun e => by subst e; exact h 0 xs rfl hk
        rw [back_out fun j xs e => by rw [List.getElem?_set_ne ne]; exact ht j xs e, List.getElem?_set_ne ne]
      · exact back_out ht
/-- a name that was lent holds what came back -/
theorem back_in : ∀ {rs : List Rv} {os : List (Option W)} {env : Env} {i j : Nat} {xs : List PyData} {o : Option W}, rs[j]? = some (Rv.p i) → env[i]? = some (some (W.l xs)) → os[j]? = some o → (∀ j' : Nat, rs[j']? = some (Rv.p i) → j' = j) → (back env rs os)[i]? = some o
  | [], _, _, _, _, _, _, h, _, _, _ => by simp at h
  | _ :: _, [], _, _, _, _, _, _, _, h, _ => by simp at h
  | r :: rs, o' :: os, env, i, 0, xs, o, h1, h2, h3, h4 => by
    simp at h1 h3
    subst h1 h3
    show (back (match env[i]? with
        | some (some (W.l _)) => env.set i o'
        | _ => env) rs os)[i]? = _
    rw [h2]
    have hi : i < env.length := (List.getElem?_eq_some_iff.mp h2).1
    rw [back_out fun j xs e => ?_]
    · exact List.getElem?_set_self hi
    · have := h4 (j + 1) (by simpa using e)
      omega
  | r :: rs, o' :: os, env, i, j + 1, xs, o, h1, h2, h3, h4 => by
    have ht : ∀ j' : Nat, rs[j']? = some (Rv.p i) → j' = j := fun j' e => by
      have := h4 (j' + 1) (by simpa using e)
      omega
    have h1' : rs[j]? = some (Rv.p i) := by simpa using h1
    have h3' : os[j]? = some o := by simpa using h3
    cases r with
    | v x =>
      show (back env rs os)[i]? = _
      exact back_in h1' h2 h3' ht
    | n x =>
      show (back env rs os)[i]? = _
      exact back_in h1' h2 h3' ht
    | r x =>
      show (back env rs os)[i]? = _
      exact back_in h1' h2 h3' ht
    | f x =>
      show (back env rs os)[i]? = _
      exact back_in h1' h2 h3' ht
    | p k =>
      have ne : k ≠ i := fun e => by
        subst e
        have := h4 0 rfl
        omega
      show (back (match env[k]? with
        | some (some (W.l _)) => env.set k o'
        | _ => env) rs os)[i]? = _
      split
      · exact back_in h1' (by rw [List.getElem?_set_ne ne]; exact h2) h3' ht
      · exact back_in h1' h2 h3' ht
section
variable {K : PySem.W.Frag} {fa : Nat → V → Prop} {H H0 H1 H' : Hp} {Z Z0 Z1 Z' : Addr → Prop} {σ σ' : L2.St} {env env0 env1 : Env} {rs : List Rv} {vs : List V} {ws : List W}
/-- new lists are frozen -/
theorem Mid.lessN (m : Mid K fa σ H0 Z0 env0 H Z env) {N : Addr → Prop} (h : ∀ a, N a → H0 a = none) : Mid K fa σ H0 Z0 env0 H (fun a => Z a ∧ ¬ N a) env := by
  have no : ∀ i a, ownd env i → σ[i]? = some (some (V.ref a)) → ¬ N a := fun i a o e q => by
    obtain ⟨us, z⟩ := m.sl i a o e
    rw [h a q] at z; cases z
  have s : ∀ a, (Z a ∧ ¬ N a) → Z a := fun a q => q.1
  refine ⟨⟨m.st.keep, m.st.dom, fun a z q => ⟨m.st.zold a z q, fun n => ?_⟩, fun a z => m.st.znew a z.1, m.st.mnew, m.st.muz, m.st.zl⟩, m.mo, m.mw, m.sl, m.kk, ⟨fun i w e => ?_, m.ok.apart, fun a z => m.ok.zl a z.1, m.ok.len⟩⟩
  · obtain ⟨us, e⟩ := m.st.zl a z
    rw [h a n] at e; cases e
  · obtain ⟨v, e1, e2⟩ := m.ok.nm i w e
    refine ⟨v, e1, ?_⟩
    cases w with
    | d x => exact Fz.sub s e2
    | l xs =>
      obtain ⟨a, us, rfl, q1, q2, q3⟩ := e2
      exact ⟨a, us, rfl, q1, ⟨q2, no i a ⟨xs, .inl e⟩ e1⟩, q3.sub s⟩
    | k xs =>
      obtain ⟨a, us, rfl, q1, q2, q3⟩ := e2
      exact ⟨a, us, rfl, q1, ⟨q2, no i a ⟨xs, .inr e⟩ e1⟩, q3.sub s⟩
    | r xs =>
      obtain ⟨a, us, rfl, q1, q3⟩ := e2
      exact ⟨a, us, rfl, q1, q3.sub s⟩
    | f n => exact e2
/-- the arguments, as the callee takes them -/
theorem lend_ok (m : Mid K fa σ H0 Z0 env0 H Z env) (h : RvsOk K fa H0 H Z σ rs vs) (e : lend env rs [] = some ws) : ∃ Z1, Mid K fa σ H0 Z0 env0 H Z1 env ∧ Eok K fa H Z1 (vs.map some) (ws.map some) ∧ (∀ xs, W.k xs ∉ ws) ∧ (∀ a, Own (vs.map some) (ws.map some) a → Own σ env a) ∧
    ∀ (j i : Nat) (xs : List PyData), rs[j]? = some (Rv.p i) → env[i]? = some (some (W.l xs)) → ws[j]? = some (W.l xs) ∧ σ[i]? = (vs.map some)[j]? := by
  obtain ⟨h1, h2, _, h4⟩ := lend_get e
  have m1 := m.lessN (N := Nw rs vs) fun a q => (h.nw q).2.1
  have hlen := h.length
  have back : ∀ j w, ws[j]? = some w → ∃ r v, rs[j]? = some r ∧ vs[j]? = some v ∧ LendR env r w ∧ RvOk K fa H0 H Z σ r v := fun j w ej => by
    have hj : j < rs.length := by rw [← h1]; exact (List.getElem?_eq_some_iff.mp ej).1
    obtain ⟨w', e1, e2⟩ := h2 j rs[j] (List.getElem?_eq_getElem hj)
    rw [ej] at e1; cases e1
    obtain ⟨v, e3, e4⟩ := h.get (List.getElem?_eq_getElem hj)
    exact ⟨_, v, List.getElem?_eq_getElem hj, e3, e2, e4⟩
  have pl : ∀ (j : Nat) (xs : List PyData), ws[j]? = some (W.l xs) → ∃ i, rs[j]? = some (Rv.p i) ∧ env[i]? = some (some (W.l xs)) ∧ σ[i]? = (vs.map some)[j]? := fun j xs ej => by
    obtain ⟨r, v, e1, e2, e3, e4⟩ := back j _ ej
    cases e3 with
    | pl q =>
      refine ⟨_, e1, q, ?_⟩
      have e4 : σ[_]? = some (some v) := e4
      rw [e4, map_some.mpr e2]
  refine ⟨_, m1, ⟨fun j w ej => ?_, fun j j' a o1 o2 e1 e2 => ?_, m1.ok.zl, by rw [List.length_map, List.length_map, h1, hlen]⟩, fun xs q => ?_, fun a ⟨j, xs, e1, e2⟩ => ?_, fun j i xs e1 e2 => ?_⟩
  · obtain ⟨r, v, e1, e2, e3, e4⟩ := back j w (map_some.mp ej)
    refine ⟨v, map_some.mpr e2, ?_⟩
    have s : ∀ a, (Z a ∧ ¬ Nw rs vs a) → Z a := fun a q => q.1
    cases e3 with
    | v x => exact Fz.sub s e4
    | n xs =>
      obtain ⟨a, us, rfl, q1, q2, q3, q4⟩ := e4
      exact .lst q1 (fun z => z.2 ⟨j, xs, e1, e2⟩) (q4.sub s)
    | r xs =>
      obtain ⟨a, us, rfl, q1, q3⟩ := e4
      exact ⟨a, us, rfl, q1, q3.sub s⟩
    | f n => exact e4
    | pl q =>
      obtain ⟨u, q1, q2⟩ := m1.ok.nm _ _ q
      have e4 : σ[_]? = some (some v) := e4
      rw [e4] at q1
      cases q1
      exact q2
    | pd q =>
      obtain ⟨u, q1, q2⟩ := m1.ok.nm _ _ q
      have e4 : σ[_]? = some (some v) := e4
      rw [e4] at q1
      cases q1
      exact q2
  · have lk : ∀ j, ownd (ws.map some) j → ∃ xs, ws[j]? = some (W.l xs) := fun j ⟨xs, q⟩ => by
      rcases q with q | q
      · exact ⟨xs, map_some.mp q⟩
      · obtain ⟨r, v, _, _, e3, _⟩ := back j _ (map_some.mp q)
        cases e3
    obtain ⟨xs, q1⟩ := lk j o1
    obtain ⟨ys, q2⟩ := lk j' o2
    obtain ⟨i, p1, p2, p3⟩ := pl j xs q1
    obtain ⟨i', p1', p2', p3'⟩ := pl j' ys q2
    have : i = i' := m.ok.apart i i' a ⟨xs, .inl p2⟩ ⟨ys, .inl p2'⟩ (by rw [p3]; exact e1) (by rw [p3']; exact e2)
    subst this
    exact h4 j j' i xs p1 p1' p2
  · obtain ⟨j, hj, e⟩ := List.mem_iff_getElem.mp q
    obtain ⟨r, v, _, _, e3, _⟩ := back j (W.k xs) (by rw [List.getElem?_eq_getElem hj, e])
    cases e3
  · obtain ⟨i, p1, p2, p3⟩ := pl j xs (map_some.mp e1)
    exact ⟨i, xs, p2, by rw [p3]; exact e2⟩
  · obtain ⟨w, q1, q2⟩ := h2 j _ e1
    cases q2 with
    | pl q =>
      rw [e2] at q
      cases q
      obtain ⟨i', p1, p2, p3⟩ := pl j xs q1
      rw [e1] at p1
      cases p1
      exact ⟨q1, p3⟩
    | pd q => rw [e2] at q; cases q
/-- behind the call -/
theorem back_ok {os : List (Option W)} (m : Mid K fa σ H0 Z0 env0 H Z env) (ol : os.length = rs.length) (e : lend env rs [] = some ws) (own : ∀ a, Own (vs.map some) (ws.map some) a → Own σ env a)
    (pos : ∀ (j i : Nat) (xs : List PyData), rs[j]? = some (Rv.p i) → env[i]? = some (some (W.l xs)) → ws[j]? = some (W.l xs) ∧ σ[i]? = (vs.map some)[j]?)
    (s : Sm (fun _ => False) K fa (vs.map some) H Z (ws.map some) (vs.map some) H' Z' (outE ws os)) (nk : ∀ xs, W.k xs ∉ ws) : Mid K fa σ H0 Z0 env0 H' Z' (back env rs os) := by
  obtain ⟨h1, h2, _, h4⟩ := lend_get e
  -- each name: lent or not
  have cs : ∀ i : Nat, (∃ (j : Nat) (xs : List PyData) (o : Option W), rs[j]? = some (Rv.p i) ∧ env[i]? = some (some (W.l xs)) ∧ ws[j]? = some (W.l xs) ∧ os[j]? = some o ∧ (outE ws os)[j]? = some o ∧ (back env rs os)[i]? = some o ∧ σ[i]? = (vs.map some)[j]?) ∨ ((∀ (j : Nat) (xs : List PyData), rs[j]? = some (Rv.p i) → env[i]? ≠ some (some (W.l xs))) ∧ (back env rs os)[i]? = env[i]?) := fun i => by
    by_cases q : ∃ (j : Nat) (xs : List PyData), rs[j]? = some (Rv.p i) ∧ env[i]? = some (some (W.l xs))
    · obtain ⟨j, xs, q1, q2⟩ := q
      obtain ⟨p1, p2⟩ := pos j i xs q1 q2
      have hj : j < os.length := by rw [ol]; exact (List.getElem?_eq_some_iff.mp q1).1
      refine .inl ⟨j, xs, os[j], q1, q2, p1, List.getElem?_eq_getElem hj, ?_, back_in q1 q2 (List.getElem?_eq_getElem hj) fun j' e' => h4 j' j i xs e' q1 q2, p2⟩
      have aux : ∀ {ws : List W} {os : List (Option W)} {j : Nat} {xs : List PyData} {o : Option W}, ws[j]? = some (W.l xs) → os[j]? = some o → (outE ws os)[j]? = some o := by
        intro ws
        induction ws with
        | nil => intro os j xs o h; simp at h
        | cons w ws ih =>
          intro os j xs o h h'
          cases os with
          | nil => simp at h'
          | cons o' os =>
            cases j with
            | zero => simp at h h'; subst h h'; rfl
            | succ j =>
              have := ih (os := os) (j := j) (xs := xs) (o := o) (by simpa using h) (by simpa using h')
              cases w <;> simpa [outE] using this
      exact aux p1 (List.getElem?_eq_getElem hj)
    · have q : ∀ (j : Nat) (xs : List PyData), rs[j]? = some (Rv.p i) → env[i]? ≠ some (some (W.l xs)) := fun j xs a b => q ⟨j, xs, a, b⟩
      exact .inr ⟨q, back_out q⟩
  have own2 : ∀ b, Own σ (back env rs os) b → Own σ env b := fun b ⟨i, zs, q1, q2⟩ => by
    rcases cs i with ⟨j, xs, o, p1, p2, _⟩ | ⟨_, p⟩
    · exact ⟨i, xs, p2, q2⟩
    · exact ⟨i, zs, by rw [← p]; exact q1, q2⟩
  have mw2 : ∀ i, ownd (back env rs os) i → ownd env i := fun i ⟨zs, q⟩ => by
    rcases cs i with ⟨j, xs, o, p1, p2, _⟩ | ⟨_, p⟩
    · exact ⟨xs, .inl p2⟩
    · rw [p] at q; exact ⟨zs, q⟩
  have notMu : ∀ i a, ownd env i → (∀ (j : Nat) (xs : List PyData), rs[j]? = some (Rv.p i) → env[i]? ≠ some (some (W.l xs))) → σ[i]? = some (some (V.ref a)) → ¬ Own (vs.map some) (ws.map some) a := fun i a o nl ei ⟨j, xs, q1, q2⟩ => by
    have hj : j < rs.length := by rw [← h1]; exact (List.getElem?_eq_some_iff.mp (map_some.mp q1)).1
    obtain ⟨w, p1, p2⟩ := h2 j rs[j] (List.getElem?_eq_getElem hj)
    rw [map_some.mp q1] at p1
    cases p1
    generalize hr : rs[j] = r at p2
    cases p2 with
    | @pl k ys q =>
      have er : rs[j]? = some (Rv.p k) := by rw [List.getElem?_eq_getElem hj, hr]
      obtain ⟨_, p4⟩ := pos j k _ er q
      have : i = k := m.ok.apart i k a o ⟨_, .inl q⟩ ei (by rw [p4]; exact q2)
      subst this
      exact nl j _ er q
  refine ⟨?_, fun a q => m.mo a (own2 a q), fun i q => m.mw i (mw2 i q), fun i a q ei => m.sl i a (mw2 i q) ei, fun i xs q => ?_, ⟨fun i w q => ?_, fun i j a o1 o2 => m.ok.apart i j a (mw2 i o1) (mw2 j o2), s.ok.zl, by rw [back_len]; exact m.ok.len⟩⟩
  · refine m.st.trans ⟨fun a o h n => s.st.keep a o h fun z => n (own a z), s.st.dom, fun a h n => s.st.zold a h fun z => n (own a z), s.st.znew, fun a q => .inl (own2 a q), m.ok.muz, m.ok.zl⟩
  · rcases cs i with ⟨j, ys, o, p1, p2, p3, p4, p5, p6, p7⟩ | ⟨_, p⟩
    · rw [p6] at q
      cases q
      have := (s.kk j xs p5).1
      rw [map_some] at this
      exact (nk xs (List.mem_of_getElem? this)).elim
    · rw [p] at q; exact m.kk i xs q
  · rcases cs i with ⟨j, ys, o, p1, p2, p3, p4, p5, p6, p7⟩ | ⟨nl, p⟩
    · rw [p6] at q
      cases q
      obtain ⟨v, e1, e2⟩ := s.ok.nm j w p5
      exact ⟨v, by rw [p7]; exact e1, e2⟩
    · rw [p] at q
      obtain ⟨v, e1, e2⟩ := m.ok.nm i w q
      refine ⟨v, e1, ?_⟩
      cases w with
      | d x => exact Fz.step s.st e2
      | l xs =>
        obtain ⟨a, us, rfl, q1, q2, q3⟩ := e2
        have n := notMu i a ⟨xs, .inl q⟩ nl e1
        exact ⟨a, us, rfl, s.st.keep a _ q1 n, s.st.zold a q2 n, q3.step s.st⟩
      | k xs =>
        obtain ⟨a, us, rfl, q1, q2, q3⟩ := e2
        have n := notMu i a ⟨xs, .inr q⟩ nl e1
        exact ⟨a, us, rfl, s.st.keep a _ q1 n, s.st.zold a q2 n, q3.step s.st⟩
      | r xs =>
        obtain ⟨a, us, rfl, q1, q3⟩ := e2
        exact ⟨a, us, rfl, RdL.step s.st q1, q3.step s.st⟩
      | f n => exact e2
end
/-- a call of a def -/
theorem s_call_rd {X : Cx} {fa : Nat → V → Prop} {EX : Nat → PyData → Hp → XK → Prop} {G : Tab} {E : XK} {n ar : Nat} {sm : Sem} {ms : List ME} (hG : G n = some sm) (har : ∀ env p, evs G ms env = .ok p → p.2.length = ar) {σ : L2.St} {H : Hp} {Q : VK}
    (hh : tE X.K fa (fun c a _ H' => EX c a H' E) G (.call n ms) σ H Q) : tFn (spS X.K fa EX ar sm) E (tA X.K fa (fun c a _ H' => EX c a H' E) G ms) σ H Q := by
  obtain ⟨Z, env, ok, h⟩ := hh
  unfold ev at h
  rw [hG] at h
  dsimp only at h
  have hl0 : ∀ p, evs G ms env = .ok p → p.2.length = ar := har env
  refine ⟨Z, env, ok, ?_⟩
  revert h hl0
  cases evs G ms env with
  | bad => exact fun z _ => z
  | ex c a => exact fun z _ => z
  | ok p =>
    intro hf hl0
    have hl0 := hl0 p rfl
    intro Z1 H1 vs m hr
    simp only [Rs.bind] at hf
    unfold callW at hf
    cases hl : lend p.1 p.2 [] with
    | none => rw [hl] at hf; exact hf.elim
    | some ws =>
      rw [hl] at hf
      dsimp only at hf
      obtain ⟨Z2, m2, okA, nk, own, pos⟩ := lend_ok m hr hl
      have hlen := hr.length
      refine ⟨by omega, Z2, ws, okA, nk, ?_⟩
      revert hf
      cases sm ws with
      | bad => exact fun z => z
      | ex c a =>
        dsimp only
        split
        · intro hf Mu' Z' H' s
          refine hf Mu' Z' H' (m2.st.trans ⟨fun b o q n => s.keep b o q fun z => n (own b z), s.dom, fun b q n => s.zold b q fun z => n (own b z), s.znew, fun b q => ?_, m2.ok.muz, m2.ok.zl⟩)
          rcases s.mnew b q with q | q
          · exact .inl (own b q)
          · exact .inr q
        · exact fun z => z.elim
      | ok q =>
        obtain ⟨r, os⟩ := q
        dsimp only
        split
        · rename_i ho
          intro hf _ Z' H' v s hv
          refine hf Z' H' v (back_ok m2 ho hl own pos s nk) ?_
          cases r with
          | v x => exact hv
          | n xs =>
            obtain ⟨a, us, rfl, q1, q2, q3, q4⟩ := hv
            exact ⟨a, us, rfl, q1, q2, m2.fresh q3, q4⟩
          | p i => exact absurd (show ([] : L2.St)[i]? = some (some v) from hv) (by simp)
          | r xs => exact hv
          | f k => exact hv
        · exact fun z => z.elim
theorem s_call {X : Cx} {fa : Nat → V → Prop} {EX : Nat → PyData → Hp → XK → Prop} {G : Tab} {E : XK} {n ar : Nat} {sm : Sem} {e : Expr} {ms : List ME} (hG : G n = some sm) (hP : PE X e (tFn (spS X.K fa EX ar sm) E (tA X.K fa (fun c a _ H' => EX c a H' E) G ms))) (har : ∀ env p, evs G ms env = .ok p → p.2.length = ar) :
    PE X e (tE X.K fa (fun c a _ H' => EX c a H' E) G (.call n ms)) := PE.weak hP fun σ H Q h => s_call_rd hG har h
theorem evs_len {G : Tab} : ∀ {ms : List ME} {env : Env} {p : Env × List Rv}, evs G ms env = .ok p → p.2.length = ms.length
  | [], env, p, h => by unfold evs at h; cases h; rfl
  | m :: ms, env, p, h => by
    unfold evs at h
    cases h1 : ev G m env with
    | bad => rw [h1] at h; cases h
    | ex c a => rw [h1] at h; cases h
    | ok q =>
      rw [h1] at h
      simp only [Rs.bind] at h
      cases h2 : evs G ms q.1 with
      | bad => rw [h2] at h; cases h
      | ex c a => rw [h2] at h; cases h
      | ok t =>
        rw [h2] at h
        cases h
        show t.2.length + 1 = ms.length + 1
        rw [evs_len h2]
theorem lend_len : ∀ {rs : List Rv} {env : Env} {ls : List Nat} {ws : List W}, lend env rs ls = some ws → ws.length = rs.length
  | [], _, _, ws, h => by cases h; rfl
  | .v x :: r, env, ls, ws, h => by
    obtain ⟨us, h1, rfl⟩ := Option.map_eq_some_iff.mp (show (lend env r ls).map (.d x :: ·) = some ws from h)
    rw [List.length_cons, List.length_cons, lend_len h1]
  | .n xs :: r, env, ls, ws, h => by
    obtain ⟨us, h1, rfl⟩ := Option.map_eq_some_iff.mp (show (lend env r ls).map (.d (.list xs) :: ·) = some ws from h)
    rw [List.length_cons, List.length_cons, lend_len h1]
  | .r xs :: r, env, ls, ws, h => by
    obtain ⟨us, h1, rfl⟩ := Option.map_eq_some_iff.mp (show (lend env r ls).map (.r xs :: ·) = some ws from h)
    rw [List.length_cons, List.length_cons, lend_len h1]
  | .f n :: r, env, ls, ws, h => by
    obtain ⟨us, h1, rfl⟩ := Option.map_eq_some_iff.mp (show (lend env r ls).map (.f n :: ·) = some ws from h)
    rw [List.length_cons, List.length_cons, lend_len h1]
  | .p i :: r, env, ls, ws, h => by
    unfold lend at h
    split at h
    · cases h
    · split at h
      · obtain ⟨us, h1, rfl⟩ := Option.map_eq_some_iff.mp h
        rw [List.length_cons, List.length_cons, lend_len h1]
      · obtain ⟨us, h1, rfl⟩ := Option.map_eq_some_iff.mp h
        rw [List.length_cons, List.length_cons, lend_len h1]
      · cases h
/-- a call of what a name holds -/
theorem s_callv {X : Cx} {fa : Nat → V → Prop} {EX : Nat → PyData → Hp → XK → Prop} {G : Tab} {E : XK} {tb : List (Str × Nat)} {i : Nat} {e : Expr} {ms : List ME} (hP : PE X e (tFnV X E i (tA X.K fa (fun c a _ H' => EX c a H' E) G ms)))
    (hv : ∀ x n f sm, tb.lookup x = some n → PySem.W.nsIn X.K mainGlobals x = some (some (.ref f)) → G n = some sm → ∃ (fd : FuncData) (ps : List Str) (k ar : Nat) (CX : CXT), FnG X.prog X.w X.K X.mg X.base CX k f fd ps (spS X.K fa EX ar sm) ∧ Room k X.A ∧ PySem.W.keepIn X.K (.ref f) = true ∧ Binds X.K fd ps [] ∧ Passes CX X E ∧ ∀ ws, ws.length ≠ ar → sm ws = .bad) :
    PE X e (tE X.K fa (fun c a _ H' => EX c a H' E) G (.callv tb i ms)) := by
  refine PE.weak hP fun σ H Q ⟨Z, env, ok, h⟩ => ?_
  unfold ev at h
  split at h <;> try (exact h.elim)
  rename_i x hn
  cases hT : tb.lookup x with
  | none => rw [hT] at h; exact h.elim
  | some n =>
  rw [hT] at h
  dsimp only at h
  cases hG : G n with
  | none => rw [hG] at h; exact h.elim
  | some sm =>
    rw [hG] at h
    dsimp only at h
    obtain ⟨v, e1, fv⟩ := ok.nm i _ hn
    obtain ⟨f, rfl, hns⟩ : ∃ f, v = V.ref f ∧ PySem.W.nsIn X.K mainGlobals x = some (some (.ref f)) := by
      have fv : Fz X.K H Z v (.dict [(.str x, .none)]) := fv
      cases fv with
      | fn h => exact ⟨_, rfl, h⟩
    obtain ⟨fd, ps, k, ar, CX, F, hr, hk, hb, hx, hbad⟩ := hv x n f sm hT hns hG
    refine ⟨f, fd, ps, _, k, CX, e1, F, hr, hk, hb, hx, ?_⟩
    by_cases hl : ms.length = ar
    · refine s_call_rd hG (fun env p hp => by rw [evs_len hp]; exact hl) ⟨Z, env, ok, ?_⟩
      unfold ev
      rw [hG]
      exact h
    · refine ⟨Z, env, ok, ?_⟩
      revert h
      cases he : evs G ms env with
      | bad => exact fun z => z
      | ex c a => exact fun z => z
      | ok p =>
        intro h
        exfalso
        simp only [Rs.bind] at h
        unfold callW at h
        cases hq : lend p.1 p.2 [] with
        | none => rw [hq] at h; exact h.elim
        | some ws =>
          rw [hq] at h
          dsimp only at h
          rw [hbad ws (by rw [lend_len hq, evs_len he]; exact hl)] at h
          exact h.elim
end Ev

/-! Ev, part U: the translation of a text's expressions. -/
namespace Ev
open PySem PySem.Spec L2 PyProof.Rows

def ixOf : List Str → Str → Option Nat
  | [], _ => none
  | y :: r, x => if y = x then some 0 else (ixOf r x).map (· + 1)
def visB (sc : Scope) (x : Str) : Bool := match sc.names.lookup x with
  | some .local => true
  | some .cell => true
  | some .free => true
  | _ => false
def locB (sc : Scope) (fv : Str → Bool) (x : Str) : Bool := match sc.names.lookup x with
  | some .local => true
  | some .cell => fv x
  | _ => false
def lclB (sc : Scope) (x : Str) : Bool := match sc.names.lookup x with
  | some .local => true
  | _ => false
def glB (sc : Scope) (x : Str) : Bool := match sc.names.lookup x with
  | some .globalImplicit => true
  | _ => false
def nmOk (x : Str) : Bool := !(x == ("__debug__" : Str)) && !(x == ("__classdict__" : Str))
def bopR : Operator → Option BOp
  | .Add => some .add | .Sub => some .sub | .Mult => some .mul | .FloorDiv => some .fdiv | .Mod => some .mod | .Pow => some .pow
  | _ => none
def copR : CmpOp → Option COp
  | .Eq => some .eq | .NotEq => some .ne | .Lt => some .lt | .LtE => some .le | .Gt => some .gt | .GtE => some .ge | .Is => some .isN | .IsNot => some .notN | .In => some .inn | .NotIn => some .nin
theorem bopR_of {o : Operator} {p : BOp} (h : bopR o = some p) : opOf p = o := by cases o <;> cases h <;> rfl
theorem copR_of {o : CmpOp} {p : COp} (h : copR o = some p) : cmpOf p = o := by cases o <;> cases h <;> rfl
def many (f : Expr → Option ME) : List Expr → Option (List ME)
  | [] => some []
  | e :: es => match f e, many f es with
    | some m, some ms => some (m :: ms)
    | _, _ => none
def opt (f : Expr → Option ME) : Option Expr → Option (Option ME)
  | none => some none
  | some e => (f e).map some
def conR : Const → Option PyData
  | .none => some .none
  | .bool b => some (.bool b)
  | .int i => some (.int i)
  | .str x => some (.str x)
  | _ => none
/-- built-in functions of one; built-in types of one -/
def fn1 : List (Str × B1) := [("len", .len), ("all", .all), ("any", .any), ("sum", .sum), ("min", .min), ("max", .max), ("sorted", .sorted), ("abs", .abs), ("repr", .repr)]
def ty1 : List (Str × B1) := [("tuple", .tuple), ("list", .list), ("int", .int)]
def fn2 : List (Str × B2) := [("max", .max), ("min", .min)]
def tyR : List (Str × Ty) := [("int", .int), ("bool", .bool), ("str", .str), ("tuple", .tuple)]
def known : List Str := ["len", "all", "any", "sum", "min", "max", "sorted", "abs", "repr", "tuple", "list", "int", "bool", "str", "isinstance", "range", "enumerate", "zip"]
/-- the targets -/
def trG (N : List Str) (sc : Scope) (fv : Str → Bool) : Nat → Expr → Option Tgt
  | 0, _ => none
  | n + 1, e => match e with
    | .Name x _ => if locB sc fv x then (ixOf N x).map .n else none
    | .Tuple es _ _ => (go N sc fv n es).map .t
    | _ => none
where
  go (N : List Str) (sc : Scope) (fv : Str → Bool) (n : Nat) : List Expr → Option (List Tgt)
    | [] => some []
    | e :: es => match trG N sc fv n e, go N sc fv n es with
      | some t, some ts => some (t :: ts)
      | _, _ => none
/-- what is walked -/
def trI (f : Expr → Option ME) (sc : Scope) (tup : Bool) (it : Expr) : Option (Nat × List ME) := match it with
  | .Call (.Name x _) as [] _ => if glB sc x then
      if x = "range" then match as, many f as with
        | [_], some ms => some (1, ms)
        | [_, _], some ms => some (2, ms)
        | [_, _, _], some ms => some (3, ms)
        | _, _ => none
      else if x = "enumerate" then match as, tup, many f as with
        | [_], true, some ms => some (4, ms)
        | _, _, _ => none
      else if x = "zip" then match as, tup, many f as with
        | [_, _], true, some ms => some (5, ms)
        | [_, _, _], true, some ms => some (6, ms)
        | _, _, _ => none
      else (f it).map fun m => (0, [m])
    else (f it).map fun m => (0, [m])
  | it => (f it).map fun m => (0, [m])
def isTup : Expr → Bool
  | .Tuple _ _ _ => true
  | _ => false
def isSlc : Expr → Bool
  | .Slice _ _ _ _ => true
  | _ => false
/-- a block's own names with their places -/
def ownOf (N : List Str) (scope : Scope) : List (Str × Nat) := scope.names.filterMap fun y => match y.2 with
  | .local => (ixOf N y.1).map fun i => (y.1, i)
  | .cell => (ixOf N y.1).map fun i => (y.1, i)
  | _ => none
def blkFn (scope : Scope) : Str → Bool := fun x => scope.names.lookup x == some .cell
section
variable (N : List Str) (fs : List (Str × Nat × Nat)) (cs : List (Str × PyData))
/-- the defs' numbers by their names -/
def tbl (fs : List (Str × Nat × Nat)) : List (Str × Nat) := fs.map fun e => (e.1, e.2.1)
theorem tbl_of {x : Str} {n : Nat} : ∀ {fs : List (Str × Nat × Nat)}, (tbl fs).lookup x = some n → ∃ ar, fs.lookup x = some (n, ar)
  | [], h => by cases h
  | (y, m, ar) :: fs, h => by
    have h : List.lookup x ((y, m) :: tbl fs) = some n := h
    rw [List.lookup_cons] at h
    rw [List.lookup_cons]
    split at h
    · rename_i q; cases h; exact ⟨ar, rfl⟩
    · rename_i q; obtain ⟨ar', e⟩ := tbl_of h; exact ⟨ar', e⟩
def trCall (N : List Str) (f : Expr → Option ME) (sc : Scope) (x : Str) (as : List Expr) : Option ME :=
  if glB sc x && nmOk x && !(x == ("__name__" : Str)) then match fs.lookup x with
    | some (n, ar) => match many f as with
      | some ms => if ms.length = ar then some (.call n ms) else none
      | none => none
    | none => match as with
      | [a] => match fn1.lookup x with
        | some o => (f a).map (.b1 o)
        | none => match ty1.lookup x with
          | some .list => match a with
            | .Call (.Name y _) [b, c] [] _ => if y = "range" ∧ glB sc y = true then match f b, f c with
                | some mb, some mc => some (.lrg mb mc)
                | _, _ => none
              else (f a).map (.b1 .list)
            | .Call (.Name y _) [b] [] _ => if y = "range" ∧ glB sc y = true then match f b with
                | some mb => some (.lrg (.c (.int 0)) mb)
                | none => none
              else (f a).map (.b1 .list)
            | a => (f a).map (.b1 .list)
          | some o => (f a).map (.b1 o)
          | none => none
      | [a, b] => if x = "isinstance" then match b with
          | .Name y _ => if glB sc y && !(y == ("__name__" : Str)) && nmOk y then match f a, tyR.lookup y with
              | some ma, some t => some (.isi ma t)
              | _, _ => none
            else none
          | _ => none
        else match fn2.lookup x, f a, f b with
          | some o, some ma, some mb => some (.b2 o ma mb)
          | _, _, _ => none
      | _ => none
  else if visB sc x && nmOk x then match as with
    | [] => none
    | a :: as => match ixOf N x, many f (a :: as) with
      | some i, some ms => some (.callv (tbl fs) i ms)
      | _, _ => none
  else none
def trMeth (f : Expr → Option ME) (sc : Scope) (x m : Str) (ok : Bool) (as : List Expr) : Option ME :=
  if visB sc x && nmOk x && ok then match ixOf N x, as with
    | some i, [a] => match f a with
      | some ma => if m = "append" then some (.app i ma) else if m = "extend" then some (.ext i ma) else if m = "pop" then some (.popA i ma) else if m = "index" then some (.idx i ma) else none
      | none => none
    | _, _ => none
  else none
mutual
def trE : Nat → Scope → (Str → Bool) → Expr → Option ME
  | 0, _, _, _ => none
  | n + 1, sc, fv, e => match e with
    | .Constant c _ _ => (conR c).map .c
    | .Name x _ => if visB sc x && nmOk x then (ixOf N x).map .v else if glB sc x && nmOk x then match cs.lookup x with
        | some d => some (.c d)
        | none => (fs.lookup x).map fun p => .fn p.1
      else none
    | .Tuple es _ _ => (many (trE n sc fv) es).map .tup
    | .List es _ => (many (trE n sc fv) es).map .lst
    | .BinOp a o b _ => match bopR o, trE n sc fv a, trE n sc fv b with
      | some p, some ma, some mb => some (.bin p ma mb)
      | _, _, _ => none
    | .UnaryOp .USub a _ => (trE n sc fv a).map .neg
    | .UnaryOp .Not a _ => (trE n sc fv a).map .not
    | .Compare a [o] [b] _ => match copR o, trE n sc fv a, trE n sc fv b with
      | some p, some ma, some mb => if behindInMarks o b then none else some (.cmp p ma mb)
      | _, _, _ => none
    | .Compare a [o, o'] [b, c] _ => match copR o, copR o', trE n sc fv a, trE n sc fv b, trE n sc fv c with
      | some p, some p', some ma, some mb, some mc => if lastMarks [o, o'] [b, c] then none else some (.chn p p' ma mb mc)
      | _, _, _, _, _ => none
    | .BoolOp _ [a] _ => trE n sc fv a
    | .BoolOp .And (a :: b :: r) pos => match trE n sc fv a, trE n sc fv (.BoolOp .And (b :: r) pos) with
      | some ma, some mb => some (.and ma mb)
      | _, _ => none
    | .BoolOp .Or (a :: b :: r) pos => match trE n sc fv a, trE n sc fv (.BoolOp .Or (b :: r) pos) with
      | some ma, some mb => some (.or ma mb)
      | _, _ => none
    | .IfExp t a b _ => match trT n sc fv t, trE n sc fv a, trE n sc fv b with
      | some mt, some ma, some mb => some (.ife mt ma mb)
      | _, _, _ => none
    | .Subscript a (.Slice none none (some (.UnaryOp .USub (.Constant (.int 1) _ _) _)) _) _ => (trE n sc fv a).map .rev
    | .Subscript a (.Slice lo hi none _) _ => match trE n sc fv a, opt (trE n sc fv) lo, opt (trE n sc fv) hi with
      | some ma, some ml, some mh => some (.slc ma ml mh)
      | _, _, _ => none
    | .Subscript a b _ => if isSlc b then none else match trE n sc fv a, trE n sc fv b with
      | some ma, some mb => some (.sub ma mb)
      | _, _ => none
    | .Call (.Name x _) as [] _ => trCall fs N (trE n sc fv) sc x as
    | .Call (.Attribute (.Name x _) m p2) as [] pos => trMeth N (trE n sc fv) sc x m (p2.endLine == pos.line) as
    | .ListComp elt [⟨tg, it, ifs, 0⟩] scope _ => match trG N (relS scope sc) (blkFn scope) n tg, trI (trE n sc fv) sc (isTup tg) it, trE n (relS scope sc) (blkFn scope) elt with
      | some t, some (w, its), some me => match ifs with
        | [] => if blkC N sc scope (ownOf N scope) && (stoT t).all ((ownOf N scope).map (·.2)).contains then some (.lc ((ownOf N scope).map (·.2)) t w its [] me) else none
        | [c] => match trT n (relS scope sc) (blkFn scope) c with
          | some mc => if blkC N sc scope (ownOf N scope) && (stoT t).all ((ownOf N scope).map (·.2)).contains then some (.lc ((ownOf N scope).map (·.2)) t w its [mc] me) else none
          | none => none
        | _ => none
      | _, _, _ => none
    | _ => none
def trT : Nat → Scope → (Str → Bool) → Expr → Option ME
  | 0, _, _, _ => none
  | n + 1, sc, fv, e => match e with
    | .UnaryOp .Not a _ => (trT n sc fv a).map .not
    | .BoolOp .And [a] _ => trT n sc fv a
    | .BoolOp .Or [a] _ => trT n sc fv a
    | .BoolOp .And (a :: b :: r) pos => match trT n sc fv a, trT n sc fv (.BoolOp .And (b :: r) pos) with
      | some ma, some mb => some (.and ma mb)
      | _, _ => none
    | .BoolOp .Or (a :: b :: r) pos => match trT n sc fv a, trT n sc fv (.BoolOp .Or (b :: r) pos) with
      | some ma, some mb => some (.or ma mb)
      | _, _ => none
    | .BoolOp _ _ _ => none
    | .IfExp _ _ _ _ => none
    | .Compare a [o] [b] _ => match copR o, trE n sc fv a, trE n sc fv b with
      | some p, some ma, some mb => if behindInMarks o b then none else some (.cmp p ma mb)
      | _, _, _ => none
    | .Compare a [o, o'] [b, c] _ => match copR o, copR o', trE n sc fv a, trE n sc fv b, trE n sc fv c with
      | some p, some p', some ma, some mb, some mc => if lastMarks [o, o'] [b, c] then none else some (.chn p p' ma mb mc)
      | _, _, _, _, _ => none
    | .Compare a [o, o', o''] [b, c, d] _ => match copR o, copR o', copR o'', trE n sc fv a, trE n sc fv b, trE n sc fv c, trE n sc fv d with
      | some p, some p', some p'', some ma, some mb, some mc, some md => if lastMarks [o, o', o''] [b, c, d] then none else some (.ch3 p p' p'' ma mb mc md)
      | _, _, _, _, _, _, _ => none
    | .Compare _ _ _ _ => none
    | e => trE n sc fv e
end
end
/-- the context in which a text is evaluated -/
def FnK (X : Cx) (fa : Nat → V → Prop) (EX : Nat → PyData → Hp → XK → Prop) (G : Tab) (x : Str) (n ar : Nat) : Prop := ∃ (f : Addr) (fd : FuncData) (ps : List Str) (sm : Sem) (k : Nat), G n = some sm ∧ FnG X.prog X.w X.K X.mg X.base (L2.CX X.prog X.w) k f fd ps (spS X.K fa EX ar sm) ∧ Room k X.A ∧
  X.mg x = some (.ref f) ∧ PySem.W.keepIn X.K (.ref f) = true ∧ Binds X.K fd ps [] ∧ ∀ ws, ws.length ≠ ar → sm ws = .bad
structure Good (X : Cx) (fa : Nat → V → Prop) (EX : Nat → PyData → Hp → XK → Prop) (E : XK) (G : Tab) (N : List Str) (fs : List (Str × Nat × Nat)) (cs : List (Str × PyData)) (sc : Scope) (fv : Str → Bool) : Prop where
  hN : X.N = N
  nd : N.Nodup
  hsc : X.env.scope = sc
  fk : sc.kind = .function
  hfn : X.fn = fv
  calm : X.calm = true
  un : X.A.units + 66 < cLine
  gu : X.A.guards = some []
  bl : ∀ x ∈ known, X.mg x = none
  fns : ∀ x n ar, fs.lookup x = some (n, ar) → FnK X fa EX G x n ar
  tk : Takes X (fun cls d _ H => E cls d H)
  gn : ∀ x v, PySem.W.nsIn X.K mainGlobals x = some (some v) → X.mg x = some v
  vfn : ∀ x n ar f, fs.lookup x = some (n, ar) → X.mg x = some (.ref f) → fa n (V.ref f)
  cns : ∀ x d, cs.lookup x = some d → ∃ u v, X.mg x = some u ∧ RelV v u ∧ ∀ H Z, Fz X.K H Z v d
abbrev xx (EX : Nat → PyData → Hp → XK → Prop) (E : XK) : XW := fun c a _ H' => EX c a H' E
section
variable {X : Cx} {fa : Nat → V → Prop} {EX : Nat → PyData → Hp → XK → Prop} {E : XK} {G : Tab} {N : List Str} {fs : List (Str × Nat × Nat)} {cs : List (Str × PyData)} {sc : Scope} {fv : Str → Bool}
theorem Good.blk (g : Good X fa EX E G N fs cs sc fv) {scope : Scope} (hk : scope.kind = .function) (s : Shared) (H : Hp) (C : Addr) (cl : List (Str × Addr)) (fp : List Addr) : Good (X.blk s H scope (compEnvC scope cl C X.env) fp) fa EX (fun _ _ _ => False) G N fs cs (relS scope sc) (blkFn scope) := by
  refine ⟨g.hN, g.nd, ?_, hk, rfl, g.calm, g.un, g.gu, g.bl, fun x n ar h => ?_, fun u s' ⟨_, _, _, _, _, _, _, _, _, _, _, _, _, _, _, _, q⟩ => q.elim, g.gn, g.vfn, g.cns⟩
  · rw [← g.hsc]; rfl
  · obtain ⟨f, fd, ps, sm, k, h1, h2, h3, h4, h5, h6, h7⟩ := g.fns x n ar h
    exact ⟨f, fd, ps, sm, k, h1, h2, h3, h4, h5, h6, h7⟩
/-- what a callee lets out is taken -/
theorem Good.pass (g : Good X fa EX E G N fs cs sc fv) : Passes (L2.CX X.prog X.w) X E := L2.passes_call g.tk fun _ _ _ _ h => h
theorem ixOf_get : ∀ {N : List Str} {x : Str} {i : Nat}, ixOf N x = some i → N[i]? = some x
  | [], _, _, h => by cases h
  | y :: r, x, i, h => by
    unfold ixOf at h
    split at h
    · rename_i e
      cases h
      rw [e]; rfl
    · obtain ⟨j, h1, rfl⟩ := Option.map_eq_some_iff.mp h
      simpa using ixOf_get h1
theorem Good.vis (g : Good X fa EX E G N fs cs sc fv) {x : Str} (h : visB sc x = true) : Vis X.env.scope x := by
  unfold visB at h
  rw [g.hsc]
  split at h
  · rename_i e; exact .inl e
  · rename_i e; exact .inr (.inl e)
  · rename_i e; exact .inr (.inr e)
  · cases h
theorem Good.loc (g : Good X fa EX E G N fs cs sc fv) {x : Str} (h : locB sc fv x = true) : Loc X.env.scope x ∧ (X.fn x = true ∨ X.env.scope.names.lookup x = some .local) := by
  unfold locB at h
  rw [g.hsc, g.hfn]
  split at h
  · rename_i e; exact ⟨.inl e, .inr e⟩
  · rename_i e; exact ⟨.inr e, .inl h⟩
  · cases h
theorem Good.gl (g : Good X fa EX E G N fs cs sc fv) {x : Str} (h : glB sc x = true) : Gl X x := by
  unfold glB at h
  show X.env.scope.names.lookup x = _
  rw [g.hsc]
  split at h
  · rename_i e; exact e
  · cases h
theorem nmOk_of {x : Str} (h : nmOk x = true) : (x == ("__debug__" : Str)) = false ∧ (x == ("__classdict__" : Str)) = false := by
  unfold nmOk at h
  simpa using h
theorem Good.name (g : Good X fa EX E G N fs cs sc fv) {x : Str} {i : Nat} {p : Pos} (h : visB sc x = true) (hn : nmOk x = true) (hi : ixOf N x = some i) (XX : XW) : PE X (.Name x p) (tE X.K fa XX G (.v i)) :=
  s_v (by rw [g.hN]; exact ixOf_get hi) (g.vis h) (nmOk_of hn).1 (nmOk_of hn).2
end
end Ev

set_option maxHeartbeats 4000000
/-! Ev, part V: the translation of expressions is sound. -/
namespace Ev
open PySem PySem.Spec L2 PyProof.Rows
section
variable {X : Cx} {fa : Nat → V → Prop} {EX : Nat → PyData → Hp → XK → Prop} {E : XK} {G : Tab} {N : List Str} {fs : List (Str × Nat × Nat)} {cs : List (Str × PyData)} {sc : Scope} {fv : Str → Bool}
/-- no star -/
def nst : Expr → Bool
  | .Starred _ _ => false
  | _ => true
theorem star_of {a : Expr} {es : List Expr} {env : PySem.Env} (h : nst a = true) : starEach (a :: es) env = (false, eval a env) :: starEach es env := by
  cases a <;> first | rfl | cases h
theorem asgn_of {a : Expr} {es : List Expr} {env : PySem.Env} (h : nst a = true) : assignEach (a :: es) env = (false, assign a env) :: assignEach es env := by
  cases a <;> first | rfl | cases h
theorem plain_of {env : PySem.Env} {pos : Pos} : ∀ {es : List Expr}, (∀ a ∈ es, nst a = true) → (backTo pos (starEach es env)).any (·.1) = false
  | [], _ => rfl
  | a :: es, h => by
    rw [star_of (h a List.mem_cons_self)]
    show (false || (backTo pos (starEach es env)).any (·.1)) = false
    rw [plain_of fun b hb => h b (List.mem_cons_of_mem _ hb)]
    rfl
theorem many_ok {f : Expr → Option ME} (hf : ∀ e m, f e = some m → PE X e (tE X.K fa (xx EX E) G m)) (hs : ∀ e m, f e = some m → nst e = true) : ∀ {es : List Expr} {ms : List ME}, many f es = some ms → PA X es (tA X.K fa (xx EX E) G ms) ∧ (∀ a ∈ es, nst a = true) ∧ es.length = ms.length
  | [], ms, h => by cases h; exact ⟨a_nil, fun a h => by simp at h, rfl⟩
  | e :: es, ms, h => by
    unfold many at h
    cases h1 : f e with
    | none => rw [h1] at h; cases h
    | some m =>
      cases h2 : many f es with
      | none => rw [h1, h2] at h; cases h
      | some ns =>
        rw [h1, h2] at h
        cases h
        obtain ⟨p, q, l⟩ := many_ok hf hs h2
        refine ⟨a_cons (hf e m h1) p (star_of (hs e m h1)), fun a ha => ?_, by rw [List.length_cons, List.length_cons, l]⟩
        rcases List.mem_cons.mp ha with rfl | ha
        · exact hs _ m h1
        · exact q a ha
theorem tE.noX {e : Expr} {m : ME} (h : PE X e (tE X.K fa (xx EX E) G m)) : PE X e (tE X.K fa noX G m) := PE.weak h fun σ H Q ⟨Z, env, ok, h⟩ => by
  refine ⟨Z, env, ok, ?_⟩
  revert h
  cases ev G m env with
  | bad => exact fun z => z
  | ex c a => exact fun z Mu' Z' H' s => (z Mu' Z' H' s).elim
  | ok p => exact fun z => z
theorem tB.noX {e : Expr} {m : ME} (h : PT X e (tB X.K fa (xx EX E) G m)) : PT X e (tB X.K fa noX G m) := PT.weak h fun σ H Q ⟨Z, env, ok, h⟩ => by
  refine ⟨Z, env, ok, ?_⟩
  revert h
  cases ev G m env with
  | bad => exact fun z => z
  | ex c a => exact fun z Mu' Z' H' s => (z Mu' Z' H' s).elim
  | ok p => exact fun z => z
theorem Good.cn (g : Good X fa EX E G N fs cs sc fv) {x : Str} {d : PyData} {p : Pos} (hg : glB sc x = true) (hn : nmOk x = true) (h : cs.lookup x = some d) (XX : XW) : PE X (.Name x p) (tE X.K fa XX G (.c d)) := by
  obtain ⟨u, v, h1, h2, h3⟩ := g.cns x d h
  exact s_c (v := v) ⟨fun pins s σ H Q I q => ld_glob I (g.gl hg) h1 ⟨v, H, I, h2, q⟩ (nmOk_of hn).1⟩ h3
theorem Good.con (g : Good X fa EX E G N fs cs sc fv) {c : Const} {k : Nat} {p : Pos} {d : PyData} (h : conR c = some d) (XX : XW) : PE X (.Constant c k p) (tE X.K fa XX G (.c d)) := by
  cases c <;> cases h
  · exact s_c pe_non fun _ _ => .non
  · exact s_c pe_bl fun _ _ => .bl _
  · exact s_c pe_int fun _ _ => .int _
  · exact s_c pe_str fun _ _ => .str _
theorem plainIx {b : Expr} (h : isSlc b = false) : PlainIx b := by
  cases b <;> first | exact fun _ _ => rfl | cases h
theorem fold_of {it : Expr} {env : PySem.Env} (h : ∀ a k p, it ≠ .Set a k p) : ∀ x, foldedSetIterable it env x = pure x := by
  cases it <;> first | exact fun _ => rfl | exact absurd rfl (h _ _ _)

/-! ### targets -/
theorem trG_ok (g : Good X fa EX E G N fs cs sc fv) : ∀ (n : Nat), (∀ e t, trG N sc fv n e = some t → PG X e (gT X.K fa t) ∧ nst e = true) ∧ ∀ es ts, trG.go N sc fv n es = some ts → PGs X es (gTs X.K fa ts) ∧ (∀ e ∈ es, nst e = true) ∧ es.length = ts.length
  | 0 => by
    have h0 : ∀ e t, trG N sc fv 0 e = some t → PG X e (gT X.K fa t) ∧ nst e = true := fun e t h => by unfold trG at h; cases h
    refine ⟨h0, fun es => ?_⟩
    induction es with
    | nil => intro ts h; unfold trG.go at h; cases h; exact ⟨gs_nil, fun e h => by simp at h, rfl⟩
    | cons e es ih =>
      intro ts h
      unfold trG.go at h
      split at h
      · rename_i t us h1 h2
        exact absurd h1 (by unfold trG; simp)
      · cases h
  | n + 1 => by
    obtain ⟨ih1, ih2⟩ := trG_ok g n
    have h1 : ∀ e t, trG N sc fv (n + 1) e = some t → PG X e (gT X.K fa t) ∧ nst e = true := fun e t h => by
      unfold trG at h
      split at h
      · rename_i x p
        split at h
        · rename_i hl
          obtain ⟨i, hi, rfl⟩ := Option.map_eq_some_iff.mp h
          exact ⟨g_name (by rw [g.hN]; exact g.nd) (by rw [g.hN]; exact ixOf_get hi) (g.loc hl).1 (g.loc hl).2, rfl⟩
        · cases h
      · rename_i es k p
        obtain ⟨ts, ht, rfl⟩ := Option.map_eq_some_iff.mp h
        obtain ⟨p1, p2, p3⟩ := ih2 es ts ht
        have key : ∀ {es : List Expr}, (∀ e ∈ es, nst e = true) → (assignEach es X.env).length = es.length ∧ (assignEach es X.env).findIdx? (·.1) = none := fun {es} => by
          induction es with
          | nil => exact fun _ => ⟨rfl, rfl⟩
          | cons a es ih =>
            intro q
            obtain ⟨q1, q2⟩ := ih fun e he => q e (List.mem_cons_of_mem _ he)
            rw [asgn_of (q a List.mem_cons_self)]
            refine ⟨by rw [List.length_cons, List.length_cons, q1], ?_⟩
            rw [List.findIdx?_cons, q2]
            rfl
        obtain ⟨k1, k2⟩ := key p2
        exact ⟨g_tup g.calm p1 p3.symm k1 k2, rfl⟩
      · cases h
    refine ⟨h1, fun es => ?_⟩
    induction es with
    | nil => intro ts h; unfold trG.go at h; cases h; exact ⟨gs_nil, fun e h => by simp at h, rfl⟩
    | cons e es ih =>
      intro ts h
      unfold trG.go at h
      split at h
      · rename_i t us a1 a2
        cases h
        obtain ⟨b1, b2⟩ := h1 e t a1
        obtain ⟨c1, c2, c3⟩ := ih us a2
        refine ⟨gs_cons b1 c1 (by rw [asgn_of b2]; rfl), fun a ha => ?_, by rw [List.length_cons, List.length_cons, c3]⟩
        rcases List.mem_cons.mp ha with rfl | ha
        · exact b2
        · exact c2 a ha
      · cases h
end
end Ev

set_option maxHeartbeats 4000000
/-! Ev, part W: the translation of expressions is sound (calls, walks). -/
namespace Ev
open PySem PySem.Spec L2 PyProof.Rows
section
variable {X : Cx} {fa : Nat → V → Prop} {EX : Nat → PyData → Hp → XK → Prop} {E : XK} {G : Tab} {N : List Str} {fs : List (Str × Nat × Nat)} {cs : List (Str × PyData)} {sc : Scope} {fv : Str → Bool} {f : Expr → Option ME}
theorem known_ne {x : Str} (h : x ∈ known) : x ≠ "__name__" ∧ (x == ("__debug__" : Str)) = false := by
  revert x
  decide +kernel
theorem Good.blt (g : Good X fa EX E G N fs cs sc fv) {x : Str} (h : x ∈ known) (hg : glB sc x = true) : Gl X x ∧ X.mg x = none ∧ x ≠ "__name__" ∧ (x == ("__debug__" : Str)) = false := ⟨g.gl hg, g.bl x h, known_ne h⟩
/-- the built-in functions of one -/
theorem fn1_ok (g : Good X fa EX E G N fs cs sc fv) {x : Str} {o : B1} (h : fn1.lookup x = some o) : x ∈ known ∧ ∃ id, bootBuiltins x = some (.builtin id) ∧ CallR X (.builtin id) (rB1x X.K o) := by
  have hm : (x, o) ∈ fn1 := PySem.mem_of_lookup h
  have hu : X.A.units + 65 < cLine := by have := g.un; omega
  simp only [fn1, List.mem_cons, Prod.mk.injEq, List.not_mem_nil, or_false] at hm
  rcases hm with ⟨rfl, rfl⟩ | ⟨rfl, rfl⟩ | ⟨rfl, rfl⟩ | ⟨rfl, rfl⟩ | ⟨rfl, rfl⟩ | ⟨rfl, rfl⟩ | ⟨rfl, rfl⟩ | ⟨rfl, rfl⟩ | ⟨rfl, rfl⟩
  · exact ⟨by decide, "len", by decide +kernel, b1x_len⟩
  · exact ⟨by decide, "all", by decide +kernel, b1x_of (b1_all g.calm) (by decide) (by decide)⟩
  · exact ⟨by decide, "any", by decide +kernel, b1x_of (b1_any g.calm) (by decide) (by decide)⟩
  · exact ⟨by decide, "sum", by decide +kernel, b1x_of (b1_sum g.calm) (by decide) (by decide)⟩
  · exact ⟨by decide, "min", by decide +kernel, b1x_of (b1_min g.calm hu) (by decide) (by decide)⟩
  · exact ⟨by decide, "max", by decide +kernel, b1x_of (b1_max g.calm hu) (by decide) (by decide)⟩
  · exact ⟨by decide, "sorted", by decide +kernel, b1x_of b1_sorted (by decide) (by decide)⟩
  · exact ⟨by decide, "abs", by decide +kernel, b1x_of b1_abs (by decide) (by decide)⟩
  · exact ⟨by decide, "repr", by decide +kernel, b1x_repr g.un g.gu⟩
theorem ty1_ok {x : Str} {o : B1} (h : ty1.lookup x = some o) : x ∈ known ∧ ∃ id, bootBuiltins x = some (.type id) ∧ CallR X (.type id) (rB1x X.K o) := by
  have hm : (x, o) ∈ ty1 := PySem.mem_of_lookup h
  simp only [ty1, List.mem_cons, Prod.mk.injEq, List.not_mem_nil, or_false] at hm
  rcases hm with ⟨rfl, rfl⟩ | ⟨rfl, rfl⟩ | ⟨rfl, rfl⟩
  · exact ⟨by decide, "tuple", by decide +kernel, b1x_of b1_tuple (by decide) (by decide)⟩
  · exact ⟨by decide, "list", by decide +kernel, b1x_list⟩
  · exact ⟨by decide, "int", by decide +kernel, b1x_of b1_int (by decide) (by decide)⟩
theorem fn2_ok {x : Str} {o : B2} (h : fn2.lookup x = some o) : x ∈ known ∧ bootBuiltins x = some (.builtin (b2Name o)) := by
  have hm : (x, o) ∈ fn2 := PySem.mem_of_lookup h
  simp only [fn2, List.mem_cons, Prod.mk.injEq, List.not_mem_nil, or_false] at hm
  rcases hm with ⟨rfl, rfl⟩ | ⟨rfl, rfl⟩
  · exact ⟨by decide, by decide +kernel⟩
  · exact ⟨by decide, by decide +kernel⟩
theorem tyR_ok {x : Str} {t : Ty} (h : tyR.lookup x = some t) : x ∈ known ∧ bootBuiltins x = some (.type (tyName t)) := by
  have hm : (x, t) ∈ tyR := PySem.mem_of_lookup h
  simp only [tyR, List.mem_cons, Prod.mk.injEq, List.not_mem_nil, or_false] at hm
  rcases hm with ⟨rfl, rfl⟩ | ⟨rfl, rfl⟩ | ⟨rfl, rfl⟩ | ⟨rfl, rfl⟩
  · exact ⟨by decide, by decide +kernel⟩
  · exact ⟨by decide, by decide +kernel⟩
  · exact ⟨by decide, by decide +kernel⟩
  · exact ⟨by decide, by decide +kernel⟩
theorem trCall_ok (g : Good X fa EX E G N fs cs sc fv) (hf : ∀ e m, f e = some m → PE X e (tE X.K fa (xx EX E) G m)) (hs : ∀ e m, f e = some m → nst e = true) {x : Str} {as : List Expr} {m : ME} {p pos : Pos} (h : trCall fs N f sc x as = some m) :
    PE X (.Call (.Name x p) as [] pos) (tE X.K fa (xx EX E) G m) := by
  unfold trCall at h
  split at h
  · rename_i hx
    simp only [Bool.and_eq_true, Bool.not_eq_true'] at hx
    obtain ⟨⟨hg, hn⟩, hnn⟩ := hx
    have hnn : x ≠ "__name__" := fun e => by simp [e] at hnn
    split at h
    · rename_i n ar hl
      split at h
      · rename_i ms hm
        split at h
        · rename_i hlen
          cases h
          obtain ⟨f0, fd, ps, sm, k, h1, h2, h3, h4, h5, h6, _⟩ := g.fns x n ar hl
          have h7 := g.pass
          obtain ⟨pa, st, _⟩ := many_ok hf hs hm
          refine s_call (ar := ar) h1 ?_ fun env q hq => by rw [evs_len hq]; exact hlen
          cases as with
          | nil =>
            unfold many at hm
            cases hm
            refine PE.weak (pe_fn0 h2 h3 g.gu (g.gl hg) h4 h5 h6 h7 (nmOk_of hn).1) fun σ H Q h => ?_
            obtain ⟨Z, env, ok, h⟩ := h
            unfold evs at h
            exact h Z H [] (.refl ok) .nil
          | cons a as => exact pe_fn h2 h3 g.gu (g.gl hg) h4 h5 h6 h7 pa (nmOk_of hn).1 (star_of (st a List.mem_cons_self)) (plain_of fun b hb => st b (List.mem_cons_of_mem _ hb))
        · cases h
      · cases h
    · split at h
      · rename_i a
        have one : ∀ o ma, fn1.lookup x = some o → f a = some ma → PE X (.Call (.Name x p) [a] [] pos) (tE X.K fa (xx EX E) G (.b1 o ma)) := fun o ma h1 h2 => by
          obtain ⟨hk, id, hv, hC⟩ := fn1_ok g h1
          obtain ⟨g1, g2, g3, g4⟩ := g.blt hk hg
          exact s_b1B hC g1 g2 hv g3 g4 (hf a ma h2) (star_of (hs a ma h2))
        have two : ∀ o ma, ty1.lookup x = some o → f a = some ma → PE X (.Call (.Name x p) [a] [] pos) (tE X.K fa (xx EX E) G (.b1 o ma)) := fun o ma h1 h2 => by
          obtain ⟨hk, id, hv, hC⟩ := ty1_ok (X := X) h1
          obtain ⟨g1, g2, g3, g4⟩ := g.blt hk hg
          exact s_b1T hC g1 g2 hv g3 g4 (hf a ma h2) (star_of (hs a ma h2))
        split at h
        · rename_i o ho
          obtain ⟨ma, h1, rfl⟩ := Option.map_eq_some_iff.mp h
          exact one o ma ho h1
        · split at h
          · rename_i ho
            split at h
            · rename_i y p2 b c pos2
              split at h
              · rename_i hy
                obtain ⟨rfl, hyg⟩ := hy
                split at h
                · rename_i mb mc h1 h2
                  cases h
                  have hxl : x = "list" := by
                    have hm := PySem.mem_of_lookup ho
                    simp only [ty1, List.mem_cons, Prod.mk.injEq, List.not_mem_nil, or_false] at hm
                    rcases hm with ⟨_, q⟩ | ⟨e, _⟩ | ⟨_, q⟩
                    · cases q
                    · exact e
                    · cases q
                  subst hxl
                  have g1 := g.blt (x := "list") (by decide) hg
                  have g2 := g.blt (x := "range") (by decide) hyg
                  exact s_lrg g.calm g1.1 g1.2.1 g2.1 g2.2.1 (hf _ _ h1) (hf _ _ h2) (star_of (hs _ _ h1)) (star_of (hs _ _ h2)) (plain_of fun e he => by rw [List.mem_singleton.mp he]; exact hs _ _ h2) (star_of rfl)
                · cases h
              · obtain ⟨ma, h1, rfl⟩ := Option.map_eq_some_iff.mp h
                exact two _ ma ho h1
            · rename_i y p2 b pos2
              split at h
              · rename_i hy
                obtain ⟨rfl, hyg⟩ := hy
                split at h
                · rename_i mb h1
                  cases h
                  have hxl : x = "list" := by
                    have hm := PySem.mem_of_lookup ho
                    simp only [ty1, List.mem_cons, Prod.mk.injEq, List.not_mem_nil, or_false] at hm
                    rcases hm with ⟨_, q⟩ | ⟨e, _⟩ | ⟨_, q⟩
                    · cases q
                    · exact e
                    · cases q
                  subst hxl
                  have g1 := g.blt (x := "list") (by decide) hg
                  have g2 := g.blt (x := "range") (by decide) hyg
                  exact s_lrg1 g.calm g1.1 g1.2.1 g2.1 g2.2.1 (hf _ _ h1) (star_of (hs _ _ h1)) (star_of rfl)
                · cases h
              · obtain ⟨ma, h1, rfl⟩ := Option.map_eq_some_iff.mp h
                exact two _ ma ho h1
            · obtain ⟨ma, h1, rfl⟩ := Option.map_eq_some_iff.mp h
              exact two _ ma ho h1
          · rename_i o ho _
            obtain ⟨ma, h1, rfl⟩ := Option.map_eq_some_iff.mp h
            rename_i ho' _
            exact two _ ma (by assumption) h1
          · cases h
      · rename_i a b
        split at h
        · rename_i hxi
          subst hxi
          split at h
          · rename_i y p2
            split at h
            · rename_i hy
              simp only [Bool.and_eq_true, Bool.not_eq_true'] at hy
              split at h
              · rename_i ma t h1 h2
                cases h
                obtain ⟨k1, k2⟩ := tyR_ok h2
                have g1 := g.blt (x := "isinstance") (by decide) hg
                have g2 := g.blt k1 hy.1.1
                exact s_isi g1.1 g1.2.1 (by decide +kernel) g1.2.2.1 g1.2.2.2 g2.1 g2.2.1 k2 g2.2.2.1 g2.2.2.2 (hf _ _ h1) (star_of (hs _ _ h1)) (star_of rfl) (plain_of fun e he => by rw [List.mem_singleton.mp he]; rfl)
              · cases h
            · cases h
          · cases h
        · split at h
          · rename_i o ma mb h1 h2 h3
            cases h
            obtain ⟨k1, k2⟩ := fn2_ok h1
            have g1 := g.blt k1 hg
            exact s_b2 g.calm g1.1 g1.2.1 k2 g1.2.2.1 g1.2.2.2 (hf _ _ h2) (hf _ _ h3) (star_of (hs _ _ h2)) (star_of (hs _ _ h3)) (plain_of fun e he => by rw [List.mem_singleton.mp he]; exact hs _ _ h3)
          · cases h
      · cases h
  · split at h
    · rename_i hx
      rw [Bool.and_eq_true] at hx
      obtain ⟨hv, hn⟩ := hx
      split at h
      · cases h
      · rename_i a as
        split at h
        · rename_i i ms hi hm
          cases h
          obtain ⟨pa, st, _⟩ := many_ok hf hs hm
          refine s_callv (pe_fnv g.gu (by rw [g.hN]; exact ixOf_get hi) (g.vis hv) pa (nmOk_of hn).1 (nmOk_of hn).2 (star_of (st a List.mem_cons_self)) (plain_of fun b hb => st b (List.mem_cons_of_mem _ hb))) fun y n f1 sm hT hns hG => ?_
          obtain ⟨ar, q1⟩ := tbl_of hT
          have q3 := g.gn _ _ hns
          obtain ⟨f0, fd, ps, sm', k, h1, h2, h3, h4, h5, h6, h7⟩ := g.fns y n ar q1
          rw [hG] at h1
          cases h1
          rw [q3] at h4
          cases h4
          exact ⟨fd, ps, k, ar, _, h2, h3, h5, h6, g.pass, h7⟩
        · cases h
    · cases h
theorem trMeth_ok (hu : X.A.units + 65 < cLine) (g : Good X fa EX E G N fs cs sc fv) (hf : ∀ e m, f e = some m → PE X e (tE X.K fa (xx EX E) G m)) (hs : ∀ e m, f e = some m → nst e = true) {x mm : Str} {as : List Expr} {m : ME} {p p2 pos : Pos} (h : trMeth N f sc x mm (p2.endLine == pos.line) as = some m) :
    PE X (.Call (.Attribute (.Name x p) mm p2) as [] pos) (tE X.K fa (xx EX E) G m) := by
  unfold trMeth at h
  split at h
  · rename_i hx
    simp only [Bool.and_eq_true] at hx
    obtain ⟨⟨hv, hn⟩, hline⟩ := hx
    split at h
    · rename_i i a hi
      split at h
      · rename_i ma ha
        have st := hs a ma ha
        have k : MOk X a x mm i p p2 pos := ⟨by rw [g.hN]; exact ixOf_get hi, g.vis hv, (nmOk_of hn).1, (nmOk_of hn).2, star_of st, rfl, hline, by rw [star_of st]; rfl⟩
        split at h
        · rename_i e; subst e; cases h
          exact s_app k (hf a ma ha)
        · split at h
          · rename_i e; subst e; cases h
            exact s_ext k (hf a ma ha)
          · split at h
            · rename_i e; subst e; cases h
              exact s_popA k (hf a ma ha)
            · split at h
              · rename_i e; subst e; cases h
                exact s_idx hu k (hf a ma ha)
              · cases h
      · cases h
    · cases h
  · cases h
theorem trI_ok (g : Good X fa EX E G N fs cs sc fv) (hf : ∀ e m, f e = some m → PE X e (tE X.K fa (xx EX E) G m)) (hs : ∀ e m, f e = some m → nst e = true) (hset : ∀ a k p, f (.Set a k p) = none) {tg it : Expr} {w : Nat} {its : List ME} (h : trI f sc (isTup tg) it = some (w, its)) :
    PI X tg it (tI X.K fa (xx EX E) G w its) ∧ ∀ x, foldedSetIterable it X.env x = pure x := by
  have seq : ∀ {m}, f it = some m → (w, its) = (0, [m]) → PI X tg it (tI X.K fa (xx EX E) G w its) ∧ ∀ x, foldedSetIterable it X.env x = pure x := fun {m} h1 e => by
    cases e
    refine ⟨i_seq (hf it m h1), fold_of fun a k p e => ?_⟩
    rw [e, hset] at h1
    cases h1
  unfold trI at h
  split at h
  · rename_i x p as pos
    have fo : ∀ y, foldedSetIterable (.Call (.Name x p) as [] pos) X.env y = pure y := fun _ => rfl
    split at h
    · rename_i hg
      split at h
      · rename_i e
        subst e
        have g1 := g.blt (x := "range") (by decide) hg
        split at h
        · rename_i a ms hm
          cases h
          obtain ⟨pa, st, l⟩ := many_ok hf hs hm
          match its, l with
          | [ma], _ => exact ⟨i_rng1 g1.1 g1.2.1 pa (star_of (st a (by simp))), fo⟩
        · rename_i a b ms hm
          cases h
          obtain ⟨pa, st, l⟩ := many_ok hf hs hm
          match its, l with
          | [ma, mb], _ =>
            have h1 : starEach [b] X.env = [(false, eval b X.env)] := star_of (st b (by simp))
            exact ⟨i_rng2 g1.1 g1.2.1 pa (by rw [star_of (st a (by simp)), h1]) h1, fo⟩
        · rename_i a b c ms hm
          cases h
          obtain ⟨pa, st, l⟩ := many_ok hf hs hm
          match its, l with
          | [ma, mb, mc], _ => exact ⟨i_rng3 g1.1 g1.2.1 pa (star_of (st a (by simp))) (plain_of fun e he => st e (List.mem_cons_of_mem _ he)), fo⟩
        · cases h
      · split at h
        · rename_i e
          subst e
          have g1 := g.blt (x := "enumerate") (by decide) hg
          split at h
          · rename_i a ms ht hm
            cases h
            obtain ⟨pa, st, l⟩ := many_ok hf hs hm
            cases tg <;> try (cases ht; done)
            match its, l with
            | [ma], _ => exact ⟨i_enum g1.1 g1.2.1 pa (star_of (st a (by simp))), fo⟩
          · cases h
        · split at h
          · rename_i e
            subst e
            have g1 := g.blt (x := "zip") (by decide) hg
            split at h
            · rename_i a b ms ht hm
              cases h
              obtain ⟨pa, st, l⟩ := many_ok hf hs hm
              cases tg <;> try (cases ht; done)
              match its, l with
              | [ma, mb], _ => exact ⟨i_zip g1.1 g1.2.1 pa (star_of (st a (by simp))) (plain_of fun e he => st e (List.mem_cons_of_mem _ he)), fo⟩
            · rename_i a b c ms ht hm
              cases h
              obtain ⟨pa, st, l⟩ := many_ok hf hs hm
              cases tg <;> try (cases ht; done)
              match its, l with
              | [ma, mb, mc], _ => exact ⟨i_zip3 g1.1 g1.2.1 pa (star_of (st a (by simp))) (plain_of fun e he => st e (List.mem_cons_of_mem _ he)), fo⟩
            · cases h
          · obtain ⟨m, h1, h2⟩ := Option.map_eq_some_iff.mp h
            exact seq h1 h2.symm
    · obtain ⟨m, h1, h2⟩ := Option.map_eq_some_iff.mp h
      exact seq h1 h2.symm
  · obtain ⟨m, h1, h2⟩ := Option.map_eq_some_iff.mp h
    exact seq h1 h2.symm
end
end Ev

set_option maxHeartbeats 8000000
/-! Ev, part X: the translation of expressions is sound. -/
namespace Ev
open PySem PySem.Spec L2 PyProof.Rows
section
variable {fa : Nat → V → Prop} {EX : Nat → PyData → Hp → XK → Prop} {G : Tab} {N : List Str} {fs : List (Str × Nat × Nat)} {cs : List (Str × PyData)}
theorem trE_nst : ∀ {n : Nat} {sc : Scope} {fv : Str → Bool} {e : Expr} {m : ME}, trE N fs cs n sc fv e = some m → nst e = true
  | 0, _, _, e, m, h => by unfold trE at h; cases h
  | n + 1, _, _, e, m, h => by
    cases e <;> first | rfl | (unfold trE at h; cases h)
theorem trE_set {n : Nat} {sc : Scope} {fv : Str → Bool} (a : List Expr) (k : Nat) (p : Pos) : trE N fs cs n sc fv (.Set a k p) = none := by
  cases n <;> (unfold trE; rfl)
theorem own_ix {scope : Scope} {p : Str × Nat} (h : p ∈ ownOf N scope) : N[p.2]? = some p.1 := by
  unfold ownOf at h
  obtain ⟨⟨y, k⟩, _, e⟩ := List.mem_filterMap.mp h
  cases k <;> simp only at e <;> try (cases e; done)
  · obtain ⟨i, h1, rfl⟩ := Option.map_eq_some_iff.mp e
    exact ixOf_get h1
  · obtain ⟨i, h1, rfl⟩ := Option.map_eq_some_iff.mp e
    exact ixOf_get h1
theorem opt_ok {X : Cx} {XX : XW} {f : Expr → Option ME} (hf : ∀ e m, f e = some m → PE X e (tE X.K fa XX G m)) : ∀ {o : Option Expr} {mo : Option ME}, opt f o = some mo → PO X o (tO X.K fa XX G mo)
  | none, _, h => by cases h; exact o_none
  | some e, _, h => by
    obtain ⟨m, h1, rfl⟩ := Option.map_eq_some_iff.mp h
    exact o_some (hf e m h1)
theorem tr_ok : ∀ (n : Nat), (∀ (X : Cx) (E : XK) (sc : Scope) (fv : Str → Bool), Good X fa EX E G N fs cs sc fv → ∀ e m, trE N fs cs n sc fv e = some m → PE X e (tE X.K fa (xx EX E) G m)) ∧
    (∀ (X : Cx) (E : XK) (sc : Scope) (fv : Str → Bool), Good X fa EX E G N fs cs sc fv → ∀ e m, trT N fs cs n sc fv e = some m → PT X e (tB X.K fa (xx EX E) G m) ∧ ((∃ o es p, e = .BoolOp o es p) → PW X e (tB X.K fa (xx EX E) G m)))
  | 0 => ⟨fun X E sc fv g e m h => (by unfold trE at h; cases h), fun X E sc fv g e m h => (by unfold trT at h; cases h)⟩
  | n + 1 => by
    obtain ⟨ihE, ihT⟩ := tr_ok n
    have hE : ∀ (X : Cx) (E : XK) (sc : Scope) (fv : Str → Bool), Good X fa EX E G N fs cs sc fv → ∀ e m, trE N fs cs (n + 1) sc fv e = some m → PE X e (tE X.K fa (xx EX E) G m) := by
      intro X E sc fv g e m h
      have ih := ihE X E sc fv g
      have hs : ∀ e m, trE N fs cs n sc fv e = some m → nst e = true := fun e m h => trE_nst h
      have hu : X.A.units + 65 < cLine := by have := g.un; omega
      unfold trE at h
      split at h
      · obtain ⟨d, h1, rfl⟩ := Option.map_eq_some_iff.mp h
        exact g.con h1 _
      · split at h
        · rename_i hc
          rw [Bool.and_eq_true] at hc
          obtain ⟨i, h1, rfl⟩ := Option.map_eq_some_iff.mp h
          exact g.name hc.1 hc.2 h1 _
        · split at h
          · rename_i hc
            rw [Bool.and_eq_true] at hc
            split at h
            · rename_i d h1
              cases h
              exact g.cn hc.1 hc.2 h1 _
            · obtain ⟨⟨n0, ar⟩, h1, rfl⟩ := Option.map_eq_some_iff.mp h
              obtain ⟨f0, fd, ps, sm, k, _, _, _, h4, _⟩ := g.fns _ n0 ar h1
              exact s_fn (pe_glob (v := V.ref f0) (g.gl hc.1) h4 rfl (nmOk_of hc.2).1) (g.vfn _ n0 ar f0 h1 h4)
          · cases h
      · obtain ⟨ms, h1, rfl⟩ := Option.map_eq_some_iff.mp h
        exact s_tup (many_ok ih hs h1).1
      · obtain ⟨ms, h1, rfl⟩ := Option.map_eq_some_iff.mp h
        exact s_lst (many_ok ih hs h1).1
      · split at h
        · rename_i p ma mb h1 h2 h3
          cases h
          rw [← bopR_of h1]
          exact s_bin p (ih _ _ h2) (ih _ _ h3)
        · cases h
      · obtain ⟨ma, h1, rfl⟩ := Option.map_eq_some_iff.mp h
        exact s_neg (ih _ _ h1)
      · obtain ⟨ma, h1, rfl⟩ := Option.map_eq_some_iff.mp h
        exact s_not (ih _ _ h1)
      · split at h
        · rename_i p ma mb h1 h2 h3
          split at h
          · cases h
          · rename_i hb
            cases h
            have hb := Bool.eq_false_iff.mpr hb
            rw [← copR_of h1] at hb ⊢
            exact s_cmp hu p (ih _ _ h2) (ih _ _ h3) hb
        · cases h
      · split at h
        · rename_i p p' ma mb mc h1 h1' h2 h3 h4
          split at h
          · cases h
          · rename_i hb
            cases h
            have hb := Bool.eq_false_iff.mpr hb
            rw [← copR_of h1, ← copR_of h1'] at hb ⊢
            exact s_chn hu p p' (ih _ _ h2) (ih _ _ h3) (ih _ _ h4) hb
        · cases h
      · exact s_last (ih _ _ h)
      · split at h
        · rename_i ma mb h1 h2
          cases h
          exact s_and (ih _ _ h1) (ih _ _ h2)
        · cases h
      · split at h
        · rename_i ma mb h1 h2
          cases h
          exact s_or (ih _ _ h1) (ih _ _ h2)
        · cases h
      · split at h
        · rename_i mt ma mb h1 h2 h3
          cases h
          exact s_ife (ihT X E sc fv g _ _ h1).1 (ih _ _ h2) (ih _ _ h3)
        · cases h
      · obtain ⟨ma, h1, rfl⟩ := Option.map_eq_some_iff.mp h
        exact s_rev2 (ih _ _ h1)
      · split at h
        · rename_i ma ml mh h1 h2 h3
          cases h
          exact s_slc (ih _ _ h1) (opt_ok ih h2) (opt_ok ih h3)
        · cases h
      · split at h
        · cases h
        · rename_i hb
          split at h
          · rename_i ma mb h1 h2
            cases h
            exact s_sub (ih _ _ h1) (ih _ _ h2) (plainIx (Bool.eq_false_iff.mpr hb))
          · cases h
      · exact trCall_ok g ih hs h
      · exact trMeth_ok hu g ih hs h
      · rename_i elt tg it ifs scope pos
        split at h
        · rename_i t w its me h1 h2 h3
          obtain ⟨pi, hfo⟩ := trI_ok g ih hs (fun a k p => trE_set a k p) h2
          have key : ∀ mifs, (∀ (s : Shared) (H : Hp) (C : Addr) (cl : List (Str × Addr)) (fp : List Addr), scope.kind = .function → PTs (X.blk s H scope (compEnvC scope cl C X.env) fp) ifs (tTs X.K fa G mifs)) →
              (blkC N sc scope (ownOf N scope) && (stoT t).all ((ownOf N scope).map (·.2)).contains) = true → PE X (.ListComp elt [⟨tg, it, ifs, 0⟩] scope pos) (tE X.K fa (xx EX E) G (.lc ((ownOf N scope).map (·.2)) t w its mifs me)) := by
            intro mifs hT hc
            rw [Bool.and_eq_true] at hc
            have bo : BlkOk X.N X.env.scope scope (ownOf N scope) := by
              rw [g.hN, g.hsc]
              exact blkOk_by hc.1
            refine s_lc g.calm (by rw [g.hN]; exact g.nd) pi bo (fun s H C cl fp => ?_) (fun s H C cl fp => hT s H C cl fp bo.kind) (fun s H C cl fp => ?_) hfo fun i hi => ?_
            · exact ((trG_ok (g.blk bo.kind s H C cl fp) n).1 _ _ h1).1
            · exact tE.noX (ihE _ _ _ _ (g.blk bo.kind s H C cl fp) _ _ h3)
            · have := List.all_eq_true.mp hc.2 i hi
              simpa using this
          split at h
          · split at h
            · rename_i hc
              cases h
              exact key [] (fun s H C cl fp _ => t_nil) hc
            · cases h
          · split at h
            · rename_i mc h4
              split at h
              · rename_i hc
                cases h
                exact key [mc] (fun s H C cl fp hk => t_one (tB.noX (ihT _ _ _ _ (g.blk hk s H C cl fp) _ _ h4).1)) hc
              · cases h
            · cases h
          · cases h
        · cases h
      · cases h
    refine ⟨hE, ?_⟩
    intro X E sc fv g e m h
    have ih := ihE X E sc fv g
    have ihT := ihT X E sc fv g
    have hu : X.A.units + 65 < cLine := by have := g.un; omega
    have wp : PW X e (tB X.K fa (xx EX E) G m) → PT X e (tB X.K fa (xx EX E) G m) ∧ ((∃ o es p, e = .BoolOp o es p) → PW X e (tB X.K fa (xx EX E) G m)) := fun w => ⟨w.pt, fun _ => w⟩
    have pt : PT X e (tB X.K fa (xx EX E) G m) → (∀ o es p, e ≠ .BoolOp o es p) → PT X e (tB X.K fa (xx EX E) G m) ∧ ((∃ o es p, e = .BoolOp o es p) → PW X e (tB X.K fa (xx EX E) G m)) := fun w n => ⟨w, fun ⟨o, es, p, q⟩ => (n o es p q).elim⟩
    unfold trT at h
    split at h
    · obtain ⟨ma, h1, rfl⟩ := Option.map_eq_some_iff.mp h
      exact pt (b_not (ihT _ _ h1).1) fun _ _ _ q => by cases q
    · exact wp (w_and1 (ihT _ _ h).1)
    · exact wp (w_or1 (ihT _ _ h).1)
    · split at h
      · rename_i ma mb h1 h2
        cases h
        exact wp (w_and (ihT _ _ h1).1 ((ihT _ _ h2).2 ⟨_, _, _, rfl⟩))
      · cases h
    · split at h
      · rename_i ma mb h1 h2
        cases h
        exact wp (w_or (ihT _ _ h1).1 ((ihT _ _ h2).2 ⟨_, _, _, rfl⟩))
      · cases h
    · cases h
    · cases h
    · split at h
      · rename_i p ma mb h1 h2 h3
        split at h
        · cases h
        · rename_i hb
          cases h
          have hb := Bool.eq_false_iff.mpr hb
          obtain rfl := copR_of h1
          exact pt (b_cmp hu p (ih _ _ h2) (ih _ _ h3) hb) fun _ _ _ q => by cases q
      · cases h
    · split at h
      · rename_i p p' ma mb mc h1 h1' h2 h3 h4
        split at h
        · cases h
        · rename_i hb
          cases h
          have hb := Bool.eq_false_iff.mpr hb
          obtain rfl := copR_of h1
          obtain rfl := copR_of h1'
          exact pt (b_chn hu p p' (ih _ _ h2) (ih _ _ h3) (ih _ _ h4) hb) fun _ _ _ q => by cases q
      · cases h
    · split at h
      · rename_i p p' p'' ma mb mc md h1 h1' h1'' h2 h3 h4 h5
        split at h
        · cases h
        · rename_i hb
          cases h
          have hb := Bool.eq_false_iff.mpr hb
          obtain rfl := copR_of h1
          obtain rfl := copR_of h1'
          obtain rfl := copR_of h1''
          exact pt (b_ch3 hu p p' p'' (ih _ _ h2) (ih _ _ h3) (ih _ _ h4) (ih _ _ h5) hb) fun _ _ _ q => by cases q
      · cases h
    · cases h
    · rename_i n1 n2 n3 n4 n5 n6 n7 n8 n9 n9' n10
      refine pt (b_any (ih _ _ h) ?_) fun o es p q => n6 _ _ _ q
      cases e <;> first | exact fun _ => rfl | skip
      · exact (n6 _ _ _ rfl).elim
      · rename_i o a p
        cases o <;> first | exact fun _ => rfl | exact (n1 _ _ rfl).elim
      · exact (n7 _ _ _ _ rfl).elim
      · exact (n10 _ _ _ _ rfl).elim
/-- the parts of a comprehension -/
theorem lc_parts {X : Cx} {E : XK} {sc : Scope} {fv : Str → Bool} (g : Good X fa EX E G N fs cs sc fv) {n : Nat} {elt : Expr} {gs : List Comprehension} {scope : Scope} {pos : Pos} {m : ME} (h : trE N fs cs n sc fv (.ListComp elt gs scope pos) = some m) :
    ∃ tg it ifs t w its mifs me own, gs = [⟨tg, it, ifs, 0⟩] ∧ m = .lc (own.map (·.2)) t w its mifs me ∧ PI X tg it (tI X.K fa (xx EX E) G w its) ∧ BlkOk X.N X.env.scope scope own ∧
      (∀ (s : Shared) (H : Hp) (C : Addr) (cl : List (Str × Addr)) (fp : List Addr), PG (X.blk s H scope (compEnvC scope cl C X.env) fp) tg (gT X.K fa t)) ∧
      (∀ (s : Shared) (H : Hp) (C : Addr) (cl : List (Str × Addr)) (fp : List Addr), PTs (X.blk s H scope (compEnvC scope cl C X.env) fp) ifs (tTs X.K fa G mifs)) ∧
      (∀ (s : Shared) (H : Hp) (C : Addr) (cl : List (Str × Addr)) (fp : List Addr), PE (X.blk s H scope (compEnvC scope cl C X.env) fp) elt (tE X.K fa noX G me)) ∧ (∀ x, foldedSetIterable it X.env x = pure x) ∧ ∀ i ∈ stoT t, i ∈ own.map (·.2) := by
  cases n with
  | zero => unfold trE at h; cases h
  | succ n =>
    obtain ⟨ihE, ihT⟩ := tr_ok (fa := fa) (EX := EX) (G := G) (N := N) (fs := fs) (cs := cs) n
    unfold trE at h
    split at h <;> try (first | (cases h; done) | (rename_i e; cases e; done))
    rename_i elt' tg it ifs scope' pos' e
    cases e
    split at h
    · rename_i t w its me h1 h2 h3
      obtain ⟨pi, hfo⟩ := trI_ok g (ihE X E sc fv g) (fun e m h => trE_nst h) (fun a k p => trE_set a k p) h2
      have key : ∀ mifs, (∀ (s : Shared) (H : Hp) (C : Addr) (cl : List (Str × Addr)) (fp : List Addr), scope.kind = .function → PTs (X.blk s H scope (compEnvC scope cl C X.env) fp) ifs (tTs X.K fa G mifs)) →
          (blkC N sc scope (ownOf N scope) && (stoT t).all ((ownOf N scope).map (·.2)).contains) = true → BlkOk X.N X.env.scope scope (ownOf N scope) ∧
          (∀ (s : Shared) (H : Hp) (C : Addr) (cl : List (Str × Addr)) (fp : List Addr), PG (X.blk s H scope (compEnvC scope cl C X.env) fp) tg (gT X.K fa t)) ∧
          (∀ (s : Shared) (H : Hp) (C : Addr) (cl : List (Str × Addr)) (fp : List Addr), PTs (X.blk s H scope (compEnvC scope cl C X.env) fp) ifs (tTs X.K fa G mifs)) ∧
          (∀ (s : Shared) (H : Hp) (C : Addr) (cl : List (Str × Addr)) (fp : List Addr), PE (X.blk s H scope (compEnvC scope cl C X.env) fp) elt (tE X.K fa noX G me)) ∧ (∀ x, foldedSetIterable it X.env x = pure x) ∧ ∀ i ∈ stoT t, i ∈ (ownOf N scope).map (·.2) := by
        intro mifs hT hc
        rw [Bool.and_eq_true] at hc
        have bo : BlkOk X.N X.env.scope scope (ownOf N scope) := by
          rw [g.hN, g.hsc]
          exact blkOk_by hc.1
        refine ⟨bo, fun s H C cl fp => ((trG_ok (g.blk bo.kind s H C cl fp) n).1 _ _ h1).1, fun s H C cl fp => hT s H C cl fp bo.kind, fun s H C cl fp => tE.noX (ihE _ _ _ _ (g.blk bo.kind s H C cl fp) _ _ h3), hfo, fun i hi => ?_⟩
        have := List.all_eq_true.mp hc.2 i hi
        simpa using this
      split at h
      · split at h
        · rename_i hc
          cases h
          exact ⟨tg, it, [], t, w, its, [], me, ownOf N scope, rfl, rfl, pi, key [] (fun s H C cl fp _ => t_nil) hc⟩
        · cases h
      · split at h
        · rename_i mc h4
          split at h
          · rename_i hc
            cases h
            exact ⟨tg, it, [_], t, w, its, [mc], me, ownOf N scope, rfl, rfl, pi, key [mc] (fun s H C cl fp hk => t_one (tB.noX (ihT _ _ _ _ (g.blk hk s H C cl fp) _ _ h4).1)) hc⟩
          · cases h
        · cases h
      · cases h
    · cases h
end
end Ev

set_option maxRecDepth 100000
/-! Ev, part AB: own exceptions are made: __init__ says super().__init__(text) and stores one field. -/
namespace Ev
open PySem PySem.Spec PySem.W L2 NdefX PyProof.Rows
/-- what an __init__ of an own exception promises -/
def spInit (C : Addr) (fld : Str) : Sp := fun vs H Q E => ∃ a v, vs = [.ref a, v] ∧ H a = some (exo a C none) ∧ ∀ dx, H dx = none → dx ≠ a → Q .non (upd (upd H dx (exd dx [(fld, v)])) a (exo a C (some dx)))
def initB (msg slf arg fld : Str) (k : Nat) (p0 p1 p2 p3 p4 p5 p6 p7 p8 p9 : Pos) : List Stmt :=
  [.Expr (.Call (.Attribute (.Call (.Name "super" p0) [] [] p1) "__init__" p2) [.Constant (.str msg) k p3] [] p4) p5, .Assign [.Attribute (.Name slf p6) fld p7] (.Name arg p8) p9]
abbrev initSc (slf arg : Str) : Scope := { kind := .function, names := [(slf, .local), (arg, .local), (PySem.Str.ofString "__class__", .free), (PySem.Str.ofString "super", .globalImplicit)], isGenerator := false, isCoroutine := false, more := [] }
/-- what the written part says of such a class -/
structure InC (P : Program) (K : Frag) (C fI cda cc : Addr) (fd : FuncData) : Prop where
  oex : OexC K C
  lk : ∃ oc od osl, K.lookup fI = some ⟨oc, od, .func fd, osl⟩
  code : ∃ ccl cdd ccs vs file tf, K.lookup cda = some ⟨ccl, cdd, .fields vs, ccs⟩ ∧ vs[2]? = some (.str file tf) ∧ ((P.main.file : Str) == file) = true
  cell : ∃ cl cld csl, K.lookup cc = some ⟨cl, cld, .cell (some (.ref C)), csl⟩
  cls : ∃ cd, clsIn K C = some cd
  self : mroIn K C (.ref C) = some true
  sup : ks_superIn K C C "__init__" = some (some (.builtin "ValueError.__init__"))
  ve : subIn K (.ref C) (.type "ValueError") = some true
  opq : nsIn K cStatics "thirdparty.any" = some none
set_option maxHeartbeats 2000000 in
theorem init_fn {P : Program} {w : World} {K : Frag} {mg : Str → Option Value} {base : Heap} {CX : CXT} {C fI cda cc : Addr} {nm qual msg slf arg fld : Str} {k : Nat} {p0 p1 p2 p3 p4 p5 p6 p7 p8 p9 : Pos} {params : Arguments} {doc pm ct : Value} {an : Option Addr} {ar : Arg}
    (T : InC P K C fI cda cc (fnX nm qual params (initB msg slf arg fld k p0 p1 p2 p3 p4 p5 p6 p7 p8 p9) (initSc slf arg) [("__class__", cc)] .none .none doc pm an (.ref cda) ct))
    (S : NScope [slf, arg, "__class__"] [slf, arg] ["__class__"] (initSc slf arg)) (hsu : (initSc slf arg).names.lookup ("super" : Str) = some .globalImplicit) (hcl : (initSc slf arg).names.lookup ("__class__" : Str) = some .free)
    (hp : (params.posonlyargs ++ params.args).head? = some ar) (har : ar.arg = slf) (hcd : codeIn K (.ref cda) qual = true) (hmg : mg "super" = none) (hno : findIn K (.ref C) fld = some none)
    (htop : (P.main.scope.names.lookup ("super" : Str)).isSome = false) (hd1 : (slf == ("__debug__" : Str)) = false) (hd2 : (slf == ("__classdict__" : Str)) = false) (hd3 : (arg == ("__debug__" : Str)) = false) (hd4 : (arg == ("__classdict__" : Str)) = false)
    (hsw : ∀ env : PySem.Env, swapsWith (.Name arg p8) (some (.Attribute (.Name slf p6) fld p7)) p9.line env = pure false)
    (hev : ∀ env : PySem.Env, ∃ pl, eval (.Call (.Attribute (.Call (.Name "super" p0) [] [] p1) "__init__" p2) [.Constant (.str msg) k p3] [] p4) env = (do
      let ov ← attributeBase (.Call (.Name "super" p0) [] [] p1) "__init__" env (eval (.Call (.Name "super" p0) [] [] p1) env)
      standAt p2.atName
      let (f, first) ← holding [ov] (getMethod ov "__init__" pl)
      callWith p4 f first (backTo p4 (starEach [.Constant (.str msg) k p3] env)) [])) :
    FnOk P w K mg base CX 1 fI (fnX nm qual params (initB msg slf arg fld k p0 p1 p2 p3 p4 p5 p6 p7 p8 p9) (initSc slf arg) [("__class__", cc)] .none .none doc pm an (.ref cda) ct) [slf, arg] (spInit C fld) := by
  refine ⟨fun vs H Q E ⟨a, v, e, _⟩ => by rw [e]; rfl, ?_⟩
  intro A outer s H args us vs Q E hr e0 hb r hsp
  obtain ⟨a, v, rfl, ha, q⟩ := hsp
  obtain ⟨oc, od, osl, lk⟩ := T.lk
  obtain ⟨ccl, cdd, ccs, cvs, file, tf, hcode, hvs, hfile⟩ := T.code
  obtain ⟨cl, cld, csl, hcell⟩ := T.cell
  obtain ⟨cdC, hcls⟩ := T.cls
  have kin : K.In s.heap := e0.mod.kin.keeps fun b o e => (e0.bs b o e).1
  have lim : s.heap.NoLimit := e0.mod.nolimit.keeps fun b o e => (e0.bs b o e).1
  have inB : ∀ {b o}, K.lookup b = some o → base.get? b = some o := fun e => e0.mod.kin _ _ e
  have Cat : CellsAt [(("__class__" : Str), cc)] ["__class__"] [some (.ref C)] s.heap H := by
    refine ⟨rfl, fun y c e => ?_, fun x y c e1 e2 => ?_, fun i y e => ?_⟩
    · rw [List.lookup_cons] at e
      split at e
      · cases e
        exact ⟨(e0.bs _ _ (inB hcell)).2, some (.ref C), _, kin _ _ hcell, rfl⟩
      · cases e
    · rw [List.lookup_cons] at e1 e2
      split at e1
      · rename_i h1
        split at e2
        · rename_i h2
          exact (eq_of_beq h1).trans (eq_of_beq h2).symm
        · cases e2
      · cases e1
    · cases i with
      | zero =>
        cases e
        exact ⟨cc, by rw [List.lookup_cons]; simp, fun v hv => by cases hv; exact ⟨.ref C, rfl, _, kin _ _ hcell, rfl⟩⟩
      | succ i => simp at e
  obtain ⟨u, rfl, ru⟩ : ∃ u, us = [.ref a, u] ∧ RelV v u := by
    cases r with
    | @cons _ u0 _ ur ra rw' =>
      cases rw' with
      | @cons _ u1 _ ur1 rb rc =>
        cases rc
        exact ⟨u1, by rw [show u0 = Value.ref a from ra], rb⟩
  refine codeAny_call_function hr.depth (kin _ _ lk) rfl S.co S.gen rfl (codeRec_of kin hcd) (hb _ _ _ _ ?_)
  refine wpAny_newFunctionEnv S.nocell (fun ⟨n, _⟩ hy => S.par n (List.of_mem_zip hy).1) (fun h₁ hns hsb => ⟨lim.fresh _ hsb, ?_⟩) S.kind
  have kp : ∀ b o, s.heap.get? b = some o → h₁.get? b = some o := fun b o e => hsb.extBut b o (Nat.ne_of_lt (Heap.lt_size e)) (Heap.get?_push_of_some _ e)
  let Fn : NF := ⟨nm, qual, params, initB msg slf arg fld k p0 p1 p2 p3 p4 p5 p6 p7 p8 p9, initSc slf arg, [(("__class__" : Str), cc)], cda⟩
  have I : L2.Inv (ncx CX P w K mg base [slf, arg, "__class__"] Fn fI A outer s H E) [] (startF [slf, arg, "__class__"] [.ref a, v] [some (.ref C)]) H { s with heap := h₁, toks := s.toks + 2 } := inv_startN (F := Fn) S hr.hd e0 rfl r Cat hns kp
  show codeAny _ _ (.func Fn.body (envF Fn fI s.heap.objs.size)) _ _
  refine ks_codeAny_funcAt ?_
  have kin1 : K.In h₁ := I.kIn
  obtain ⟨nmC, qC, NC, bs, bm, sn, sub, ab, col, dd, k0, k1, k2, k3, k5, hC, hbm⟩ := T.oex.cls
  obtain ⟨t1, hx⟩ := exo_at I.hok ha
  obtain ⟨m, hnsL, hloc⟩ := id I.loc
  obtain ⟨oD, hD1, hD2⟩ : ∃ oD, h₁.get? C = some oD ∧ oD.data = .cls cdC := by
    unfold clsIn at hcls
    split at hcls
    · rename_i c d cd' sl ho
      cases hcls
      exact ⟨_, kin1 _ _ ho, rfl⟩
    · cases hcls
  have hself : m slf = some (.ref a) := by
    obtain ⟨u', ru', q'⟩ := hloc 0 slf (.ref a) rfl rfl (.inl (S.par slf (by simp)))
    rcases q' with ⟨_, e⟩ | ⟨z, _⟩
    · rw [e, show u' = Value.ref a from ru']
    · rcases z with z | z
      · exact absurd ((S.par slf (by simp)).symm.trans z) (by simp)
      · exact absurd ((S.par slf (by simp)).symm.trans z) (by simp)
  have hxC : a ≠ C := fun z => by
    rw [z] at hx
    rw [hD1] at hx
    cases hx
    cases hD2
  have fin2 : ∀ s2, L2.Inv (ncx CX P w K mg base [slf, arg, "__class__"] Fn fI A outer s H E) [] (startF [slf, arg, "__class__"] [.ref a, v] [some (.ref C)]) H s2 →
      PySem.wpAt (model P w) (A.deeper (envF Fn fI s.heap.objs.size)) (.func Fn.body (envF Fn fI s.heap.objs.size)) (execs [.Assign [.Attribute (.Name slf p6) fld p7] (.Name arg p8) p9] (envF Fn fI s.heap.objs.size)) (fun f s' => CR CX outer P w H s Q E (.ok (.ret (match f with | .ret v => v | _ => .none))) s')
        (fun e s' => wpAny (model P w) (A.deeper (envF Fn fI s.heap.objs.size)) (leaving (envF Fn fI s.heap.objs.size) e) (fun _ s'' => CR CX outer P w H s Q E (.error e) s'') (fun e' s'' => CR CX outer P w H s Q E (.error e') s'') s') s2 := by
    intro s2 I2
    have hX : PSs (ncx CX P w K mg base [slf, arg, "__class__"] Fn fI A outer s H E) [.Assign [.Attribute (.Name slf p6) fld p7] (.Name arg p8) p9] _ :=
      pss_one (ps_ost (pe_var (i := 0) rfl (.inl (S.par slf (by simp))) hd1 hd2) (pe_var (i := 1) rfl (.inl (S.par arg (by simp))) hd3 hd4) (hsw _))
    refine PySem.wpAt_of_wpAny (wpAny_mono (hX.run [] s2 _ H { nx := fun _ H' => Q .non H', rt := Q } I2 ?_) (fun fl s' hs => ?_) fun e s' hs => hs)
    · exact ⟨v, rfl, .ref a, rfl, a, C, rfl, T.oex, hno, .inl ⟨ha, q⟩⟩
    · have fin : ∀ {σ' : L2.St} {H' : Hp} {v' : V} {u' : Value}, L2.Inv (ncx CX P w K mg base [slf, arg, "__class__"] Fn fI A outer s H E) [] σ' H' s' → L2.RelV v' u' → Q v' H' → CE outer P w H s Q u' s' :=
        fun {σ' H' v' u'} J rv q => ⟨v', H', J.os, J.bare, J.base, J.hok, rv, q⟩
      cases fl with
      | ret u' =>
        obtain ⟨v', σ', H', J, rv, q'⟩ := hs
        exact fin J rv q'
      | next =>
        obtain ⟨σ', H', J, q'⟩ := hs
        exact fin (v' := V.non) (u' := Value.none) J rfl q'
      | brk =>
        obtain ⟨_, _, _, q'⟩ := hs
        exact False.elim q'
      | cont =>
        obtain ⟨_, _, _, q'⟩ := hs
        exact False.elim q'
  show PySem.wpAt _ _ _ (execs (_ :: _) _) _ _ _
  obtain ⟨pl, hev⟩ := hev (envF Fn fI s.heap.objs.size)
  refine ks_wpAt_execs_cons (ks_wpAt_Expr_any (ks_wpAt_MethodCall (pl := pl) ?_ hev))
  have hks : (envF Fn fI s.heap.objs.size).kindOf "super" = some .globalImplicit := hsu
  have hkc : (envF Fn fI s.heap.objs.size).kindOf "__class__" = some .free := hcl
  refine ks_wpAt_super_base (env := envF Fn fI s.heap.objs.size) hks hkc (by decide) rfl (kin1 _ _ lk) rfl hp rfl (kin1 _ _ hcode) rfl hvs hfile htop ?_
  obtain ⟨mb, hb1, hb2⟩ := I.mod.blt
  refine ks_loadName_global S.kind hks (Calls.loadGlobal_builtin (mg := mg) (I.mod.glob.keeps I.bk) hmg (hb1.keeps I.bk) ((hb2 "super" (by decide)).trans (show bootBuiltins "super" = some (.type "super") by decide +kernel)) ⟨rfl, ?_⟩)
  refine wpAny_loadName_free S.kind hkc rfl ⟨_, kin1 _ _ hcell, rfl⟩ ?_
  refine wpAny_loadName_local S.kind (show _ = some NameKind.local by rw [har]; exact S.par slf (by simp)) hnsL (by rw [har]; exact hself) ?_
  refine ks_wpAny_isType_cls hD1 hD2 ⟨rfl, ?_⟩
  refine ks_wpAny_call_super hD1 hD2 hx rfl (fun c e => by cases e) (looks_mroIn kin1 T.self) (fun h2 eso k2 => ?_)
  have kin2 : K.In h2 := kin1.keeps k2
  have hal : alongIn K "__init__" ((cdC.mro.dropWhile (· != .ref C)).drop 1) = some (some (.builtin "ValueError.__init__")) := by
    have e := T.sup
    unfold ks_superIn at e
    rw [hcls] at e
    exact e
  have Ia : InstAt h2 a { cls := .ref C, dict := none, data := .fields #[.ref t1, .none, .none, .none, .bool false, .none] } C none := ⟨k2 _ _ hx, rfl, rfl, trivial⟩
  have hI : Looks (model P w) h2 (isInstance (.ref a) (.type "ValueError")) true := Ia.type.andThen (looks_subIn kin2 T.ve)
  refine kxs_getMethod kxs_ValueError eso (looks_opaque kin2 T.opq) (l₀ := cdC.mro) (fun A Q E s k q => wpAny_bind ((looks_clsIn kin2 hcls) A _ E s k (wpAny_pure q))) rfl kin2 hal hI hxC (by decide) ?_
  have I3 : L2.Inv (ncx CX P w K mg base [slf, arg, "__class__"] Fn fI A outer s H E) [] (startF [slf, arg, "__class__"] [.ref a, v] [some (.ref C)]) H ⟨h2.push (kxs_mw "ValueError.__init__" a), s.gens, s.drawn, s.toks + 2 + 1, s.os⟩ :=
    I.kept (h' := h2.push (kxs_mw "ValueError.__init__" a)) (t' := s.toks + 2 + 1) fun b o e => Heap.get?_push_of_some _ (k2 b o e)
  have I4 := I3.pins_of (pins' := [(h2.objs.size, kxs_mw "ValueError.__init__" a)]) (by
    intro p hp
    obtain rfl : p = _ := by simpa using hp
    have le : h₁.objs.size ≤ h2.objs.size := Nat.le_of_lt (Heap.lt_size eso)
    have hn : H h2.objs.size = none := I.hok.fresh le
    exact ⟨Heap.get?_push_size _ rfl, hn, fun z => by have := I.lt; rw [← z] at this; exact absurd (Nat.lt_of_lt_of_le this le) (Nat.lt_irrefl _), I.nofs le, fun v z => by cases z⟩)
  show wpAny _ _ (callWith p4 (.ref h2.objs.size) [] (backTo p4 (starEach [.Constant (.str msg) k p3] (envF Fn fI s.heap.objs.size))) []) _ _ _
  have hPA : PA (ncx CX P w K mg base [slf, arg, "__class__"] Fn fI A outer s H E) [.Constant (.str msg) k p3] _ := pa_cons pe_str pa_nil (by rfl)
  refine kxs_callWith (i := "ValueError.__init__") (x := a) rfl (Calls.evalArgs_plain (thn (wpAny_mono (hPA.run p4 [(h2.objs.size, kxs_mw "ValueError.__init__" a)] _ _ H (fun vs H' => H' = H ∧ vs = [.str msg]) I4 ?_) (fun _ _ x => x) ?_) ?_))
  · exact ⟨rfl, rfl⟩
  · exact fun e s' x => x
  · rintro us s4 ⟨vs, H4, I5, r5, eH, rfl⟩
    rw [eH] at I5
    have hu := (I5.pin (h2.objs.size, kxs_mw "ValueError.__init__" a) (by simp)).1
    obtain ⟨t5, he⟩ := exo_at I5.hok ha
    refine ⟨hu, ?_⟩
    have hz : us.length ≤ sizeLine := by
      rw [← Paired.length r5]
      show 1 ≤ sizeLine
      decide
    show wpAny _ _ (call (.ref h2.objs.size) us []) _ _ _
    obtain ⟨h5, g5, d5, tk5, os5⟩ := s4
    refine wpAny_call (codeAny_of_tree ?_)
    show wpAny _ _ (callAny (.ref h2.objs.size) ⟨us, []⟩) _ _ _
    simp only [callAny]
    refine wpAny_bind (wpAny_load hu ?_)
    simp only [kxs_mw, show (Value.type "method-wrapper" == Value.type "method" || Value.type "method-wrapper" == Value.type "builtin_function_or_method" || Value.type "method-wrapper" == Value.type "method-wrapper") = true by decide, if_true]
    refine KFB.if_so (by decide) ?_
    refine wpAny_bind (check_bound_init PySem.F.excBase_ValueError.toExcCallFacts (I5.kIn _ _ hC) he rfl ?_)
    refine wpAny_bind (wpAny_pure (wpAny_pure ?_))
    refine ⟨plainId_quiet PySem.F.excBase_ValueError.init.plain _, codeAny_builtin PySem.F.excBase_ValueError.initEntry ?_⟩
    refine exc_init_tree (cls := .ref C) (t0 := t5) (dv := none) (c2 := .none) (c3 := .none) (b4 := .bool false) he hz fun h6 k6 e6 _ => ?_
    have J := I5.write (t' := tk5) (x := a) (e := a) (o := exo a C none) (by rw [ha]; exact True.intro) (.inl rfl) k6 ⟨_, e6⟩ (exo_ok e6)
    have eu : upd H a (exo a C none) = H := by
      funext b
      by_cases hb : b = a
      · rw [hb, upd_same, ha]
      · rw [upd_ne hb]
    rw [eu] at J
    exact fin2 _ (J.pins_of fun p hp => absurd hp (by simp))
end Ev

set_option maxRecDepth 100000
/-! Ev, part AC: what is asked of an own exception that is handled: its class, its field; how many items are the same. -/
namespace Ev
open PySem PySem.Spec L2 PyProof.Rows
/-- xs.count(y), flat items -/
def rCnt (K : PySem.W.Frag) : V → List V → Hp → VK → Prop := fun x xs H Q => ∃ (a : Addr) (ys : List V) (y : V), x = V.ref a ∧ xs = [y] ∧ SqL K H a ys ∧ flatV y = true ∧ ys.all flatV = true ∧ Q (.int ((ys.countP fun z => eqV z y) : Nat)) H
theorem cnt_same {ys : List V} {its : List Value} {y : V} (rv : Vals ys its) (f : ys.all flatV = true) : its.countP (eqU y) = ys.countP fun z => eqV z y := by
  induction rv with
  | nil => rfl
  | @cons v u vs us r rs ih =>
    have f' : flatV v = true ∧ vs.all flatV = true := by simpa using f
    rw [List.countP_cons, List.countP_cons, ih f'.2, eqU_of r f'.1]
theorem mt_cnt {X : Cx} : MtR X "list.count" (rCnt X.K) := by
  intro pins s σ H x xs v us Q I rx rxs h
  obtain ⟨a, ys, y, rfl, rfl, hs, fy, fys, q⟩ := h
  cases rx
  obtain ⟨uy, rfl, ry⟩ := rxs.one
  obtain ⟨its, rv, ⟨⟨cls, dd, data, sl⟩, n, ho, hc, hdn, hd⟩, hlen⟩ := I.list hs
  dsimp only at hc hd
  subst hc hd
  refine call_meets PySem.F.slot_list_count ⟨_, ho, rfl⟩ PySem.F.entry_list_count (PySem.F.args_list_count_2 _ _) (SeqAt.list_countAt a its.toArray n dd sl uy (eqU y)) ⟨ho, fun u' hu' => mem_eqAt ry fy rv fys u' (by simpa using hu'), ?_⟩
  refine ⟨.int ((ys.countP fun z => eqV z y) : Nat), H, I.tok _, ⟨s.toks, ?_⟩, q⟩
  show Value.int ((its.toArray.toList.countP (eqU y) : Nat) : Int) s.toks = _
  rw [show its.toArray.toList = its from rfl, cnt_same rv fys]
/-- the object of a pinned exception: its class D, its dict dd -/
theorem inst_pin {X : Cx} {pins : List (Addr × Obj)} {σ : L2.St} {H : Hp} {s : Shared} {p : Addr × Obj} {D dd : Addr} {fs : List (Str × V)} (I : L2.Inv X pins σ H s) (hp : p ∈ X.pn) (hz : Zc (.ref D) (some dd) p.2) (hf : ∃ vs, p.2.data = .fields vs) (ed : H dd = some (.xd fs)) :
    ∃ od, PySem.W.InstAt s.heap p.1 p.2 D (some od) ∧ ∀ n v, fs.lookup n = some v → ∃ u, PySem.W.lookIn n od = some (some u) ∧ RelV v u := by
  obtain ⟨hg, _⟩ := I.pin p (List.mem_append_left _ hp)
  obtain ⟨vs, hd⟩ := hf
  have hx : ObjOk X.prog X.w H s.heap dd (.xd fs) := I.hok dd _ ed
  obtain ⟨mA, hns, hr⟩ := hx
  obtain ⟨od, ho, hl⟩ := lookIn_ns hns
  refine ⟨od, ⟨hg, hz.1, by unfold PySem.W.notCls; rw [hd] <;> rfl, by rw [hz.2]; exact ho⟩, fun n v hv => ?_⟩
  obtain ⟨u, hu, ru⟩ := RelO.some_of (v := v) (o := mA n) (by rw [← hv]; exact hr n)
  exact ⟨u, by rw [hl, hu], ru⟩
/-- isinstance(e, c), e the pinned exception -/
theorem call_isP {X : Cx} {p : Addr × Obj} {D dd : Addr} (hp : p ∈ X.pn) (C : ExcC X.K D) (hz : Zc (.ref D) (some dd) p.2) (hf : ∃ vs, p.2.data = .fields vs) :
    CallR X (.builtin "isinstance") (fun xs H Q => ∃ (c : V) (cv : Value) (b : Bool) (fs : List (Str × V)), xs = [.ref p.1, c] ∧ (∀ u, RelV c u → u = cv) ∧ PySem.W.kitOne X.K (.ref D) cv = some b ∧ H dd = some (.xd fs) ∧ Q (.bl b) H) := by
  intro pins s σ H xs us Q I r h
  obtain ⟨c, cv, b, fs, rfl, hcv, e, ed, q⟩ := h
  cases r with
  | @cons _ u0 _ ur ra rr =>
    cases ra
    obtain ⟨uc, rfl, rc⟩ : ∃ uc, ur = [uc] ∧ RelV c uc := by
      cases rr with
      | cons rt r2 =>
        cases r2
        exact ⟨_, rfl, rt⟩
    obtain rfl := hcv _ rc
    obtain ⟨od, J, _⟩ := inst_pin I hp hz hf ed
    have hcl : (PySem.W.clsIn X.K D).isSome = true := by
      obtain ⟨cd, hc, _⟩ := PySem.W.any_some C.hd
      rw [hc]; rfl
    exact PySem.W.kia_one (PySem.W.kitx_exc hcl C.hg C.hk C.hs C.ha C.hn C.ht C.hm) I.kIn J e (fun z => nomatch z) fun tk => ⟨.bl b, H, I.kept (t' := tk) fun _ _ z => z, rfl, q⟩
/-- e.f, e the pinned exception -/
theorem pe_fldP {X : Cx} {p : Addr × Obj} {D dd : Addr} {e : Expr} {te : TE} {pos : Pos} {n : Str} (hp : p ∈ X.pn) (C : ExcC X.K D) (hno : PySem.W.findIn X.K (.ref D) n = some none) (hz : Zc (.ref D) (some dd) p.2) (hf : ∃ vs, p.2.data = .fields vs)
    (he : PE X e te) (hb : attributeBase e n X.env (eval e X.env) = eval e X.env := by rfl) :
    PE X (.Attribute e n pos) (fun σ H Q => te σ H fun x H1 => x = .ref p.1 ∧ ∃ (fs : List (Str × V)) (v : V), H1 dd = some (.xd fs) ∧ fs.lookup n = some v ∧ Q v H1) := by
  refine ⟨fun pins s σ H Q I h => ?_⟩
  refine attr_of hb (thn (he.run pins s σ H _ I h) fun u s1 hh => ?_)
  obtain ⟨x, H1, I1, rx, ex, fs, v, ed, l, q⟩ := hh
  subst ex
  obtain rfl : u = Value.ref p.1 := rx
  obtain ⟨od, J, hl⟩ := inst_pin I1 hp hz hf ed
  obtain ⟨u, hu, ru⟩ := hl n v l
  exact HandSPX.exc_get I1.kIn J C.hg C.hk C.hs (PySem.W.findObj_own C.hd hno rfl hu) (handed_of ru) ⟨v, H1, I1.tok _, ru, q⟩
end Ev

set_option maxRecDepth 100000
/-! Ev, part AD: the word for an own exception that is handled. -/
namespace Ev
open PySem PySem.Spec L2 PyProof.Rows
def cNm : Nat → Str
  | 0 => "TextError" | 1 => "DeckError" | 2 => "ArgumentError" | 3 => "PaperError" | _ => "TooMany"
def cFd : Nat → Str
  | 0 => "at" | _ => "reason"
/-- the word by the class and the field -/
def wordV : Nat → V → Option Str
  | 0, .int i => if i.natAbs.log2 < 1900 then some ("text " ++ Str.ofString (toString i)) else none
  | 1, .str s => if s.length ≤ 1000 then some ("deck " ++ s) else none
  | 2, .str s => if s.length ≤ 1000 then some ("argument " ++ s) else none
  | 3, .str s => if s.length ≤ 1000 then some ("paper " ++ s) else none
  | 4, .str s => if s.length ≤ 1000 then some ("many " ++ s) else none
  | _, _ => none
/-- the classes as the written part has them -/
structure ErrK (K : PySem.W.Frag) (mg : Str → Option Value) (cA : Nat → Addr) : Prop where
  gl : ∀ c < 5, mg (cNm c) = some (.ref (cA c))
  ex : ∀ c < 5, ExcC K (cA c)
  fa : ∀ c < 5, PySem.W.findIn K (.ref (cA c)) "at" = some none
  fr : ∀ c < 5, PySem.W.findIn K (.ref (cA c)) "reason" = some none
  is : ∀ c < 5, ∀ d < 5, PySem.W.kitOne K (.ref (cA c)) (.ref (cA d)) = some (decide (c = d))
  ve : ∀ c < 5, PySem.W.kitOne K (.ref (cA c)) (.type "ValueError") = some true
abbrev xI (p : Nat → Pos) (k : Nat) (x : Str) : Expr := .Call (.Name "isinstance" (p k)) [.Name "error" (p (k + 1)), .Name x (p (k + 2))] [] (p (k + 3))
abbrev xS (p : Nat → Pos) (k : Nat) (x : Str) : Expr := .Constant (.str x) 0 (p k)
/-- the text of the def -/
def wordB (p : Nat → Pos) : List Stmt :=
  [.Assign [.Name "heads" (p 0)] (.List [xS p 1 "deck ", xS p 2 "argument ", xS p 3 "paper ", xS p 4 "many "] (p 5)) (p 6),
   .Assign [.Name "kinds_of" (p 7)] (.List [xI p 8 "DeckError", xI p 12 "ArgumentError", xI p 16 "PaperError", xI p 20 "TooMany", xI p 24 "TextError"] (p 28)) (p 29),
   .If (.BoolOp .Or [.Compare (.Call (.Attribute (.Name "kinds_of" (p 30)) "count" (p 31)) [.Constant (.bool true) 0 (p 32)] [] (p 33)) [.NotEq] [.Constant (.int 1) 0 (p 34)] (p 35), .UnaryOp .Not (xI p 36 "ValueError") (p 40)] (p 41)) [.Return (some (xS p 42 "other")) (p 43)] [] (p 44),
   .Return (some (.IfExp (.Subscript (.Name "kinds_of" (p 45)) (.Constant (.int 4) 0 (p 46)) (p 47)) (.BinOp (xS p 48 "text ") .Add (.Call (.Name "str" (p 49)) [.Attribute (.Name "error" (p 50)) "at" (p 51)] [] (p 52)) (p 53))
     (.BinOp (.Subscript (.Name "heads" (p 54)) (.Call (.Attribute (.Name "kinds_of" (p 55)) "index" (p 56)) [.Constant (.bool true) 0 (p 57)] [] (p 58)) (p 59)) .Add (.Attribute (.Name "error" (p 60)) "reason" (p 61)) (p 62)) (p 63))) (p 64)]
structure WordS (sc : Scope) : Prop where
  kind : sc.kind = .function
  loc : ∀ x ∈ (["error", "heads", "kinds_of"] : List Str), sc.names.lookup x = some .local
  glo : ∀ x ∈ (["isinstance", "DeckError", "ArgumentError", "PaperError", "TooMany", "TextError", "ValueError", "str"] : List Str), sc.names.lookup x = some .globalImplicit
section
variable {X : Cx} {p : Nat → Pos} {cA : Nat → Addr} {q : Addr × Obj} {c : Nat} {dd : Addr} {v : V}
theorem word_body (hN : X.N = (["error", "heads", "kinds_of"] : List Str)) (hs : WordS X.env.scope) (hk : ErrK X.K X.mg cA) (hi : X.mg "isinstance" = none) (hst : X.mg "str" = none) (hve : X.mg "ValueError" = none)
    (p1 : ((p 31).endLine == (p 33).line) = true) (p2 : ((p 56).endLine == (p 58).line) = true) (hc : c < 5) (hq : q ∈ X.pn) (hz : Zc (.ref (cA c)) (some dd) q.2) (hf : ∃ vs, q.2.data = .fields vs) :
    PSs X (wordB p) (fun D σ H => σ.length = 3 ∧ σ[0]? = some (some (.ref q.1)) ∧ H dd = some (.xd [(cFd c, v)]) ∧ ∃ w, wordV c v = some w ∧ ∀ a b, H a = none → H b = none → a ≠ b → ∀ hs ks, D.rt (.str w) (upd (upd H a (.lst hs)) b (.lst ks))) := by
  have nd : X.N.Nodup := by rw [hN]; decide
  have n0 : X.N[0]? = some ("error" : Str) := by rw [hN]; rfl
  have n1 : X.N[1]? = some ("heads" : Str) := by rw [hN]; rfl
  have n2 : X.N[2]? = some ("kinds_of" : Str) := by rw [hN]; rfl
  have v0 : Vis X.env.scope "error" := .inl (hs.loc _ (by simp))
  have v1 : Vis X.env.scope "heads" := .inl (hs.loc _ (by simp))
  have v2 : Vis X.env.scope "kinds_of" := .inl (hs.loc _ (by simp))
  have gI : Gl X "isinstance" := hs.glo _ (by simp)
  have gS : Gl X "str" := hs.glo _ (by simp)
  have gV : Gl X "ValueError" := hs.glo _ (by simp)
  have bI : bootBuiltins "isinstance" = some (.builtin "isinstance") := by decide +kernel
  have bS : bootBuiltins "str" = some (.type "str") := by decide +kernel
  have bV : bootBuiltins "ValueError" = some (.type "ValueError") := by decide +kernel
  have isE : ∀ (k d : Nat) (x : Str), d < 5 → x = cNm d → Gl X x → PE X (xI p k x) (fun σ H Q => σ[0]? = some (some (.ref q.1)) ∧ H dd = some (.xd [(cFd c, v)]) ∧ Q (.bl (decide (c = d))) H) := fun k d x hd ex gx => by
    have dbg : (x == ("__debug__" : Str)) = false := by
      rw [ex]
      match d, hd with
      | 0, _ => decide
      | 1, _ => decide
      | 2, _ => decide
      | 3, _ => decide
      | 4, _ => decide
    refine PE.weak (pe_callB (call_isP hq (hk.ex c hc) hz hf) gI hi bI (pa_cons (pe_var n0 v0) (pa_cons (pe_glob gx (by rw [ex]; exact hk.gl d hd) (v := .ref (cA d)) rfl dbg) pa_nil))) fun σ H Q ⟨h1, h2, h3⟩ => ?_
    exact ⟨_, h1, _, _, _, _, rfl, fun u r => r, hk.is c hc d hd, h2, h3⟩
  have isV : ∀ (k : Nat), PE X (xI p k "ValueError") (fun σ H Q => σ[0]? = some (some (.ref q.1)) ∧ H dd = some (.xd [(cFd c, v)]) ∧ Q (.bl true) H) := fun k => by
    refine PE.weak (pe_callB (call_isP hq (hk.ex c hc) hz hf) gI hi bI (pa_cons (pe_var n0 v0) (pa_cons (pe_bltn gV hve bV (v := .ty "ValueError") rfl) pa_nil))) fun σ H Q ⟨h1, h2, h3⟩ => ?_
    exact ⟨_, h1, _, _, _, _, rfl, fun u r => r, hk.ve c hc, h2, h3⟩
  have S1 : PS X (.Assign [.Name "heads" (p 0)] (.List [xS p 1 "deck ", xS p 2 "argument ", xS p 3 "paper ", xS p 4 "many "] (p 5)) (p 6)) _ :=
    ps_set (i := 1) nd n1 (.inl (hs.loc _ (by simp))) (pe_lst (pa_cons pe_str (pa_cons pe_str (pa_cons pe_str (pa_cons pe_str pa_nil))))) rfl (.inr (hs.loc _ (by simp)))
  have S2 : PS X (.Assign [.Name "kinds_of" (p 7)] (.List [xI p 8 "DeckError", xI p 12 "ArgumentError", xI p 16 "PaperError", xI p 20 "TooMany", xI p 24 "TextError"] (p 28)) (p 29)) _ :=
    ps_set (i := 2) nd n2 (.inl (hs.loc _ (by simp))) (pe_lst (pa_cons (isE 8 1 _ (by decide) rfl (hs.glo _ (by simp))) (pa_cons (isE 12 2 _ (by decide) rfl (hs.glo _ (by simp))) (pa_cons (isE 16 3 _ (by decide) rfl (hs.glo _ (by simp)))
      (pa_cons (isE 20 4 _ (by decide) rfl (hs.glo _ (by simp))) (pa_cons (isE 24 0 _ (by decide) rfl (hs.glo _ (by simp))) pa_nil)))))) rfl (.inr (hs.loc _ (by simp)))
  have bm : ∀ {pc pa pk pm : Pos} {nm : Str} {id : String} {r : V → List V → Hp → VK → Prop}, Slot "list" nm id → typeOf (.builtin id) = pure (.type "method_descriptor") → MtR X id r → (pa.endLine == pm.line) = true →
      PE X (.Call (.Attribute (.Name "kinds_of" pc) nm pa) [.Constant (.bool true) 0 pk] [] pm) _ := fun sl ty mt hp =>
    pe_bm PySem.F.plainAttrs_list sl ty mt (pe_var n2 v2) (pa_cons pe_bl pa_nil) rfl rfl hp
  have S3 : PS X (.If (.BoolOp .Or [.Compare (.Call (.Attribute (.Name "kinds_of" (p 30)) "count" (p 31)) [.Constant (.bool true) 0 (p 32)] [] (p 33)) [.NotEq] [.Constant (.int 1) 0 (p 34)] (p 35), .UnaryOp .Not (xI p 36 "ValueError") (p 40)] (p 41)) [.Return (some (xS p 42 "other")) (p 43)] [] (p 44)) _ :=
    ps_if (PW.pt (pw_or (pt_cmpR op_ne (bm PySem.F.slot_list_count PySem.F.type_list_count mt_cnt p1) pe_int rfl) (pw_or1 (pt_not (pt_val (isV 36)))))) (pss_one (ps_ret pe_str)) pss_nil
  have S4 : PS X (.Return (some (.IfExp (.Subscript (.Name "kinds_of" (p 45)) (.Constant (.int 4) 0 (p 46)) (p 47)) (.BinOp (xS p 48 "text ") .Add (.Call (.Name "str" (p 49)) [.Attribute (.Name "error" (p 50)) "at" (p 51)] [] (p 52)) (p 53))
     (.BinOp (.Subscript (.Name "heads" (p 54)) (.Call (.Attribute (.Name "kinds_of" (p 55)) "index" (p 56)) [.Constant (.bool true) 0 (p 57)] [] (p 58)) (p 59)) .Add (.Attribute (.Name "error" (p 60)) "reason" (p 61)) (p 62)) (p 63))) (p 64)) _ :=
    ps_ret (pe_ifExp (pt_val (pe_ix ix_seq (pe_var n2 v2) pe_int (fun _ _ => rfl))) (pe_op op_add_str pe_str (pe_callTy call_str_int gS hst bS (pa_cons (pe_fldP hq (hk.ex c hc) (hk.fa c hc) hz hf (pe_var n0 v0)) pa_nil)))
      (pe_op op_add_str (pe_ix ix_seq (pe_var n1 v1) (bm PySem.F.slot_list_index PySem.F.type_list_index mt_index p2) (fun _ _ => rfl)) (pe_fldP hq (hk.ex c hc) (hk.fr c hc) hz hf (pe_var n0 v0))))
  refine PSs.weak (pss_cons S1 (pss_cons S2 (pss_cons S3 (pss_one S4)))) fun D σ H ⟨hl, h0, hd, w, hw, fin⟩ => ?_
  obtain ⟨s0, s1, s2, rfl⟩ : ∃ s0 s1 s2, σ = [s0, s1, s2] := by
    match σ, hl with
    | [a, b, c], _ => exact ⟨a, b, c, rfl⟩
  have e0 : s0 = some (.ref q.1) := by simpa using h0
  subst e0
  refine ⟨by decide, fun a ha => ?_⟩
  have dn : dd ≠ a := fun z => by rw [z, ha] at hd; cases hd
  have hd1 : ∀ xs, upd H a (.lst xs) dd = some (.xd [(cFd c, v)]) := fun xs => by rw [upd_ne dn]; exact hd
  refine ⟨rfl, hd1 _, rfl, hd1 _, rfl, hd1 _, rfl, hd1 _, rfl, hd1 _, by show 5 ≤ sizeLine; decide, fun b hb => ?_⟩
  have ab : a ≠ b := fun z => by rw [← z, upd_same] at hb; cases hb
  have hb0 : H b = none := by rw [upd_ne (Ne.symm ab)] at hb; exact hb
  have db : dd ≠ b := fun z => by rw [z, hb0] at hd; cases hd
  have hd2 : ∀ xs ys, upd (upd H a (.lst xs)) b (.lst ys) dd = some (.xd [(cFd c, v)]) := fun xs ys => by rw [upd_ne db]; exact hd1 xs
  have fin := fin a b ha hb0 ab
  have hb2 : ∀ xs ys, upd (upd H a (.lst xs)) b (.lst ys) b = some (.lst ys) := fun xs ys => upd_same
  have ha2 : ∀ xs ys, upd (upd H a (.lst xs)) b (.lst ys) a = some (.lst xs) := fun xs ys => by rw [upd_ne ab, upd_same]
  have h0' : (([some (V.ref q.1), s1, s2].set 1 (some (.ref a))).set 2 (some (.ref b)))[0]? = some (some (V.ref q.1)) := rfl
  obtain rfl | rfl | rfl | rfl | rfl : c = 0 ∨ c = 1 ∨ c = 2 ∨ c = 3 ∨ c = 4 := by omega
  · refine ⟨.ref b, rfl, .inl ⟨rfl, _, .inl (.inl (hb2 _ _))⟩, ⟨b, _, .bl true, rfl, rfl, .inl (.inl (hb2 _ _)), rfl, rfl, rfl, false, rfl, ?_⟩⟩
    simp only [Bool.false_eq_true, if_false]
    refine ⟨h0', hd2 _ _, true, rfl, ?_⟩
    simp only [Bool.not_true, Bool.false_eq_true, if_false]
    refine ⟨.ref b, rfl, .inl ⟨b, _, 4, .bl true, rfl, rfl, .inl (.inl (hb2 _ _)), rfl, true, rfl, ?_⟩⟩
    simp only [if_true]
    obtain ⟨i, rfl, hi, rfl⟩ : ∃ i, v = .int i ∧ i.natAbs.log2 < 1900 ∧ w = "text " ++ Str.ofString (toString i) := by
      cases v <;> simp only [wordV] at hw <;> try (cases hw; done)
      split at hw
      · cases hw
        exact ⟨_, rfl, by assumption, rfl⟩
      · cases hw
    refine ⟨.ref q.1, rfl, rfl, _, _, hd2 _ _, rfl, i, rfl, by omega, "text ", _, rfl, rfl, ?_, fin _ _⟩
    have l1 : i.natAbs < 2 ^ 1900 := by
      by_cases z : i.natAbs = 0
      · rw [z]; exact Nat.two_pow_pos 1900
      · exact (Nat.log2_lt z).mp hi
    have l2 : (2 : Nat) ^ 1900 ≤ 10 ^ 760 := by
      rw [show (1900 : Nat) = 10 * 190 from rfl, Nat.pow_mul, show (760 : Nat) = 4 * 190 from rfl, Nat.pow_mul]
      exact Nat.pow_le_pow_left (by decide) _
    have l3 := int_text_length_le10 (a := i) (k := 760) (by decide) (Nat.lt_of_lt_of_le l1 l2)
    show Str.length (Str.ofString "text ") + Str.length (Str.ofString (toString i)) ≤ sizeLine
    rw [PySem.ofString_length (toString i)]
    have : Str.length (Str.ofString "text ") ≤ 100 := by decide
    have : 2000 ≤ sizeLine := by decide
    omega
  · refine ⟨.ref b, rfl, .inl ⟨rfl, _, .inl (.inl (hb2 _ _))⟩, ⟨b, _, .bl true, rfl, rfl, .inl (.inl (hb2 _ _)), rfl, rfl, rfl, false, rfl, ?_⟩⟩
    simp only [Bool.false_eq_true, if_false]
    refine ⟨h0', hd2 _ _, true, rfl, ?_⟩
    simp only [Bool.not_true, Bool.false_eq_true, if_false]
    refine ⟨.ref b, rfl, .inl ⟨b, _, 4, .bl false, rfl, rfl, .inl (.inl (hb2 _ _)), rfl, false, rfl, ?_⟩⟩
    simp only [Bool.false_eq_true, if_false]
    obtain ⟨t, rfl, ht, rfl⟩ : ∃ t, v = .str t ∧ t.length ≤ 1000 ∧ w = "deck " ++ t := by
      cases v <;> simp only [wordV] at hw <;> try (cases hw; done)
      split at hw
      · cases hw
        exact ⟨_, rfl, by assumption, rfl⟩
      · cases hw
    refine ⟨.ref a, rfl, .ref b, rfl, .inl ⟨rfl, _, .inl (.inl (hb2 _ _))⟩, ⟨b, _, .bl true, 0, .bl true, rfl, rfl, .inl (.inl (hb2 _ _)), rfl, rfl, rfl, rfl, ?_, ?_⟩⟩
    · intro m z' hm hz'
      revert hz'
      match m, hm with
      | m, hm => exact absurd hm (Nat.not_lt_zero _)
    · refine .inl ⟨a, _, 0, .str "deck ", rfl, rfl, .inl (.inl (ha2 _ _)), rfl, .ref q.1, rfl, rfl, _, _, hd2 _ _, rfl, "deck ", t, rfl, rfl, ?_, fin _ _⟩
      have : ("deck " : Str).length ≤ 100 := by decide
      show _ ≤ sizeLine
      have : 2000 ≤ sizeLine := by decide
      omega
  · refine ⟨.ref b, rfl, .inl ⟨rfl, _, .inl (.inl (hb2 _ _))⟩, ⟨b, _, .bl true, rfl, rfl, .inl (.inl (hb2 _ _)), rfl, rfl, rfl, false, rfl, ?_⟩⟩
    simp only [Bool.false_eq_true, if_false]
    refine ⟨h0', hd2 _ _, true, rfl, ?_⟩
    simp only [Bool.not_true, Bool.false_eq_true, if_false]
    refine ⟨.ref b, rfl, .inl ⟨b, _, 4, .bl false, rfl, rfl, .inl (.inl (hb2 _ _)), rfl, false, rfl, ?_⟩⟩
    simp only [Bool.false_eq_true, if_false]
    obtain ⟨t, rfl, ht, rfl⟩ : ∃ t, v = .str t ∧ t.length ≤ 1000 ∧ w = "argument " ++ t := by
      cases v <;> simp only [wordV] at hw <;> try (cases hw; done)
      split at hw
      · cases hw
        exact ⟨_, rfl, by assumption, rfl⟩
      · cases hw
    refine ⟨.ref a, rfl, .ref b, rfl, .inl ⟨rfl, _, .inl (.inl (hb2 _ _))⟩, ⟨b, _, .bl true, 1, .bl true, rfl, rfl, .inl (.inl (hb2 _ _)), rfl, rfl, rfl, rfl, ?_, ?_⟩⟩
    · intro m z' hm hz'
      revert hz'
      match m, hm with
      | 0, _ => intro e; cases e; rfl
    · refine .inl ⟨a, _, 1, .str "argument ", rfl, rfl, .inl (.inl (ha2 _ _)), rfl, .ref q.1, rfl, rfl, _, _, hd2 _ _, rfl, "argument ", t, rfl, rfl, ?_, fin _ _⟩
      have : ("argument " : Str).length ≤ 100 := by decide
      show _ ≤ sizeLine
      have : 2000 ≤ sizeLine := by decide
      omega
  · refine ⟨.ref b, rfl, .inl ⟨rfl, _, .inl (.inl (hb2 _ _))⟩, ⟨b, _, .bl true, rfl, rfl, .inl (.inl (hb2 _ _)), rfl, rfl, rfl, false, rfl, ?_⟩⟩
    simp only [Bool.false_eq_true, if_false]
    refine ⟨h0', hd2 _ _, true, rfl, ?_⟩
    simp only [Bool.not_true, Bool.false_eq_true, if_false]
    refine ⟨.ref b, rfl, .inl ⟨b, _, 4, .bl false, rfl, rfl, .inl (.inl (hb2 _ _)), rfl, false, rfl, ?_⟩⟩
    simp only [Bool.false_eq_true, if_false]
    obtain ⟨t, rfl, ht, rfl⟩ : ∃ t, v = .str t ∧ t.length ≤ 1000 ∧ w = "paper " ++ t := by
      cases v <;> simp only [wordV] at hw <;> try (cases hw; done)
      split at hw
      · cases hw
        exact ⟨_, rfl, by assumption, rfl⟩
      · cases hw
    refine ⟨.ref a, rfl, .ref b, rfl, .inl ⟨rfl, _, .inl (.inl (hb2 _ _))⟩, ⟨b, _, .bl true, 2, .bl true, rfl, rfl, .inl (.inl (hb2 _ _)), rfl, rfl, rfl, rfl, ?_, ?_⟩⟩
    · intro m z' hm hz'
      revert hz'
      match m, hm with
      | 0, _ => intro e; cases e; rfl
      | 1, _ => intro e; cases e; rfl
    · refine .inl ⟨a, _, 2, .str "paper ", rfl, rfl, .inl (.inl (ha2 _ _)), rfl, .ref q.1, rfl, rfl, _, _, hd2 _ _, rfl, "paper ", t, rfl, rfl, ?_, fin _ _⟩
      have : ("paper " : Str).length ≤ 100 := by decide
      show _ ≤ sizeLine
      have : 2000 ≤ sizeLine := by decide
      omega
  · refine ⟨.ref b, rfl, .inl ⟨rfl, _, .inl (.inl (hb2 _ _))⟩, ⟨b, _, .bl true, rfl, rfl, .inl (.inl (hb2 _ _)), rfl, rfl, rfl, false, rfl, ?_⟩⟩
    simp only [Bool.false_eq_true, if_false]
    refine ⟨h0', hd2 _ _, true, rfl, ?_⟩
    simp only [Bool.not_true, Bool.false_eq_true, if_false]
    refine ⟨.ref b, rfl, .inl ⟨b, _, 4, .bl false, rfl, rfl, .inl (.inl (hb2 _ _)), rfl, false, rfl, ?_⟩⟩
    simp only [Bool.false_eq_true, if_false]
    obtain ⟨t, rfl, ht, rfl⟩ : ∃ t, v = .str t ∧ t.length ≤ 1000 ∧ w = "many " ++ t := by
      cases v <;> simp only [wordV] at hw <;> try (cases hw; done)
      split at hw
      · cases hw
        exact ⟨_, rfl, by assumption, rfl⟩
      · cases hw
    refine ⟨.ref a, rfl, .ref b, rfl, .inl ⟨rfl, _, .inl (.inl (hb2 _ _))⟩, ⟨b, _, .bl true, 3, .bl true, rfl, rfl, .inl (.inl (hb2 _ _)), rfl, rfl, rfl, rfl, ?_, ?_⟩⟩
    · intro m z' hm hz'
      revert hz'
      match m, hm with
      | 0, _ => intro e; cases e; rfl
      | 1, _ => intro e; cases e; rfl
      | 2, _ => intro e; cases e; rfl
    · refine .inl ⟨a, _, 3, .str "many ", rfl, rfl, .inl (.inl (ha2 _ _)), rfl, .ref q.1, rfl, rfl, _, _, hd2 _ _, rfl, "many ", t, rfl, rfl, ?_, fin _ _⟩
      have : ("many " : Str).length ≤ 100 := by decide
      show _ ≤ sizeLine
      have : 2000 ≤ sizeLine := by decide
      omega
end
end Ev

set_option maxRecDepth 100000
/-! Ev, part AE: the word's def is called in an except suite. -/
namespace Ev
open PySem PySem.Spec L2 L2H PyProof.Rows
/-- the facts of a text's _law_word -/
structure WordK (P : Program) (w : World) (K : PySem.W.Frag) (mg : Str → Option Value) (cA : Nat → Addr) (f : Addr) (fd : FuncData) (p : Nat → Pos) (st : Stmt) : Prop where
  fn : ∃ x qual, Fun K x qual st f fd
  sc : FnScope ["error", "heads", "kinds_of"] ["error"] (defScope st)
  bd : defBody st = wordB p
  ws : WordS (defScope st)
  er : ErrK K mg cA
  gI : mg "isinstance" = none
  gS : mg "str" = none
  gV : mg "ValueError" = none
  p1 : ((p 31).endLine == (p 33).line) = true
  p2 : ((p 56).endLine == (p 58).line) = true
  bi : Binds K fd ["error"] []
  gl : mg "_law_word" = some (.ref f)
section
variable {P : Program} {w : World} {K : PySem.W.Frag} {mg : Str → Option Value} {base : Heap} {cA : Nat → Addr} {f : Addr} {fd : FuncData} {pp : Nat → Pos} {st : Stmt}
theorem word_run (T : WordK P w K mg cA f fd pp st) {A : Around} {outer : List PySem.Env} {s : Shared} {H : Hp} {Q : VK} {p : Addr × Obj} {dd : Addr} {c : Nat} {v : V} {wd : Str} (hr : A.depth < recursionLimit) (hpin : PinOk outer H s p) (e0 : Env0 P w K mg base A outer s H)
    (hc : c < 5) (hz : Zc (.ref (cA c)) (some dd) p.2) (hf : ∃ vs, p.2.data = .fields vs) (hd : H dd = some (.xd [(cFd c, v)])) (hw : wordV c v = some wd) (hq : ∀ a b, H a = none → H b = none → a ≠ b → ∀ hs ks, Q (.str wd) (upd (upd H a (.lst hs)) b (.lst ks))) :
    codeAny (model P w) A (.call (.ref f) ⟨[.ref p.1], []⟩) (CR (fun _ _ _ _ _ _ => False) outer P w H s Q (fun _ _ _ => False)) s := by
  obtain ⟨x, qual, F⟩ := T.fn
  obtain ⟨oc, od, kV, doc, pm, an, cdv, ct, osl, e, lk, hcd⟩ := F.ex
  have S := T.sc
  have kin : K.In s.heap := e0.mod.kin.keeps fun b o e => (e0.bs b o e).1
  have lim : s.heap.NoLimit := e0.mod.nolimit.keeps fun b o e => (e0.bs b o e).1
  have hb := T.bi s [.ref p.1] kin rfl
  subst e
  have r : Vals [V.ref p.1] [Value.ref p.1] := .cons rfl .nil
  refine codeAny_call_function hr (kin _ _ lk) rfl S.co S.gen rfl (PySem.W.codeRec_of kin hcd) (hb _ _ _ _ ?_)
  refine wpAny_newFunctionEnv_cells S.kind (fun y hy => ?_) fun env he s1 X1 => ?_
  · obtain ⟨n, u⟩ := y
    have hy : n = "error" ∧ u = .ref p.1 := by simpa using hy
    rw [hy.1]
    exact .inl (T.ws.loc _ (by simp))
  subst he
  refine ⟨lim.keeps X1.toInCall.keep, codeAny_func ?_⟩
  have I : L2.Inv (cxH (fun _ _ _ _ _ _ => False) P w K mg base ["error", "heads", "kinds_of"] qual (defScope st) f cdv A outer s H (fun _ _ _ => False) p) [] (L2.start ["error", "heads", "kinds_of"] [.ref p.1]) H s1 := inv_startH S hpin e0 rfl r X1
  have body := word_body (X := cxH (fun _ _ _ _ _ _ => False) P w K mg base ["error", "heads", "kinds_of"] qual (defScope st) f cdv A outer s H (fun _ _ _ => False) p) (p := pp) (v := v) rfl T.ws T.er T.gI T.gS T.gV T.p1 T.p2 hc (show p ∈ [p] by simp) hz hf
  rw [← T.bd] at body
  refine wpAny_mono (body.run [] s1 _ H { nx := fun _ H' => Q .non H', rt := Q } I ⟨rfl, rfl, hd, wd, hw, hq⟩) (fun fl s' hs => ?_) fun e s' hs => hs
  cases fl with
  | ret u => obtain ⟨v, σ', H', J, rv, q⟩ := hs; exact ⟨v, H', J.os, J.bare, J.base, J.hok, rv, q⟩
  | next => obtain ⟨σ', H', J, q⟩ := hs; exact ⟨.non, H', J.os, J.bare, J.base, J.hok, rfl, q⟩
  | brk => obtain ⟨_, _, _, q⟩ := hs; exact q.elim
  | cont => obtain ⟨_, _, _, q⟩ := hs; exact q.elim
end
section
variable {X : Cx} {cA : Nat → Addr} {f a dd : Addr} {fd : FuncData} {pp : Nat → Pos} {st : Stmt} {oe : Obj} {pn : List (Addr × Obj)} {c i : Nat} {v : V} {n : Str} {px pn' pos : Pos}
theorem pe_word (T : WordK X.prog X.w X.K X.mg cA f fd pp st) (hr : ∀ k, (X.A.mark k).depth < recursionLimit) (hg : Gl X "_law_word") (hkp : PySem.W.keepIn X.K (.ref f) = true) (hN : X.N[i]? = some n) (hv : Vis X.env.scope n) (hd1 : (n == ("__debug__" : Str)) = false) (hd2 : (n == ("__classdict__" : Str)) = false)
    (hc : c < 5) (hz : Zc (.ref (cA c)) (some dd) oe) (hf : ∃ vs, oe.data = .fields vs) :
    PE (X.suite a ((a, oe) :: pn)) (.Call (.Name "_law_word" px) [.Name n pn'] [] pos) (fun σ H Q => σ[i]? = some (some (.ref a)) ∧ H dd = some (.xd [(cFd c, v)]) ∧ ∃ wd, wordV c v = some wd ∧ ∀ p q, H p = none → H q = none → p ≠ q → ∀ hs ks, Q (.str wd) (upd (upd H p (.lst hs)) q (.lst ks))) := by
  refine ⟨fun pins s σ H Q I ⟨h0, hd, wd, hw, hq⟩ => ?_⟩
  have ha : PA (X.suite a ((a, oe) :: pn)) [.Name n pn'] _ := pa_cons (pe_var (i := i) hN hv hd1 hd2) pa_nil
  refine wpAny_Call_Name_kw (ld_glob I hg T.gl ?_ (by decide))
  refine PySem.W.callWith_K (h₀ := X.base) I.ok.mod.kin hkp (thn (ha.run pos pins s σ H (fun vs H1 => vs = [.ref a] ∧ H1 = H) I ⟨_, h0, rfl, rfl⟩) fun us s1 ⟨vs, H1, I1, r, ev, eH⟩ => ⟨I1.kIn, ?_⟩) rfl rfl
  subst ev
  rw [eH] at I1
  obtain ⟨u, rfl, ru⟩ : ∃ u, us = [u] ∧ RelV (.ref a) u := by
    cases r with
    | cons rt r2 =>
      cases r2
      exact ⟨_, rfl, rt⟩
  obtain rfl : u = Value.ref a := ru
  have P1 := I1.pin (a, oe) (List.mem_append_left _ List.mem_cons_self)
  have hpin : PinOk X.stack H s1 (a, oe) := ⟨P1.1, P1.2.1, fun hm => (List.mem_cons.mp (I1.stkSub a hm)).elim P1.2.2.1 P1.2.2.2.1, P1.2.2.2.2⟩
  refine wpAny_call (codeAny_mono (word_run (base := X.base) T (hr _) hpin I1.env0 hc hz hf hd hw hq) fun r s' hq' => ?_)
  cases r with
  | error e => exact hq'.elim
  | ok fl =>
    cases fl with
    | ret u => exact I1.after hq'
    | next => exact hq'.elim
    | brk => exact hq'.elim
    | cont => exact hq'.elim
end
end Ev

set_option maxRecDepth 100000
/-! Ev, part AF: raise, and try .. except, are sound. -/
namespace Ev
open PySem PySem.Spec L2 L2H PyProof.Rows
/-- what leaves with an own error of the class c, its field a -/
def EXr (K : PySem.W.Frag) (cA : Nat → Addr) : Nat → PyData → Hp → XK → Prop := fun c a H E => ∀ v Z dx, Fz K H Z v a → H dx = none → E (.ref (cA c)) (some dx) (upd H dx (.xd [(cFd c, v)]))
def CXn : CXT := fun _ _ _ _ _ _ => False
structure RaiK (X : Cx) (cA : Nat → Addr) (x : Str) (c : Nat) : Prop where
  ex : ∃ (fI : Addr) (fd : FuncData) (ps : List Str), PySem.W.findIn X.K (.ref (cA c)) "__init__" = some (some (.ref fI)) ∧ PySem.W.typeIn X.K (.ref fI) = some (.type "function") ∧ FnOk X.prog X.w X.K X.mg X.base CXn 1 fI fd ps (spInit (cA c) (cFd c)) ∧ Binds X.K fd ps []
  oex : OexC X.K (cA c)
  room : Room 2 X.A
  gl : X.mg x = some (.ref (cA c))
structure TryK (X : Cx) (cA : Nat → Addr) : Prop where
  wd : ∃ (f : Addr) (fd : FuncData) (pp : Nat → Pos) (st : Stmt), WordK X.prog X.w X.K X.mg cA f fd pp st ∧ PySem.W.keepIn X.K (.ref f) = true
  dep : ∀ k, (X.A.mark k).depth < recursionLimit
  card : ∃ C, X.mg "CardError" = some (.ref C) ∧ ∀ c < 5, PySem.W.exmOne X.K (.ref (cA c)) (.ref C) = some true
section
variable {X : Cx} {S : Nat → Prop} {fa : Nat → V → Prop} {G : Tab} {E : XK} {cA : Nat → Addr} {a : Expr} {ma : ME} {x : Str} {c : Nat} {p pos pos' : Pos}
theorem p_rai (hc : X.calm = true) (tk : Takes X (fun cls d _ H => E cls d H)) (R : RaiK X cA x c) (hg : Gl X x) (hdb : (x == ("__debug__" : Str)) = false) (he : PE X a (tE X.K fa (xx (EXr X.K cA) E) G ma))
    (hs : starEach [a] X.env = [(false, eval a X.env)]) : PS X (.Raise (some (.Call (.Name x p) [a] [] pos)) none pos') (t1 S X.K fa (xx (EXr X.K cA) E) G (.rai c ma)) := by
  obtain ⟨fI, fd, ps, iC, tI, F1, hb⟩ := R.ex
  refine PS.weak (ps_raise hc tk (pmk_oex R.oex iC tI F1 R.room hb .nil (fun _ _ _ _ _ _ _ q => q.elim) hg R.gl (pa_cons he pa_nil hs) hdb hs rfl)) fun D σ H ⟨Z, env, ok, h⟩ => ?_
  unfold exs1 at h
  refine tM.mono (FinO.of ok h) fun v H1 ⟨Z1, env1, r, m1, hr, hf⟩ => ?_
  cases r with
  | v d =>
    have f := hf σ _ Z1 H1 (m1.sm (S := S)).st
    have fz : Fz X.K H1 Z1 v d := hr
    refine ⟨by show 1 ≤ 1000; decide, fun e he => ⟨e, v, rfl, upd_same, fun dx h1 h2 => ⟨rfl, dx, [(cFd c, v)], upd_same, by rw [upd_ne h2, upd_same], ?_, ?_⟩⟩⟩
    · rw [upd_ne h2] at h1; exact h1
    · have hx : H1 dx = none := by rw [upd_ne h2] at h1; exact h1
      have q := f v Z1 dx fz hx
      have e2 : upd (del (upd (upd (upd H1 e (exo e (cA c) none)) dx (exd dx [(cFd c, v)])) e (exo e (cA c) (some dx))) e) dx (.xd [(cFd c, v)]) = upd H1 dx (.xd [(cFd c, v)]) := by
        funext b
        by_cases hb : b = dx
        · subst hb; rw [upd_same, upd_same]
        · rw [upd_ne hb, upd_ne hb]
          by_cases hbe : b = e
          · subst hbe; rw [del_same, he]
          · rw [del_ne hbe, upd_ne hbe, upd_ne hb, upd_ne hbe]
      rw [e2]
      exact q
  | n xs => exact hf.elim
  | p i => exact hf.elim
  | r xs => exact hf.elim
  | f n => exact hf.elim
theorem wordV_of {K : PySem.W.Frag} {H : Hp} {Z : Addr → Prop} {v : V} {d : PyData} {w : Str} (f : Fz K H Z v d) (h : wordD c d = some w) : c < 5 ∧ wordV c v = some w := by
  match c, d, h with
  | 0, .int i, h => cases f; exact ⟨by decide, h⟩
  | 1, .str t, h => cases f; exact ⟨by decide, h⟩
  | 2, .str t, h => cases f; exact ⟨by decide, h⟩
  | 3, .str t, h => cases f; exact ⟨by decide, h⟩
  | 4, .str t, h => cases f; exact ⟨by decide, h⟩
theorem noOwn_not {env : Env} (h : noOwn env = true) {σ : L2.St} {a : Addr} : ¬ Own σ env a := fun ⟨i, xs, e, _⟩ => by
  have := List.all_eq_true.mp h _ (List.mem_of_getElem? e)
  cases this
/-- where nothing is owned and all stands -/
theorem sm_quiet {K : PySem.W.Frag} {H H' : Hp} {Z : Addr → Prop} {σ : L2.St} {env : Env} (ok : Eok K fa H Z σ env) (hn : noOwn env = true) (k : ∀ a o, H a = some o → H' a = some o) : Sm S K fa σ H Z env σ H' Z env := by
  have st : Stp (Own σ env) Z H (Own σ env) Z H' := ⟨fun a o h _ => k a o h, fun a o h => ⟨o, k a o h⟩, fun _ h _ => h, fun _ h => .inl h, fun _ h => .inl h, ok.muz, ok.zl⟩
  refine ⟨st, fun _ _ h => ⟨h, rfl⟩, fun _ _ h _ => .inl ⟨h, rfl⟩, fun _ _ => rfl, rfl, ⟨fun i w e => ?_, ok.apart, fun a za => ?_, ok.len⟩⟩
  · obtain ⟨v, e1, q⟩ := ok.nm i w e
    refine ⟨v, e1, ?_⟩
    cases w with
    | d x => exact Fz.step st q
    | l xs =>
      have := List.all_eq_true.mp hn _ (List.mem_of_getElem? e)
      cases this
    | k xs =>
      have := List.all_eq_true.mp hn _ (List.mem_of_getElem? e)
      cases this
    | r xs =>
      obtain ⟨a, us, rfl, q1, q3⟩ := q
      exact ⟨a, us, rfl, RdL.step st q1, q3.step st⟩
    | f n => exact q
  · obtain ⟨vs, e⟩ := ok.zl a za
    exact ⟨vs, k a _ e⟩
theorem p_tryw {body : List Stmt} {b : List MS} {i : Nat} {y : Str} {np px pn' pw pr pe : Pos} (hs : X.stack = X.env :: X.outer) (hf : X.env.frame = some X.env.locals) (hN : X.N.Nodup) (hi : X.N[i]? = some y) (hl : X.env.scope.names.lookup y = some .local)
    (tk : Takes X (fun cls d _ H => E cls d H)) (T : TryK X cA) (hg1 : Gl X "CardError") (hg2 : Gl X "_law_word") (hd1 : (y == ("__debug__" : Str)) = false) (hd2 : (y == ("__classdict__" : Str)) = false)
    (hb : ∀ (W : WX) (pn : List (Addr × Obj)) (xe : Value → Shared → Prop), Takes (X.tr pn xe) W → PassesOwn (model X.prog X.w) X.A X.env xe → PSs (X.tr pn xe) body (tn S X.K fa (xx (EXr X.K cA) (fun cls d H => ∀ σ, σ.length = X.N.length → W cls d σ H)) G b)) :
    PS X (.Try body [.ExceptHandler (some (.Name "CardError" np)) (some y) [.Return (some (.Call (.Name "_law_word" px) [.Name y pn'] [] pw)) pr] pe] [] [] pos) (t1 S X.K fa (xx (EXr X.K cA) E) G (.tryw b)) := by
  obtain ⟨f, fd, pp, st, Wk, kp⟩ := T.wd
  obtain ⟨C, hC, hcard⟩ := T.card
  refine PS.weak (ps_try_as (i := i) hs hf hN hi hl ⟨hg1, by decide, .inl hC⟩ tk hb (ts := fun a cls d D σ H => ∃ c dd v wd, c < 5 ∧ cls = .ref (cA c) ∧ d = some dd ∧ σ[i]? = some (some (V.ref a)) ∧ H dd = some (.xd [(cFd c, v)]) ∧ wordV c v = some wd ∧
    ∀ p q, H p = none → H q = none → p ≠ q → ∀ hs ks, D.rt (.str wd) (upd (upd H p (.lst hs)) q (.lst ks))) (fun a oe cls d pn hz hfl => ⟨fun pins s σ H D I ⟨c, dd, v, wd, hc, e1, e2, h0, hd, hw, hq⟩ => ?_⟩)) fun D σ H ⟨Z, env, ok, h⟩ => ?_
  · subst e1 e2
    exact (pss_one (ps_ret (pe_word (c := c) (v := v) Wk T.dep hg2 kp hi (.inl hl) hd1 hd2 hc hz hfl))).run pins s σ H D I ⟨h0, hd, wd, hw, hq⟩
  · refine ⟨Z, env, ok, ?_⟩
    unfold exs1 at h
    split at h
    · rename_i hn
      revert h
      cases exs G b env with
      | nx e => exact fun h => h
      | rt e r => exact fun h => h
      | bk e => exact fun h => h.elim
      | ct e => exact fun h => h.elim
      | bad => exact fun h => h.elim
      | ex c d =>
        have et : tryO env (.ex c d) = match wordD c d with
          | some x => .rt env (.v (.str x))
          | none => .bad := rfl
        rw [et]
        cases hw : wordD c d with
        | none => exact fun h => h.elim
        | some x =>
          intro h σ1 Mu1 Z1 H1 st1 v Z2 dx fz hdx σ2 hl2
          obtain ⟨c5, hv⟩ := wordV_of fz hw
          have k1 : ∀ a o, H a = some o → H1 a = some o := fun a o e => st1.keep a o e (noOwn_not hn)
          refine ⟨true, hcard c c5, fun _ a ha => ⟨c, dx, v, x, c5, rfl, rfl, ?_, upd_same, hv, fun p q hp hq ne hs ks => ?_⟩, fun z => Bool.noConfusion z⟩
          · refine List.getElem?_set_self ?_
            rw [hl2]
            exact (List.getElem?_eq_some_iff.mp hi).1
          · have pd : p ≠ dx := fun z => by rw [z, upd_same] at hp; cases hp
            have qd : q ≠ dx := fun z => by rw [z, upd_same] at hq; cases hq
            have hp1 : H1 p = none := by rw [upd_ne pd] at hp; exact hp
            have hq1 : H1 q = none := by rw [upd_ne qd] at hq; exact hq
            refine h σ Z _ (.str x) (sm_quiet ok hn fun e o eo => ?_) (.str x)
            have e1 := k1 e o eo
            have n1 : e ≠ dx := fun z => by rw [z, hdx] at e1; cases e1
            have n2 : e ≠ p := fun z => by rw [z, hp1] at e1; cases e1
            have n3 : e ≠ q := fun z => by rw [z, hq1] at e1; cases e1
            rw [upd_ne n3, upd_ne n2, upd_ne n1]
            exact e1
    · exact h.elim
end
end Ev

set_option maxHeartbeats 8000000
/-! Ev, part Y: the translation of statements. -/
namespace Ev
open PySem PySem.Spec L2 PyProof.Rows

def isComp : Expr → Bool
  | .ListComp _ _ _ _ => true
  | .SetComp _ _ _ _ => true
  | .DictComp _ _ _ _ _ => true
  | _ => false
/-- is the comprehension's value swapped with a local name's -/
def swB (sc scope : Scope) (x : Str) (p q : Pos) : Bool := sc.names.lookup x == some .local && p.line == q.line && !(scope.names.any fun (n, k) => n == x && (k == .local || k == .cell))
/-- which stores are swapped; none: not looked at -/
def swp (sc : Scope) (ts vs : List Expr) : Option (Option (List Str)) :=
  if !(ts.length == 2 || ts.length == 3) || vs.length != ts.length then some none
  else if vs.any fun | .Starred .. => true | _ => false then some none
  else if (ts.filterMap fun
    | .Name id pos => if sc.names.lookup id == some .local && pos.line == (ts.head?.map (·.pos.line)).getD 0 then some id else none
    | _ => none).length != ts.length || (ts.filterMap fun
    | .Name id pos => if sc.names.lookup id == some .local && pos.line == (ts.head?.map (·.pos.line)).getD 0 then some id else none
    | _ => none).eraseDups.length != (ts.filterMap fun
    | .Name id pos => if sc.names.lookup id == some .local && pos.line == (ts.head?.map (·.pos.line)).getD 0 then some id else none
    | _ => none).length then some none
  else if vs.all (foldedForSure 8) then some none
  else if vs.all (constantsAlone 8) then none
  else some (some (ts.filterMap fun
    | .Name id pos => if sc.names.lookup id == some .local && pos.line == (ts.head?.map (·.pos.line)).getD 0 then some id else none
    | _ => none))
/-- names as targets -/
def nmsOf (N : List Str) (sc : Scope) (fv : Str → Bool) : List Expr → Option (List Nat)
  | [] => some []
  | .Name x _ :: r => if locB sc fv x then match ixOf N x, nmsOf N sc fv r with
      | some i, some is => some (i :: is)
      | _, _ => none
    else none
  | _ => none
/-- places as targets -/
def setsOf (N : List Str) (sc : Scope) (f : Expr → Option ME) : List Expr → Option (List (Nat × ME))
  | [] => some []
  | .Subscript (.Name x _) b _ :: r => if visB sc x && nmOk x && !isSlc b then match ixOf N x, f b, setsOf N sc f r with
      | some i, some m, some ts => some ((i, m) :: ts)
      | _, _, _ => none
    else none
  | _ => none
/-- names and places as targets -/
def mixOf (N : List Str) (sc : Scope) (fv : Str → Bool) (f : Expr → Option ME) : List Expr → Option (List (Nat × Option ME))
  | [] => some []
  | .Name x _ :: r => if locB sc fv x then match ixOf N x, mixOf N sc fv f r with
      | some i, some ts => some ((i, none) :: ts)
      | _, _ => none
    else none
  | .Subscript (.Name x _) b _ :: r => if visB sc x && nmOk x && !isSlc b then match ixOf N x, f b, mixOf N sc fv f r with
      | some i, some m, some ts => some ((i, some m) :: ts)
      | _, _, _ => none
    else none
  | _ => none
def names2 : List Expr → Option (List Str)
  | [] => some []
  | .Name x _ :: r => (names2 r).map (x :: ·)
  | _ => none
section
variable (N : List Str) (fs : List (Str × Nat × Nat)) (cs : List (Str × PyData))
def trA (n : Nat) (sc : Scope) (fv : Str → Bool) (tg e : Expr) : Option MS := match tg with
  | .Name x p => if locB sc fv x then match ixOf N x, trE N fs cs n sc fv e with
      | some i, some m => match e with
        | .SetComp _ _ _ _ => none
        | .DictComp _ _ _ _ _ => none
        | _ => some (.par [i] [m])
      | _, _ => none
    else none
  | .Subscript (.Name x p) b q => match setsOf N sc (trE N fs cs n sc fv) [.Subscript (.Name x p) b q], trE N fs cs n sc fv e with
    | some [t], some m => some (.sets [t] [m])
    | _, _ => none
  | .Tuple ts _ _ => match e with
    | .Tuple vs _ _ => match many (trE N fs cs n sc fv) vs with
      | some ms => if ms.length = ts.length ∧ ts.length ≤ 1000 then match nmsOf N sc fv ts with
          | some is => match swp sc ts vs with
            | some none => some (.par is ms)
            | some (some ys) => if names2 ts = some ys ∧ (ys.length = 2 ∨ ys.length = 3) ∧ is.Nodup ∧ ys.all (lclB sc) = true then some (.par is ms) else none
            | none => none
          | none => match setsOf N sc (trE N fs cs n sc fv) ts, swp sc ts vs with
            | some us, some none => some (.sets us ms)
            | none, some none => match mixOf N sc fv (trE N fs cs n sc fv) ts with
              | some us => some (.mix us ms)
              | none => none
            | _, _ => none
        else none
      | none => none
    | .ListComp elt gs scp q => match trG.go N sc fv n ts, trE N fs cs n sc fv (.ListComp elt gs scp q) with
      | some us, some m => some (.unp us m)
      | _, _ => none
    | e => if isComp e then none else match trG N sc fv n tg, trE N fs cs n sc fv e with
      | some t, some m => some (.asg t m)
      | _, _ => none
  | _ => none
variable (xs : List (Str × Nat)) (tw : Bool)
mutual
def trS1 : Nat → Scope → (Str → Bool) → Stmt → MS
  | 0, _, _, _ => .bad
  | n + 1, sc, fv, s => match s with
    | .Expr (.Constant (.str _) _ _) _ => .pas
    | .Expr e _ => if isComp e then .bad else match trE N fs cs n sc fv e with
      | some m => .exp m
      | none => .bad
    | .Return none _ => .retN
    | .Return (some e) _ => match trE N fs cs n sc fv e with
      | some m => .ret m
      | none => .bad
    | .Pass _ => .pas
    | .Break _ => .brk
    | .Continue _ => .cnt
    | .If c a b _ => match trT N fs cs n sc fv c with
      | some m => .ite m (trS n sc fv a) (trS n sc fv b)
      | none => .bad
    | .While c b [] _ => match trT N fs cs n sc fv c with
      | some m => .whl m (trS n sc fv b)
      | none => .bad
    | .For tg it b [] _ => match trG N sc fv n tg, trI (trE N fs cs n sc fv) sc (isTup tg) it with
      | some t, some (w, its) => .for_ t w its (trS n sc fv b)
      | _, _ => .bad
    | .AugAssign (.Name x _) o e _ => if locB sc fv x then match ixOf N x, bopR o, trE N fs cs n sc fv e with
        | some i, some p, some m => .aug i p m
        | _, _, _ => .bad
      else .bad
    | .AugAssign (.Subscript (.Name x _) b _) o e _ => if visB sc x && nmOk x && !isSlc b then match ixOf N x, bopR o, trE N fs cs n sc fv b, trE N fs cs n sc fv e with
        | some i, some p, some mb, some m => .augs i mb p m
        | _, _, _, _ => .bad
      else .bad
    | .Assign [tg] e _ => match trA N fs cs n sc fv tg e with
      | some m => m
      | none => .bad
    | .Raise (some (.Call (.Name x _) [e] [] _)) none _ => if glB sc x && nmOk x then match xs.lookup x, trE N fs cs n sc fv e with
        | some c, some m => .rai c m
        | _, _ => .bad
      else .bad
    | .Try body [.ExceptHandler (some (.Name cb _)) (some y) [.Return (some (.Call (.Name wf _) [.Name y2 _] [] _)) _] _] [] [] _ =>
      if tw && cb == ("CardError" : Str) && glB sc ("CardError" : Str) && wf == ("_law_word" : Str) && glB sc ("_law_word" : Str) && y2 == y && lclB sc y && nmOk y && (ixOf N y).isSome then .tryw (trS n sc fv body) else .bad
    | _ => .bad
def trS : Nat → Scope → (Str → Bool) → List Stmt → List MS
  | _, _, _, [] => []
  | 0, _, _, _ => [.bad]
  | n + 1, sc, fv, s :: r => trS1 n sc fv s :: trS n sc fv r
end
end
section
variable {X : Cx} {fa : Nat → V → Prop} {EX : Nat → PyData → Hp → XK → Prop} {E : XK} {G : Tab} {N : List Str} {fs : List (Str × Nat × Nat)} {cs : List (Str × PyData)} {sc : Scope} {fv : Str → Bool} {S : Nat → Prop}
theorem bk_of (g : Good X fa EX E G N fs cs sc fv) : X.env.blockKind = .function := by
  unfold Env.blockKind
  rw [g.hsc, g.fk]
  rfl
theorem swaps_not {e : Expr} {o : Option Expr} {l : Nat} {env : PySem.Env} (h : isComp e = false) : swapsWith e o l env = pure false := by
  cases e <;> first | rfl | cases h
theorem swaps_tgt {e t : Expr} {l : Nat} {env : PySem.Env} (h : ∀ x p, t ≠ .Name x p) : swapsWith e (some t) l env = pure false := by
  cases e <;> first | rfl | (cases t <;> first | rfl | exact absurd rfl (h _ _))
theorem swaps_sole {e t : Expr} {l : Nat} {env : PySem.Env} (h : ∀ x p, t ≠ .Name x p) : swapsWithSole [t] e l env = pure false := by
  show swapsWith e (some t) l env = pure false
  exact swaps_tgt h
theorem swaps_lc (g : Good X fa EX E G N fs cs sc fv) {elt : Expr} {gs : List Comprehension} {scope : Scope} {q p : Pos} {x : Str} {l : Nat} : swapsWith (.ListComp elt gs scope q) (some (.Name x p)) l X.env = pure (swB sc scope x p q) := by
  unfold swapsWith
  have hk : X.env.kindOf x = sc.names.lookup x := by rw [← g.hsc]; rfl
  simp only [bk_of g, hk, Expr.pos]
  unfold swB
  rfl
theorem swp_ok (g : Good X fa EX E G N fs cs sc fv) {ts vs : List Expr} {k k2 : Nat} {p p2 : Pos} {r : Option (List Str)} (h : swp sc ts vs = some r) : swappedStores [.Tuple ts k p] (.Tuple vs k2 p2) X.env = pure r := by
  have hk : ∀ x, X.env.kindOf x = sc.names.lookup x := fun x => by rw [← g.hsc]; rfl
  unfold swappedStores
  simp only [bk_of g, hk]
  have e0 : (ScopeKind.function != ScopeKind.function) = false := rfl
  simp only [e0, Bool.or_false]
  unfold swp at h
  generalize ts.filterMap _ = nm at h ⊢
  split at h
  · rename_i c; cases h; exact if_pos c
  · rename_i c; refine Eq.trans (if_neg c) ?_
    split at h
    · rename_i c; cases h; exact if_pos c
    · rename_i c; refine Eq.trans (if_neg c) ?_
      split at h
      · rename_i c; cases h; exact if_pos c
      · rename_i c; refine Eq.trans (if_neg c) ?_
        split at h
        · rename_i c; cases h; exact if_pos c
        · rename_i c; refine Eq.trans (if_neg c) ?_
          split at h
          · cases h
          · rename_i c; cases h; exact if_neg c
end
end Ev

set_option maxHeartbeats 8000000
/-! Ev, part Z: the translation of statements is sound. -/
namespace Ev
open PySem PySem.Spec L2 PyProof.Rows
section
variable {X : Cx} {fa : Nat → V → Prop} {EX : Nat → PyData → Hp → XK → Prop} {E : XK} {G : Tab} {N : List Str} {fs : List (Str × Nat × Nat)} {cs : List (Str × PyData)} {sc : Scope} {fv : Str → Bool} {S : Nat → Prop}
theorem asg_all {env : PySem.Env} : ∀ {es : List Expr}, (∀ e ∈ es, nst e = true) → (assignEach es env).length = es.length ∧ (assignEach es env).findIdx? (·.1) = none
  | [], _ => ⟨rfl, rfl⟩
  | a :: es, q => by
    obtain ⟨q1, q2⟩ := asg_all (env := env) fun e he => q e (List.mem_cons_of_mem _ he)
    rw [asgn_of (q a List.mem_cons_self)]
    refine ⟨by rw [List.length_cons, List.length_cons, q1], ?_⟩
    rw [List.findIdx?_cons, q2]
    rfl
theorem nms_ok (g : Good X fa EX E G N fs cs sc fv) : ∀ {ts : List Expr} {is : List Nat}, nmsOf N sc fv ts = some is → PGs X ts (gNames is) ∧ ts.length = is.length ∧ ∀ e ∈ ts, nst e = true
  | [], is, h => by cases h; exact ⟨gn_nil, rfl, fun e h => by simp at h⟩
  | e :: ts, is, h => by
    cases e <;> try (cases h; done)
    rename_i x p
    unfold nmsOf at h
    split at h
    · rename_i hl
      split at h
      · rename_i i js h1 h2
        cases h
        obtain ⟨a1, a2, a3⟩ := nms_ok g h2
        refine ⟨gn_cons (by rw [g.hN]; exact g.nd) (by rw [g.hN]; exact ixOf_get h1) (g.loc hl).1 (g.loc hl).2 a1 (by rw [asgn_of rfl]; rfl), by rw [List.length_cons, List.length_cons, a2], fun e he => ?_⟩
        rcases List.mem_cons.mp he with rfl | he
        · rfl
        · exact a3 e he
      · cases h
    · cases h
theorem aug_store {b : Expr} (hb : isSlc b = false) : ∀ ov iv new, augStore b ov iv new = (do holding [new, ov, iv] (setItem ov iv new); release [new, ov, iv] []; pure .next) := by
  cases b <;> first | exact fun _ _ _ => rfl | cases hb
theorem sets_ok (g : Good X fa EX E G N fs cs sc fv) {f : Expr → Option ME} (hf : ∀ e m, f e = some m → PE X e (tE X.K fa (xx EX E) G m)) : ∀ {ts : List Expr} {us : List (Nat × ME)}, setsOf N sc f ts = some us → PGs X ts (gSets X.K fa G us) ∧ ts.length = us.length ∧ (∀ e ∈ ts, nst e = true) ∧ ∀ t u, ts = [t] → us = [u] → PG X t (gSet X.K fa G u.1 u.2) ∧ ∀ x p, t ≠ .Name x p
  | [], us, h => by cases h; exact ⟨gs_set_nil, rfl, fun e h => (by simp at h), fun t u e => (by cases e)⟩
  | e :: ts, us, h => by
    cases e <;> try (cases h; done)
    rename_i o b pos
    cases o <;> try (cases h; done)
    rename_i x p
    unfold setsOf at h
    split at h
    · rename_i hc
      simp only [Bool.and_eq_true, Bool.not_eq_true'] at hc
      obtain ⟨⟨hv, hn⟩, hb⟩ := hc
      split at h
      · rename_i i m ws h1 h2 h3
        cases h
        obtain ⟨a1, a2, a3, _⟩ := sets_ok g hf h3
        have pg : PG X (.Subscript (.Name x p) b pos) (gSet X.K fa G i m) := by
          refine g_set (by rw [g.hN]; exact ixOf_get h1) (g.vis hv) (nmOk_of hn).1 (nmOk_of hn).2 (tE.noX (hf b m h2)) ?_
          cases b <;> first | exact fun _ => rfl | cases hb
        refine ⟨gs_set_cons pg a1 (by rw [asgn_of rfl]; rfl), by rw [List.length_cons, List.length_cons, a2], fun e he => ?_, fun t u e1 e2 => ?_⟩
        · rcases List.mem_cons.mp he with rfl | he
          · rfl
          · exact a3 e he
        · cases e1
          cases e2
          exact ⟨pg, fun _ _ q => by cases q⟩
      · cases h
    · cases h
theorem mix_ok (g : Good X fa EX E G N fs cs sc fv) {f : Expr → Option ME} (hf : ∀ e m, f e = some m → PE X e (tE X.K fa (xx EX E) G m)) : ∀ {ts : List Expr} {us : List (Nat × Option ME)}, mixOf N sc fv f ts = some us → PGs X ts (gMix X.K fa G us) ∧ ts.length = us.length ∧ ∀ e ∈ ts, nst e = true
  | [], us, h => by cases h; exact ⟨gm_nil, rfl, fun e h => (by simp at h)⟩
  | e :: ts, us, h => by
    cases e <;> try (cases h; done)
    · rename_i o b pos
      cases o <;> try (cases h; done)
      rename_i x p
      unfold mixOf at h
      split at h
      · rename_i hc
        simp only [Bool.and_eq_true, Bool.not_eq_true'] at hc
        obtain ⟨⟨hv, hn⟩, hb⟩ := hc
        split at h
        · rename_i i m ws h1 h2 h3
          cases h
          obtain ⟨a1, a2, a3⟩ := mix_ok g hf h3
          have pg : PG X (.Subscript (.Name x p) b pos) (gSet X.K fa G i m) := by
            refine g_set (by rw [g.hN]; exact ixOf_get h1) (g.vis hv) (nmOk_of hn).1 (nmOk_of hn).2 (tE.noX (hf b m h2)) ?_
            cases b <;> first | exact fun _ => rfl | cases hb
          refine ⟨gm_set pg a1 (by rw [asgn_of rfl]; rfl), by rw [List.length_cons, List.length_cons, a2], fun e he => ?_⟩
          rcases List.mem_cons.mp he with rfl | he
          · rfl
          · exact a3 e he
        · cases h
      · cases h
    · rename_i x p
      unfold mixOf at h
      split at h
      · rename_i hl
        split at h
        · rename_i i ws h1 h2
          cases h
          obtain ⟨a1, a2, a3⟩ := mix_ok g hf h2
          refine ⟨gm_name (g_name (by rw [g.hN]; exact g.nd) (by rw [g.hN]; exact ixOf_get h1) (g.loc hl).1 (g.loc hl).2) a1 (by rw [asgn_of rfl]; rfl), by rw [List.length_cons, List.length_cons, a2], fun e he => ?_⟩
          rcases List.mem_cons.mp he with rfl | he
          · rfl
          · exact a3 e he
        · cases h
      · cases h
theorem names2_ok : ∀ {ts : List Expr} {ys : List Str}, names2 ts = some ys → ∃ ps : List Pos, ps.length = ys.length ∧ ts = List.zipWith (fun y p => Expr.Name y p) ys ps
  | [], ys, h => by cases h; exact ⟨[], rfl, rfl⟩
  | e :: ts, ys, h => by
    cases e <;> try (cases h; done)
    rename_i x p
    obtain ⟨zs, h1, rfl⟩ := Option.map_eq_some_iff.mp h
    obtain ⟨ps, h2, h3⟩ := names2_ok h1
    exact ⟨p :: ps, by rw [List.length_cons, List.length_cons, h2], by rw [h3]; rfl⟩
theorem lcl_of (g : Good X fa EX E G N fs cs sc fv) {x : Str} (h : lclB sc x = true) : X.env.scope.names.lookup x = some .local := by
  unfold lclB at h
  rw [g.hsc]
  split at h
  · assumption
  · cases h
theorem nmsOf_cons {x : Str} {p : Pos} {r : List Expr} {is : List Nat} (h : nmsOf N sc fv (.Name x p :: r) = some is) : ∃ i js, is = i :: js ∧ ixOf N x = some i ∧ nmsOf N sc fv r = some js := by
  unfold nmsOf at h
  split at h
  · split at h
    · rename_i i js h1 h2
      cases h
      exact ⟨i, js, rfl, h1, h2⟩
    · cases h
  · cases h
theorem trA_ok (g : Good X fa EX E G N fs cs sc fv) {n : Nat} {tg e : Expr} {m : MS} {pos : Pos} (h : trA N fs cs n sc fv tg e = some m) (hS : ∀ i ∈ sto m, S i) : PS X (.Assign [tg] e pos) (t1 S X.K fa (xx EX E) G m) := by
  have ihE := (tr_ok (fa := fa) (EX := EX) (G := G) (N := N) (fs := fs) (cs := cs) n).1 X E sc fv g
  have hs : ∀ e m, trE N fs cs n sc fv e = some m → nst e = true := fun e m h => trE_nst h
  have nd : X.N.Nodup := by rw [g.hN]; exact g.nd
  unfold trA at h
  split at h
  · rename_i x p
    split at h
    · rename_i hl
      split at h
      · rename_i i me h1 h2
        have ix : X.N[i]? = some x := by rw [g.hN]; exact ixOf_get h1
        have plain : isComp e = false → PS X (.Assign [.Name x p] e pos) (t1 S X.K fa (xx EX E) G (.par [i] [me])) ∨ ¬ S i := fun hc => by
          by_cases q : S i
          · exact .inl (p_set q nd ix (g.loc hl).1 (ihE _ _ h2) (swaps_not hc) (g.loc hl).2)
          · exact .inr q
        have fin : S i → m = .par [i] [me] → PS X (.Assign [.Name x p] e pos) (t1 S X.K fa (xx EX E) G m) := fun q em => by
          subst em
          by_cases hc : isComp e = false
          · exact (plain hc).resolve_right fun z => z q
          · cases e <;> try (exact absurd rfl hc)
            · rename_i elt gs scope q2
              obtain ⟨tg, it, ifs, t, w, its, mifs, me', own, rfl, rfl, pi, bo, k1, k2, k3, k4, k5⟩ := lc_parts g h2
              cases hw : swB sc scope x p q2 with
              | true =>
                have hloc : X.env.scope.names.lookup x = some .local := by
                  unfold swB at hw
                  simp only [Bool.and_eq_true] at hw
                  rw [g.hsc]
                  exact eq_of_beq hw.1.1
                exact p_setLc q g.calm nd ix hloc (by rw [swaps_lc g, hw]) pi bo k1 k2 k3 k4 k5
              | false => exact p_set q nd ix (g.loc hl).1 (ihE _ _ h2) (by rw [swaps_lc g, hw]) (g.loc hl).2
            · cases h
            · cases h
        split at h
        · cases h
        · cases h
        · cases h
          exact fin (hS i (by simp [sto])) rfl
      · cases h
    · cases h
  · rename_i x p b q
    split at h
    · rename_i t me h1 h2
      cases h
      obtain ⟨a1, a2, a3, a4⟩ := sets_ok g ihE h1
      obtain ⟨a5, a6⟩ := a4 _ _ rfl rfl
      exact p_sets1 (ihE _ _ h2) a5 (swaps_sole a6) rfl (by rw [asgn_of rfl]; rfl)
    · cases h
  · rename_i ts k p
    split at h
    · rename_i vs k2 p2
      split at h
      · rename_i ms hm
        obtain ⟨pa, st, lm⟩ := many_ok ihE hs hm
        split at h
        · rename_i hl
          have hz : ts.length ≤ sizeLine := Nat.le_trans hl.2 (by decide)
          split at h
          · rename_i is hn
            obtain ⟨b1, b2, b3⟩ := nms_ok g hn
            obtain ⟨c1, c2⟩ := asg_all (env := X.env) b3
            split at h
            · rename_i hw
              cases h
              exact p_parT (fun i hi => hS i (by simpa [sto] using hi)) g.calm pa b1 b2.symm hz c1 c2 rfl (swp_ok g hw) (by rw [asgn_of rfl]; rfl)
            · rename_i ys hw
              split at h
              · rename_i hc
                obtain ⟨n2, hlen, hnd, hlc⟩ := hc
                cases h
                obtain ⟨ps, l1, rfl⟩ := names2_ok n2
                have S2 : ∀ i ∈ is, S i := fun i hi => hS i (by simpa [sto] using hi)
                have hsw := swp_ok g (k := k) (k2 := k2) (p := p) (p2 := p2) hw
                have lvs : vs.length = ys.length := by
                  rw [lm, hl.1, List.length_zipWith, l1, Nat.min_self]
                rcases hlen with hlen | hlen
                · match ys, ps, vs, hlen, l1, lvs with
                  | [x, y], [px, py], [a, b], _, _, _ =>
                    obtain ⟨i, js, rfl, i1, r1⟩ := nmsOf_cons hn
                    obtain ⟨j, js, rfl, i2, r2⟩ := nmsOf_cons r1
                    cases r2
                    simp only [List.all_cons, List.all_nil, Bool.and_true, Bool.and_eq_true] at hlc
                    simp only [List.nodup_cons, List.mem_singleton, List.not_mem_nil, not_false_iff, List.nodup_nil, and_true] at hnd
                    exact p_par2 S2 g.calm nd (by rw [g.hN]; exact ixOf_get i1) (by rw [g.hN]; exact ixOf_get i2) hnd (lcl_of g hlc.1) (lcl_of g hlc.2) pa hsw rfl
                · match ys, ps, vs, hlen, l1, lvs with
                  | [x, y, z], [px, py, pz], [a, b, c], _, _, _ =>
                    obtain ⟨i, js, rfl, i1, r1⟩ := nmsOf_cons hn
                    obtain ⟨j, js, rfl, i2, r2⟩ := nmsOf_cons r1
                    obtain ⟨l, js, rfl, i3, r3⟩ := nmsOf_cons r2
                    cases r3
                    simp only [List.all_cons, List.all_nil, Bool.and_true, Bool.and_eq_true] at hlc
                    simp only [List.nodup_cons, List.mem_cons, List.mem_singleton, List.not_mem_nil, not_or, not_false_iff, List.nodup_nil, and_true] at hnd
                    exact p_par3 S2 g.calm nd (by rw [g.hN]; exact ixOf_get i1) (by rw [g.hN]; exact ixOf_get i2) (by rw [g.hN]; exact ixOf_get i3) hnd.1.1 hnd.1.2 hnd.2 (lcl_of g hlc.1) (lcl_of g hlc.2.1) (lcl_of g hlc.2.2) pa hsw rfl
              · cases h
            · cases h
          · split at h
            · rename_i us h1 hw
              cases h
              obtain ⟨b1, b2, b3, _⟩ := sets_ok g ihE h1
              obtain ⟨c1, c2⟩ := asg_all (env := X.env) b3
              exact p_setsT g.calm pa b1 b2.symm hz c1 c2 rfl (swp_ok g hw) (by rw [asgn_of rfl]; rfl)
            · rename_i h1 hw
              split at h
              · rename_i us h2
                cases h
                obtain ⟨b1, b2, b3⟩ := mix_ok g ihE h2
                obtain ⟨c1, c2⟩ := asg_all (env := X.env) b3
                exact p_mixT hS g.calm pa b1 b2.symm hz c1 c2 rfl (swp_ok g hw) (by rw [asgn_of rfl]; rfl)
              · cases h
            · cases h
        · cases h
      · cases h
    · rename_i elt gs scp q
      split at h
      · rename_i us me h1 h2
        cases h
        obtain ⟨b1, b2, b3⟩ := (trG_ok g n).2 _ _ h1
        obtain ⟨c1, c2⟩ := asg_all (env := X.env) b2
        exact p_unp hS (ihE _ _ h2) (g_lst g.calm b1 b3.symm c1 c2) (swaps_sole fun _ _ q => by cases q) rfl (by rw [asgn_of rfl]; rfl)
      · cases h
    · rename_i hne _
      split at h
      · cases h
      · rename_i hc
        split at h
        · rename_i t me h1 h2
          cases h
          obtain ⟨b1, _⟩ := (trG_ok g n).1 _ _ h1
          refine p_asg (fun i hi => hS i (by simpa [sto] using hi)) (ihE _ _ h2) b1 (swaps_sole fun _ _ q => by cases q) ?_ (by rw [asgn_of rfl]; rfl)
          cases e <;> first | rfl | exact (hne _ _ _ rfl).elim
        · cases h
  · cases h
theorem p_bad {st : Stmt} {XX : XW} : PS X st (t1 S X.K fa XX G .bad) := PS.weak ps_never fun D σ H ⟨Z, env, ok, h⟩ => by
  unfold exs1 at h
  exact h
/-- what a text's raise and try ask of where they stand -/
structure Rdy (X : Cx) (cA : Nat → Addr) (xs : List (Str × Nat)) (tw : Bool) : Prop where
  st : X.stack = X.env :: X.outer
  fr : X.env.frame = some X.env.locals
  rk : ∀ x c, xs.lookup x = some c → RaiK X cA x c
  tr : tw = true → TryK X cA
theorem Rdy.try_ {cA : Nat → Addr} {xs : List (Str × Nat)} {tw : Bool} (r : Rdy X cA xs tw) (pn : List (Addr × Obj)) (xe : Value → Shared → Prop) : Rdy (X.tr pn xe) cA xs tw :=
  ⟨r.st, r.fr, fun x c e => have k := r.rk x c e; ⟨k.ex, k.oex, k.room, k.gl⟩, fun e => have k := r.tr e; ⟨k.wd, k.dep, k.card⟩⟩
theorem Good.try_ (g : Good X fa EX E G N fs cs sc fv) {pn : List (Addr × Obj)} {xe : Value → Shared → Prop} {E' : XK} (tk : Takes (X.tr pn xe) (fun cls d _ H => E' cls d H)) : Good (X.tr pn xe) fa EX E' G N fs cs sc fv :=
  ⟨g.hN, g.nd, g.hsc, g.fk, g.hfn, g.calm, g.un, g.gu, g.bl, fun x n ar h => have ⟨f, fd, ps, sm, k, h1, h2, h3, h4, h5, h6, h7⟩ := g.fns x n ar h; ⟨f, fd, ps, sm, k, h1, h2, h3, h4, h5, h6, h7⟩, tk, g.gn, g.vfn, g.cns⟩
/-- a wish that may use how many slots there are -/
theorem takes_len {W : WX} (tk : Takes X W) : Takes X (fun cls d _ H => ∀ σ : L2.St, σ.length = X.N.length → W cls d σ H) := fun u s' ⟨a, B, sI, pins, σ, H, cls, d, e, I, nb, up, sky, na, os, ag, w⟩ =>
  tk u s' ⟨a, B, sI, pins, σ, H, cls, d, e, I, nb, up, sky, na, os, ag, w σ I.len⟩
theorem trS_ok {cA : Nat → Addr} {xs : List (Str × Nat)} {tw : Bool} : ∀ (n : Nat) (X : Cx) (E : XK), Good X fa (EXr X.K cA) E G N fs cs sc fv → Rdy X cA xs tw → PassesOwn (model X.prog X.w) X.A X.env X.xe →
    (∀ s, (∀ i ∈ sto (trS1 N fs cs xs tw n sc fv s), S i) → PS X s (t1 S X.K fa (xx (EXr X.K cA) E) G (trS1 N fs cs xs tw n sc fv s))) ∧
    ∀ ss, (∀ i ∈ stos (trS N fs cs xs tw n sc fv ss), S i) → PSs X ss (tn S X.K fa (xx (EXr X.K cA) E) G (trS N fs cs xs tw n sc fv ss))
  | 0, X, E, g, rd, hp => by
    refine ⟨fun s _ => by unfold trS1; exact p_bad, fun ss _ => ?_⟩
    cases ss with
    | nil => unfold trS; exact p_nil
    | cons s ss =>
      unfold trS
      refine PSs.weak pss_never fun D σ H ⟨Z, env, ok, h⟩ => ?_
      unfold exs at h
      unfold exs1 at h
      exact h
  | n + 1, X, E, g, rd, hp => by
    obtain ⟨ih1, ih2⟩ := trS_ok n X E g rd hp
    obtain ⟨ihE0, ihT0⟩ := tr_ok (fa := fa) (EX := EXr X.K cA) (G := G) (N := N) (fs := fs) (cs := cs) n
    have ihE := ihE0 X E sc fv g
    have ihT := ihT0 X E sc fv g
    have hs : ∀ e m, trE N fs cs n sc fv e = some m → nst e = true := fun e m h => trE_nst h
    have nd : X.N.Nodup := by rw [g.hN]; exact g.nd
    have h1 : ∀ s, (∀ i ∈ sto (trS1 N fs cs xs tw (n + 1) sc fv s), S i) → PS X s (t1 S X.K fa (xx (EXr X.K cA) E) G (trS1 N fs cs xs tw (n + 1) sc fv s)) := by
      intro s hS
      unfold trS1 at hS ⊢
      split
      · exact p_doc (x := "") (j := 0) (pos' := ⟨0, 0, 0, 0⟩) ps_doc
      · split
        · exact p_bad
        · rename_i hc
          split
          · rename_i m hm
            exact p_exp (ihE _ _ hm) (swaps_not (Bool.eq_false_iff.mpr hc))
          · exact p_bad
      · exact p_retN
      · split
        · rename_i m hm
          exact p_ret (ihE _ _ hm)
        · exact p_bad
      · exact p_pass
      · exact p_brk
      · exact p_cnt
      · split
        · rename_i m hm
          simp only [hm] at hS
          exact p_ite (ihT _ _ hm).1 (ih2 _ fun i hi => hS i (by simp [sto, hi])) (ih2 _ fun i hi => hS i (by simp [sto, hi]))
        · exact p_bad
      · split
        · rename_i m hm
          simp only [hm] at hS
          exact p_whl hp (ihT _ _ hm).1 (ih2 _ fun i hi => hS i (by simpa [sto] using hi))
        · exact p_bad
      · split
        · rename_i t w its ht hi
          simp only [ht, hi] at hS
          obtain ⟨pi, hfo⟩ := trI_ok g ihE hs (fun a k p => trE_set a k p) hi
          exact p_for (fun i q => hS i (by simp [sto, q])) hp g.calm pi ((trG_ok g n).1 _ _ ht).1 (ih2 _ fun i q => hS i (by simp [sto, q])) hfo
        · exact p_bad
      · split
        · rename_i hl
          split
          · rename_i i p m h2 h3 h4
            simp only [hl, h2, h3, h4, if_true] at hS
            rw [← bopR_of h3]
            exact p_aug p (hS i (by simp [sto])) nd (by rw [g.hN]; exact ixOf_get h2) (g.loc hl).1 (ihE _ _ h4) (g.loc hl).2
          · exact p_bad
        · exact p_bad
      · split
        · rename_i hc
          simp only [Bool.and_eq_true, Bool.not_eq_true'] at hc
          obtain ⟨⟨hv, hn⟩, hb⟩ := hc
          split
          · rename_i i p mb m h2 h3 h4 h5
            rw [← bopR_of h3]
            refine p_augs p (by rw [g.hN]; exact ixOf_get h2) (g.vis hv) (nmOk_of hn).1 (nmOk_of hn).2 (ihE _ _ h4) (ihE _ _ h5) (aug_store hb)
          · exact p_bad
        · exact p_bad
      · split
        · rename_i m hm
          simp only [hm] at hS
          exact trA_ok g hm hS
        · exact p_bad
      · split
        · rename_i hc
          rw [Bool.and_eq_true] at hc
          split
          · rename_i c m h2 h3
            exact p_rai g.calm g.tk (rd.rk _ _ h2) (g.gl hc.1) (nmOk_of hc.2).1 (ihE _ _ h3) (star_of (es := []) (hs _ _ h3))
          · exact p_bad
        · exact p_bad
      · split
        · rename_i hc
          simp only [hc, if_true] at hS
          simp only [Bool.and_eq_true, beq_iff_eq] at hc
          obtain ⟨⟨⟨⟨⟨⟨⟨⟨h1, rfl⟩, h3⟩, rfl⟩, h5⟩, rfl⟩, h7⟩, h8⟩, h9⟩ := hc
          obtain ⟨i, h9⟩ := Option.isSome_iff_exists.mp h9
          refine p_tryw rd.st rd.fr nd (by rw [g.hN]; exact ixOf_get h9) (lcl_of g h7) g.tk (rd.tr h1) (g.gl h3) (g.gl h5) (nmOk_of h8).1 (nmOk_of h8).2 fun W pn xe tk pw => ?_
          refine (trS_ok n (X.tr pn xe) _ (g.try_ (takes_len tk)) (rd.try_ pn xe) pw).2 _ fun i q => hS i (by simpa [sto] using q)
        · exact p_bad
      · exact p_bad
    refine ⟨h1, fun ss hS => ?_⟩
    cases ss with
    | nil => unfold trS; exact p_nil
    | cons s ss =>
      unfold trS at hS ⊢
      exact p_cons (ih1 s fun i hi => hS i (by simp [stos, hi])) (ih2 ss fun i hi => hS i (by simp [stos, hi]))
end
end Ev

/-! Ev, part AA: a text's defs by their meanings. -/
namespace Ev
open PySem PySem.Spec L2 L2H PyProof.Rows
/-- a def as a value: its number, its place; all: the text's defs -/
def faK (mg : Str → Option Value) (all : List (Str × Nat × Nat)) : Nat → V → Prop := fun n v => ∃ x ar f, (x, n, ar) ∈ all ∧ mg x = some (.ref f) ∧ v = V.ref f
/-- a def that is known -/
def Kn (P : Program) (w : World) (K : PySem.W.Frag) (mg : Str → Option Value) (base : Heap) (cA : Nat → Addr) (all : List (Str × Nat × Nat)) (k : Nat) (x : Str) (ar : Nat) (sm : Sem) : Prop := ∃ (f : Addr) (fd : FuncData) (ps : List Str), FnG P w K mg base (L2.CX P w) k f fd ps (spS K (faK mg all) (EXr K cA) ar sm) ∧ mg x = some (.ref f) ∧ PySem.W.keepIn K (.ref f) = true ∧ Binds K fd ps [] ∧ ∀ ws, ws.length ≠ ar → sm ws = .bad
abbrev Fns (P : Program) (w : World) (K : PySem.W.Frag) (mg : Str → Option Value) (base : Heap) (cA : Nat → Addr) (all : List (Str × Nat × Nat)) (k : Nat) (fs : List (Str × Nat × Nat)) (G : Tab) : Prop :=
  (∀ (x : Str) (n ar : Nat), fs.lookup x = some (n, ar) → (x, n, ar) ∈ all ∧ ∃ sm, G n = some sm ∧ Kn P w K mg base cA all k x ar sm) ∧ ∀ x n ar, (x, n, ar) ∈ all → ∀ sm, G n = some sm → fs.lookup x = some (n, ar)
/-- what a text needs of its module -/
structure Mo (K : PySem.W.Frag) (mg : Str → Option Value) (cs : List (Str × PyData)) : Prop where
  bl : ∀ x ∈ known, mg x = none
  gn : ∀ x v, PySem.W.nsIn K mainGlobals x = some (some v) → mg x = some v
  cns : ∀ x d, cs.lookup x = some d → ∃ u v, mg x = some u ∧ RelV v u ∧ ∀ H Z, Fz K H Z v d
/-- what a text's errors need of its module -/
structure Er (P : Program) (w : World) (K : PySem.W.Frag) (mg : Str → Option Value) (base : Heap) (cA : Nat → Addr) (xs : List (Str × Nat)) (tw : Bool) : Prop where
  rk : ∀ x c, xs.lookup x = some c → (∃ (fI : Addr) (fd : FuncData) (ps : List Str), PySem.W.findIn K (.ref (cA c)) "__init__" = some (some (.ref fI)) ∧ PySem.W.typeIn K (.ref fI) = some (.type "function") ∧ FnOk P w K mg base CXn 1 fI fd ps (spInit (cA c) (cFd c)) ∧ Binds K fd ps []) ∧ OexC K (cA c) ∧ mg x = some (.ref (cA c))
  tr : tw = true → (∃ (f : Addr) (fd : FuncData) (pp : Nat → Pos) (st : Stmt), WordK P w K mg cA f fd pp st ∧ PySem.W.keepIn K (.ref f) = true) ∧ ∃ C, mg "CardError" = some (.ref C) ∧ ∀ c < 5, PySem.W.exmOne K (.ref (cA c)) (.ref C) = some true
section
variable {P : Program} {w : World} {K : PySem.W.Frag} {mg : Str → Option Value} {base : Heap} {cA : Nat → Addr} {all : List (Str × Nat × Nat)} {xs : List (Str × Nat)} {tw : Bool} {k n : Nat} {x qual : Str} {st : Stmt} {f : Addr} {fd : FuncData} {N ps : List Str} {fs : List (Str × Nat × Nat)} {cs : List (Str × PyData)} {G : Tab} {body : List MS} {ar many : Nat}
theorem fn_ok (hk2 : 2 ≤ k) (F : Fun K x qual st f fd) (S : FnScope N ps (defScope st)) (ha : ps.length = ar) (hm : N.length = many) (hb : trS N fs cs xs tw n (defScope st) (fun _ => true) (defBody st) = body) (M : Mo K mg cs) (R : Er P w K mg base cA xs tw) (fns : Fns P w K mg base cA all k fs G) :
    FnG P w K mg base (L2.CX P w) (k + 1) f fd ps (spS K (faK mg all) (EXr K cA) ar (runDef G ar many body)) := by
  subst ha hm hb
  have hpl : ps.length ≤ N.length := by
    have := congrArg List.length S.pre
    rw [List.length_take] at this
    omega
  refine fnG_of F S (fun vs H Q E h => h.1) ?_
  intro cdv A outer s H vs Q E hr hg h
  have good : Good (cxOf (L2.CX P w) P w K mg base N qual (defScope st) f cdv A outer s H E) (faK mg all) (EXr K cA) E G N fs cs (defScope st) (fun _ => true) := by
    refine ⟨rfl, S.nd, rfl, S.kind, rfl, rfl, ?_, hg, M.bl, fun y m ar h => ?_, takes_of rfl rfl rfl rfl, M.gn, fun y n ar f' h1 h2 => ⟨y, ar, f', (fns.1 y n ar h1).1, h2, rfl⟩, M.cns⟩
    · have := hr.un
      show (A.deeper _).units + 66 < cLine
      omega
    · obtain ⟨_, sm, h1, f', fd', ps', h2, h3, h4, h5, h6⟩ := fns.1 y m ar h
      exact ⟨f', fd', ps', sm, k, h1, h2, hr, h3, h4, h5, h6⟩
  have rdy : Rdy (cxOf (L2.CX P w) P w K mg base N qual (defScope st) f cdv A outer s H E) cA xs tw :=
    ⟨rfl, rfl, fun y c e => have q := R.rk y c e; ⟨q.1, q.2.1, hr.mono hk2, q.2.2⟩, fun e => have q := R.tr e; ⟨q.1, fun _ => hr.depth, q.2⟩⟩
  have run := (trS_ok (S := fun i => i ∈ stos (trS N fs cs xs tw n (defScope st) (fun _ => true) (defBody st))) n _ E good rdy PassesOwn.leaving).2 (defBody st) fun i hi => hi
  exact ⟨_, run, def_go (X := cxOf (L2.CX P w) P w K mg base N qual (defScope st) f cdv A outer s H E) hpl h⟩
theorem run_bad {ws : List W} (h : ws.length ≠ ar) : runDef G ar many body ws = .bad := by
  unfold runDef
  rw [if_neg fun q => h q.1]
theorem Kn.mono {j k : Nat} {sm : Sem} (h : Kn P w K mg base cA all j x ar sm) (hk : j ≤ k) : Kn P w K mg base cA all k x ar sm := by
  obtain ⟨f, fd, ps, h1, h2⟩ := h
  exact ⟨f, fd, ps, h1.mono hk, h2⟩
/-- one def more -/
theorem fns_nil : Fns P w K mg base cA all k [] (fun _ => none) := ⟨fun _ _ _ h => (by cases h), fun _ _ _ _ _ h => (by cases h)⟩
theorem fns_cons {n0 ar0 : Nat} {y : Str} {sm : Sem} (hG : G n0 = none) (hal : (y, n0, ar0) ∈ all) (hu : ∀ e ∈ all, (e.2.1 = n0 ↔ e.1 = y) ∧ (e.1 = y → e.2.2 = ar0)) (h1 : Kn P w K mg base cA all (k + 1) y ar0 sm) (h : Fns P w K mg base cA all k fs G) :
    Fns P w K mg base cA all (k + 1) ((y, n0, ar0) :: fs) (fun i => if i = n0 then some sm else G i) := by
  refine ⟨fun x n ar e => ?_, fun x n ar hm sm' e => ?_⟩
  · rw [List.lookup_cons] at e
    split at e
    · rename_i hx
      cases e
      have hx := eq_of_beq hx
      subst hx
      exact ⟨hal, sm, if_pos rfl, h1⟩
    · obtain ⟨a0, sm', a1, a2⟩ := h.1 x n ar e
      refine ⟨a0, sm', ?_, a2.mono (Nat.le_succ k)⟩
      have ne : n ≠ n0 := fun q => by
        rw [q, hG] at a1
        cases a1
      show (if n = n0 then _ else _) = _
      rw [if_neg ne]
      exact a1
  · have u := hu _ hm
    have e : (if n = n0 then some sm else G n) = some sm' := e
    rw [List.lookup_cons]
    by_cases q : n = n0
    · have q1 := u.1.mp q
      have q1 : x = y := q1
      subst q1 q
      have := u.2 rfl
      have : ar = ar0 := this
      subst this
      simp
    · rw [if_neg q] at e
      have ne : (x == y) = false := by
        rw [beq_eq_false_iff_ne]
        exact fun z => q (u.1.mpr z)
      rw [ne]
      exact h.2 x n ar hm sm' e
theorem fns_mono {j k : Nat} (hk : j ≤ k) (h : Fns P w K mg base cA all j fs G) : Fns P w K mg base cA all k fs G := ⟨fun x n ar e => by
  obtain ⟨a0, sm, a1, a2⟩ := h.1 x n ar e
  exact ⟨a0, sm, a1, a2.mono hk⟩, h.2⟩
/-- a def that calls itself, so many calls deep -/
def recS (G : Tab) (k0 ar many : Nat) (body : List MS) : Nat → Sem
  | 0 => fun _ => .bad
  | d + 1 => runDef (fun i => if i = k0 then some (recS G k0 ar many body d) else G i) ar many body
theorem rec_bad {k0 : Nat} {ws : List W} (h : ws.length ≠ ar) : ∀ d, recS G k0 ar many body d ws = .bad
  | 0 => rfl
  | d + 1 => run_bad h
theorem rec_ok {k0 : Nat} (hk2 : 2 ≤ k) (F : Fun K x qual st f fd) (S : FnScope N ps (defScope st)) (ha : ps.length = ar) (hm : N.length = many) (hb : trS N ((x, k0, ar) :: fs) cs xs tw n (defScope st) (fun _ => true) (defBody st) = body) (M : Mo K mg cs) (R : Er P w K mg base cA xs tw) (fns : Fns P w K mg base cA all k fs G)
    (hG : G k0 = none) (hal : (x, k0, ar) ∈ all) (hu : ∀ e ∈ all, (e.2.1 = k0 ↔ e.1 = x) ∧ (e.1 = x → e.2.2 = ar)) (hx : mg x = some (.ref f)) (hk : PySem.W.keepIn K (.ref f) = true) (B : Binds K fd ps []) : ∀ d : Nat, FnG P w K mg base (L2.CX P w) (k + d + 1) f fd ps (spS K (faK mg all) (EXr K cA) ar (recS G k0 ar many body d))
  | 0 => by
    subst ha
    refine fnG_of F S (fun vs H Q E h => h.1) ?_
    intro cdv A outer s H vs Q E hr hg h
    obtain ⟨_, Z, ws, _, _, q⟩ := h
    exact q.elim
  | d + 1 => by
    have ih := rec_ok hk2 F S ha hm hb M R fns hG hal hu hx hk B d
    exact fn_ok (k := k + d + 1) (by omega) F S ha hm hb M R (fns_cons hG hal hu ⟨f, fd, ps, ih, hx, hk, B, fun ws h => rec_bad h d⟩ (fns_mono (Nat.le_add_right k d) fns))
/-- what the law's def promises at its end -/
def spL (K : PySem.W.Frag) (n : Nat) : Sp := fun vs H Q _ => ∃ (a : Addr) (ns : List Int), vs = [V.ref a] ∧ ns.length ≤ n ∧ (∀ b u, H b = some u → b = a ∧ ∃ o, u = .frz o (.lst (ns.map V.int))) ∧ RdL K H a (ns.map V.int) ∧ ∀ H', Q (.bl true) H'
theorem law_end {m : Nat} {sm : Sem} (F : FnG P w K mg base (L2.CX P w) k f fd ps (spS K (faK mg all) (EXr K cA) 1 sm)) (hps : ps.length = 1) (hl : ∀ ns : List Int, ns.length ≤ m → ∃ os, sm [.r (ns.map .int)] = .ok (.v (.bool true), os)) :
    FnG P w K mg base (L2.CX P w) k f fd ps (spL K m) := by
  have key : ∀ vs H Q E, spL K m vs H Q E → spS K (faK mg all) (EXr K cA) 1 sm vs H Q E := by
    rintro vs H Q E ⟨a, ns, rfl, hn, hH, hS, q⟩
    obtain ⟨os, hl⟩ := hl ns hn
    refine ⟨rfl, fun _ => False, [.r (ns.map .int)], ⟨fun i w h => ?_, fun i j b o => ?_, fun _ h => h.elim, rfl⟩, fun xs h => by simp at h, ?_⟩
    · cases i with
      | zero =>
        simp at h
        subst h
        refine ⟨V.ref a, rfl, a, ns.map V.int, rfl, hS, FzAll.ofInts ns⟩
      | succ i => simp at h
    · obtain ⟨xs, h | h⟩ := o
      · cases i <;> simp at h
      · cases i <;> simp at h
    · rw [hl]
      intro _ Z' H' v _ hr
      cases (show Fz K H' Z' v (.bool true) from hr)
      exact q H'
  exact ⟨fun vs H Q E h => F.len vs H Q E (key vs H Q E h), fun A outer s H args us vs Q E r g e b vv h => F.run A outer s H args us vs Q E r g e b vv (key vs H Q E h)⟩
theorem cx_false {outer : List PySem.Env} {H : Hp} {s : Shared} {e : Value} {s' : Shared} (h : L2.CX P w outer H s (fun _ _ _ => False) e s') : False := by
  obtain ⟨_, _, _, _, _, _, _, _, _, _, _, _, q⟩ := h
  exact q
end
end Ev

set_option maxRecDepth 100000
/-! Ev, part DA: the evaluator told by steps that a rewriter can take, no long lambda left open. -/
namespace Ev.D
open PySem
section
variable {α β : Type}
theorem bind_ok {a : α} {f : α → Rs β} : Rs.bind (.ok a) f = f a := id rfl
theorem bind_ex {c : Nat} {x : PyData} {f : α → Rs β} : Rs.bind (.ex c x) f = .ex c x := id rfl
theorem of_ok {a : α} {f : α → Ou} : Ou.of (.ok a) f = f a := id rfl
theorem of_ex {c : Nat} {x : PyData} {f : α → Ou} : Ou.of (.ex c x) f = .ex c x := id rfl
theorem ofO_some {a : α} : ofO (some a) = .ok a := id rfl
end
section
variable (G : Tab)
theorem ev_c (x : PyData) (env : Env) : ev G (.c x) env = .ok (env, .v x) := id rfl
def ofN (env : Env) : Option Rv → Rs (Env × Rv)
  | some r => .ok (env, r)
  | none => .bad
theorem ofN_some {env : Env} {r : Rv} : ofN env (some r) = .ok (env, r) := id rfl
theorem ev_v (i : Nat) (env : Env) : ev G (.v i) env = ofN env (rdName env i) := id rfl
theorem ev_fn (i : Nat) (env : Env) : ev G (.fn i) env = .ok (env, .f i) := id rfl
def tupC (p : Env × List Rv) : Rs (Env × Rv) := match keepAll p.1 p.2 with
  | some (env', xs) => if xs.length ≤ sizeLine then .ok (env', .v (.tuple xs)) else .bad
  | none => .bad
theorem ev_tup (es : List ME) (env : Env) : ev G (.tup es) env = (evs G es env).bind tupC := id rfl
def lstC (p : Env × List Rv) : Rs (Env × Rv) := match keepAll p.1 p.2 with
  | some (env', xs) => if xs.length ≤ sizeLine then .ok (env', .n xs) else .bad
  | none => .bad
theorem ev_lst (es : List ME) (env : Env) : ev G (.lst es) env = (evs G es env).bind lstC := id rfl
theorem tupC_p (e : Env) (rs : List Rv) : tupC (e, rs) = match keepAll e rs with
  | some (env', xs) => if xs.length ≤ sizeLine then .ok (env', .v (.tuple xs)) else .bad
  | none => .bad := id rfl
theorem lstC_p (e : Env) (rs : List Rv) : lstC (e, rs) = match keepAll e rs with
  | some (env', xs) => if xs.length ≤ sizeLine then .ok (env', .n xs) else .bad
  | none => .bad := id rfl
def binC (o : BOp) (p q : Env × Rv) : Rs (Env × Rv) := match dat q.1 p.2, dat q.1 q.2 with
    | some x, some y => (ofO (opBin o x y)).bind fun r => .ok (q.1, r)
    | _, _ => .bad
def binB (o : BOp) (b : ME) (p : Env × Rv) : Rs (Env × Rv) := (ev G b p.1).bind (binC o p)
theorem ev_bin (o : BOp) (a b : ME) (env : Env) : ev G (.bin o a b) env = (ev G a env).bind (binB G o b) := id rfl
theorem binB_p (o : BOp) (b : ME) (e : Env) (r : Rv) : binB G o b (e, r) = (ev G b e).bind (binC o (e, r)) := id rfl
theorem binC_p (o : BOp) (e1 e : Env) (r q : Rv) : binC o (e1, r) (e, q) = match dat e r, dat e q with
    | some x, some y => (ofO (opBin o x y)).bind fun r => .ok (e, r)
    | _, _ => .bad := id rfl
def negC (p : Env × Rv) : Rs (Env × Rv) := match dat p.1 p.2 with
    | some (.int i) => .ok (p.1, .v (.int (-i)))
    | _ => .bad
theorem ev_neg (a : ME) (env : Env) : ev G (.neg a) env = (ev G a env).bind negC := id rfl
theorem negC_p (e : Env) (r : Rv) : negC (e, r) = match dat e r with
    | some (.int i) => .ok (e, .v (.int (-i)))
    | _ => .bad := id rfl
def cmpC (o : COp) (p q : Env × Rv) : Rs (Env × Rv) := match dat q.1 p.2, dat q.1 q.2 with
    | some x, some y => (ofO (opCmp o x y)).bind fun r => .ok (q.1, .v (.bool r))
    | _, _ => .bad
def cmpB (o : COp) (b : ME) (p : Env × Rv) : Rs (Env × Rv) := (ev G b p.1).bind (cmpC o p)
theorem ev_cmp (o : COp) (a b : ME) (env : Env) : ev G (.cmp o a b) env = (ev G a env).bind (cmpB G o b) := id rfl
theorem cmpB_p (o : COp) (b : ME) (e : Env) (r : Rv) : cmpB G o b (e, r) = (ev G b e).bind (cmpC o (e, r)) := id rfl
theorem cmpC_p (o : COp) (e1 e : Env) (r q : Rv) : cmpC o (e1, r) (e, q) = match dat e r, dat e q with
    | some x, some y => (ofO (opCmp o x y)).bind fun r => .ok (e, .v (.bool r))
    | _, _ => .bad := id rfl
def chnD (o' : COp) (q t : Env × Rv) : Rs (Env × Rv) := match dat t.1 q.2, dat t.1 t.2 with
        | some y', some z => (ofO (opCmp o' y' z)).bind fun r' => .ok (t.1, .v (.bool r'))
        | _, _ => .bad
def chnE (o' : COp) (c : ME) (q : Env × Rv) (r : Bool) : Rs (Env × Rv) := if r then (ev G c q.1).bind (chnD o' q) else .ok (q.1, .v (.bool false))
def chnC (o o' : COp) (c : ME) (p q : Env × Rv) : Rs (Env × Rv) := match dat q.1 p.2, dat q.1 q.2 with
    | some x, some y => (ofO (opCmp o x y)).bind (chnE G o' c q)
    | _, _ => .bad
def chnB (o o' : COp) (b c : ME) (p : Env × Rv) : Rs (Env × Rv) := (ev G b p.1).bind (chnC G o o' c p)
theorem ev_chn (o o' : COp) (a b c : ME) (env : Env) : ev G (.chn o o' a b c) env = (ev G a env).bind (chnB G o o' b c) := id rfl
theorem chnB_p (o o' : COp) (b c : ME) (e : Env) (r : Rv) : chnB G o o' b c (e, r) = (ev G b e).bind (chnC G o o' c (e, r)) := id rfl
theorem chnC_p (o o' : COp) (c : ME) (e1 e : Env) (r q : Rv) : chnC G o o' c (e1, r) (e, q) = match dat e r, dat e q with
    | some x, some y => (ofO (opCmp o x y)).bind (chnE G o' c (e, q))
    | _, _ => .bad := id rfl
theorem chnE_t (o' : COp) (c : ME) (e : Env) (q : Rv) : chnE G o' c (e, q) true = (ev G c e).bind (chnD o' (e, q)) := id rfl
theorem chnE_f (o' : COp) (c : ME) (e : Env) (q : Rv) : chnE G o' c (e, q) false = .ok (e, .v (.bool false)) := id rfl
theorem chnD_p (o' : COp) (e1 e : Env) (q t : Rv) : chnD o' (e1, q) (e, t) = match dat e q, dat e t with
        | some y', some z => (ofO (opCmp o' y' z)).bind fun r' => .ok (e, .v (.bool r'))
        | _, _ => .bad := id rfl
def ch3E (o' o'' : COp) (c d : ME) (q : Env × Rv) (r : Bool) : Rs (Env × Rv) := if r then (ev G c q.1).bind (chnC G o' o'' d q) else .ok (q.1, .v (.bool false))
def ch3C (o o' o'' : COp) (c d : ME) (p q : Env × Rv) : Rs (Env × Rv) := match dat q.1 p.2, dat q.1 q.2 with
    | some x, some y => (ofO (opCmp o x y)).bind (ch3E G o' o'' c d q)
    | _, _ => .bad
def ch3B (o o' o'' : COp) (b c d : ME) (p : Env × Rv) : Rs (Env × Rv) := (ev G b p.1).bind (ch3C G o o' o'' c d p)
theorem ev_ch3 (o o' o'' : COp) (a b c d : ME) (env : Env) : ev G (.ch3 o o' o'' a b c d) env = (ev G a env).bind (ch3B G o o' o'' b c d) := id rfl
theorem ch3B_p (o o' o'' : COp) (b c d : ME) (e : Env) (r : Rv) : ch3B G o o' o'' b c d (e, r) = (ev G b e).bind (ch3C G o o' o'' c d (e, r)) := id rfl
theorem ch3C_p (o o' o'' : COp) (c d : ME) (e1 e : Env) (r q : Rv) : ch3C G o o' o'' c d (e1, r) (e, q) = match dat e r, dat e q with
    | some x, some y => (ofO (opCmp o x y)).bind (ch3E G o' o'' c d (e, q))
    | _, _ => .bad := id rfl
theorem ch3E_t (o' o'' : COp) (c d : ME) (e : Env) (q : Rv) : ch3E G o' o'' c d (e, q) true = (ev G c e).bind (chnC G o' o'' d (e, q)) := id rfl
theorem ch3E_f (o' o'' : COp) (c d : ME) (e : Env) (q : Rv) : ch3E G o' o'' c d (e, q) false = .ok (e, .v (.bool false)) := id rfl
def andB (b : ME) (p : Env × Rv) : Rs (Env × Rv) := match truR p.1 p.2 with
    | some true => ev G b p.1
    | some false => .ok p
    | none => .bad
theorem ev_and (a b : ME) (env : Env) : ev G (.and a b) env = (ev G a env).bind (andB G b) := id rfl
def andD (b : ME) (e : Env) (r : Rv) : Option Bool → Rs (Env × Rv)
    | some true => ev G b e
    | some false => .ok (e, r)
    | none => .bad
theorem andB_p (b : ME) (e : Env) (r : Rv) : andB G b (e, r) = andD G b e r (truR e r) := id rfl
theorem andD_t (b : ME) (e : Env) (r : Rv) : andD G b e r (some true) = ev G b e := id rfl
theorem andD_f (b : ME) (e : Env) (r : Rv) : andD G b e r (some false) = .ok (e, r) := id rfl
def orB (b : ME) (p : Env × Rv) : Rs (Env × Rv) := match truR p.1 p.2 with
    | some true => .ok p
    | some false => ev G b p.1
    | none => .bad
theorem ev_or (a b : ME) (env : Env) : ev G (.or a b) env = (ev G a env).bind (orB G b) := id rfl
def orD (b : ME) (e : Env) (r : Rv) : Option Bool → Rs (Env × Rv)
    | some true => .ok (e, r)
    | some false => ev G b e
    | none => .bad
theorem orB_p (b : ME) (e : Env) (r : Rv) : orB G b (e, r) = orD G b e r (truR e r) := id rfl
theorem orD_t (b : ME) (e : Env) (r : Rv) : orD G b e r (some true) = .ok (e, r) := id rfl
theorem orD_f (b : ME) (e : Env) (r : Rv) : orD G b e r (some false) = ev G b e := id rfl
def notC (p : Env × Rv) : Rs (Env × Rv) := match truR p.1 p.2 with
    | some k => .ok (p.1, .v (.bool (!k)))
    | none => .bad
theorem ev_not (a : ME) (env : Env) : ev G (.not a) env = (ev G a env).bind notC := id rfl
theorem notC_p (e : Env) (r : Rv) : notC (e, r) = match truR e r with
    | some k => .ok (e, .v (.bool (!k)))
    | none => .bad := id rfl
def ifeB (a b : ME) (p : Env × Rv) : Rs (Env × Rv) := match truR p.1 p.2 with
    | some true => ev G a p.1
    | some false => ev G b p.1
    | none => .bad
theorem ev_ife (t a b : ME) (env : Env) : ev G (.ife t a b) env = (ev G t env).bind (ifeB G a b) := id rfl
def ifeD (a b : ME) (e : Env) : Option Bool → Rs (Env × Rv)
    | some true => ev G a e
    | some false => ev G b e
    | none => .bad
theorem ifeB_p (a b : ME) (e : Env) (r : Rv) : ifeB G a b (e, r) = ifeD G a b e (truR e r) := id rfl
theorem ifeD_t (a b : ME) (e : Env) : ifeD G a b e (some true) = ev G a e := id rfl
theorem ifeD_f (a b : ME) (e : Env) : ifeD G a b e (some false) = ev G b e := id rfl
def subC (p q : Env × Rv) : Rs (Env × Rv) := match dat q.1 p.2, dat q.1 q.2 with
    | some x, some y => (ofO (opSub x y)).bind fun z => .ok (q.1, .v z)
    | _, _ => .bad
def subB (i : ME) (p : Env × Rv) : Rs (Env × Rv) := (ev G i p.1).bind (subC p)
theorem ev_sub (a i : ME) (env : Env) : ev G (.sub a i) env = (ev G a env).bind (subB G i) := id rfl
theorem subB_p (i : ME) (e : Env) (r : Rv) : subB G i (e, r) = (ev G i e).bind (subC (e, r)) := id rfl
theorem subC_p (e1 e : Env) (r q : Rv) : subC (e1, r) (e, q) = match dat e r, dat e q with
    | some x, some y => (ofO (opSub x y)).bind fun z => .ok (e, .v z)
    | _, _ => .bad := id rfl
def slcD (p : Env × Rv) (q t : Env × Option Int) : Rs (Env × Rv) := match dat t.1 p.2 with
      | some x => (ofO (opSlc q.2 t.2 x)).bind fun r => .ok (t.1, r)
      | _ => .bad
def slcC (hi : Option ME) (p : Env × Rv) (q : Env × Option Int) : Rs (Env × Rv) := (evo G hi q.1).bind (slcD p q)
def slcB (lo hi : Option ME) (p : Env × Rv) : Rs (Env × Rv) := (evo G lo p.1).bind (slcC G hi p)
theorem ev_slc (a : ME) (lo hi : Option ME) (env : Env) : ev G (.slc a lo hi) env = (ev G a env).bind (slcB G lo hi) := id rfl
theorem slcB_p (lo hi : Option ME) (e : Env) (r : Rv) : slcB G lo hi (e, r) = (evo G lo e).bind (slcC G hi (e, r)) := id rfl
theorem slcC_p (hi : Option ME) (p : Env × Rv) (e : Env) (i : Option Int) : slcC G hi p (e, i) = (evo G hi e).bind (slcD p (e, i)) := id rfl
theorem slcD_p (e1 e2 e : Env) (r : Rv) (i j : Option Int) : slcD (e1, r) (e2, i) (e, j) = match dat e r with
      | some x => (ofO (opSlc i j x)).bind fun r => .ok (e, r)
      | _ => .bad := id rfl
theorem evo_none (env : Env) : evo G none env = .ok (env, none) := id rfl
def evoC (p : Env × Rv) : Rs (Env × Option Int) := match p.2 with
    | .v (.int i) => .ok (p.1, some i)
    | _ => .bad
theorem evo_some (e : ME) (env : Env) : evo G (some e) env = (ev G e env).bind evoC := id rfl
theorem evoC_p (e : Env) (i : Int) : evoC (e, .v (.int i)) = .ok (e, some i) := id rfl
def revC (p : Env × Rv) : Rs (Env × Rv) := match dat p.1 p.2 with
    | some (.list xs) => .ok (p.1, .n xs.reverse)
    | some (.tuple xs) => .ok (p.1, .v (.tuple xs.reverse))
    | _ => .bad
theorem ev_rev (a : ME) (env : Env) : ev G (.rev a) env = (ev G a env).bind revC := id rfl
def b1C (o : B1) (p : Env × Rv) : Rs (Env × Rv) := match o, p.2 with
    | .list, .r xs => .ok (p.1, .n xs)
    | .len, .r xs => .ok (p.1, .v (.int xs.length))
    | _, _ => match dat p.1 p.2 with
      | some x => (ofO (opB1 o x)).bind fun r => .ok (p.1, r)
      | none => .bad
theorem ev_b1 (o : B1) (a : ME) (env : Env) : ev G (.b1 o a) env = (ev G a env).bind (b1C o) := id rfl
def b1D (o : B1) (e : Env) : Option PyData → Rs (Env × Rv)
  | some x => (ofO (opB1 o x)).bind fun r => .ok (e, r)
  | none => .bad
theorem b1C_v (o : B1) (e : Env) (x : PyData) : b1C o (e, .v x) = (ofO (opB1 o x)).bind fun r => .ok (e, r) := by cases o <;> rfl
theorem b1C_n (o : B1) (e : Env) (xs : List PyData) : b1C o (e, .n xs) = (ofO (opB1 o (.list xs))).bind fun r => .ok (e, r) := by cases o <;> rfl
theorem b1C_q (o : B1) (e : Env) (i : Nat) : b1C o (e, .p i) = b1D o e (dat e (.p i)) := by cases o <;> rfl
theorem b1D_some (o : B1) (e : Env) (x : PyData) : b1D o e (some x) = (ofO (opB1 o x)).bind fun r => .ok (e, r) := id rfl
theorem b1C_lr (e : Env) (xs : List PyData) : b1C .list (e, .r xs) = .ok (e, .n xs) := id rfl
theorem b1C_nr (e : Env) (xs : List PyData) : b1C .len (e, .r xs) = .ok (e, .v (.int xs.length)) := id rfl
def b2C (o : B2) (p q : Env × Rv) : Rs (Env × Rv) := match dat q.1 p.2, dat q.1 q.2 with
    | some x, some y => (ofO (opB2 o x y)).bind fun r => .ok (q.1, .v r)
    | _, _ => .bad
def b2B (o : B2) (b : ME) (p : Env × Rv) : Rs (Env × Rv) := (ev G b p.1).bind (b2C o p)
theorem ev_b2 (o : B2) (a b : ME) (env : Env) : ev G (.b2 o a b) env = (ev G a env).bind (b2B G o b) := id rfl
theorem b2B_p (o : B2) (b : ME) (e : Env) (r : Rv) : b2B G o b (e, r) = (ev G b e).bind (b2C o (e, r)) := id rfl
theorem b2C_p (o : B2) (e1 e : Env) (r q : Rv) : b2C o (e1, r) (e, q) = match dat e r, dat e q with
    | some x, some y => (ofO (opB2 o x y)).bind fun r => .ok (e, .v r)
    | _, _ => .bad := id rfl
def isiC (t : Ty) (p : Env × Rv) : Rs (Env × Rv) := match dat p.1 p.2 with
    | some x => (ofO (isTy t x)).bind fun b => .ok (p.1, .v (.bool b))
    | none => .bad
theorem ev_isi (a : ME) (t : Ty) (env : Env) : ev G (.isi a t) env = (ev G a env).bind (isiC t) := id rfl
theorem isiC_p (t : Ty) (e : Env) (r : Rv) : isiC t (e, r) = match dat e r with
    | some x => (ofO (isTy t x)).bind fun b => .ok (e, .v (.bool b))
    | none => .bad := id rfl
def lrgC (p q : Env × Rv) : Rs (Env × Rv) := match p.2, q.2 with
    | .v (.int i), .v (.int j) => if -1000000 ≤ i ∧ i ≤ 1000000 ∧ -1000000 ≤ j ∧ j ≤ 1000000 then .ok (q.1, .n (upto i (j - i).toNat)) else .bad
    | _, _ => .bad
def lrgB (b : ME) (p : Env × Rv) : Rs (Env × Rv) := (ev G b p.1).bind (lrgC p)
theorem ev_lrg (a b : ME) (env : Env) : ev G (.lrg a b) env = (ev G a env).bind (lrgB G b) := id rfl
theorem lrgB_p (b : ME) (e : Env) (r : Rv) : lrgB G b (e, r) = (ev G b e).bind (lrgC (e, r)) := id rfl
theorem lrgC_p (e1 e : Env) (i j : Int) : lrgC (e1, .v (.int i)) (e, .v (.int j)) = if -1000000 ≤ i ∧ i ≤ 1000000 ∧ -1000000 ≤ j ∧ j ≤ 1000000 then .ok (e, .n (upto i (j - i).toNat)) else .bad := id rfl
def appC (i : Nat) (p : Env × Rv) : Rs (Env × Rv) := match keep p.1 p.2 with
    | some (env', x) => match env'[i]? with
      | some (some (.l xs)) => if xs.length < sizeLine then .ok (env'.set i (some (.l (xs ++ [x]))), .v .none) else .bad
      | _ => .bad
    | none => .bad
theorem ev_app (i : Nat) (e : ME) (env : Env) : ev G (.app i e) env = if isL env i then (ev G e env).bind (appC i) else .bad := id rfl
theorem appC_p (i : Nat) (e : Env) (r : Rv) : appC i (e, r) = match keep e r with
    | some (env', x) => match env'[i]? with
      | some (some (.l xs)) => if xs.length < sizeLine then .ok (env'.set i (some (.l (xs ++ [x]))), .v .none) else .bad
      | _ => .bad
    | none => .bad := id rfl
def idxD (e : Env) : Option Nat → Rs (Env × Rv)
  | some j => .ok (e, .v (.int (j : Nat)))
  | none => .bad
theorem idxD_s (e : Env) (j : Nat) : idxD e (some j) = .ok (e, .v (.int (j : Nat))) := id rfl
def idxC (i : Nat) (p : Env × Rv) : Rs (Env × Rv) := match p.1[i]?, dat p.1 p.2 with
    | some (some (.l xs)), some y => idxD p.1 (plc xs y)
    | _, _ => .bad
theorem ev_idx (i : Nat) (e : ME) (env : Env) : ev G (.idx i e) env = if isL env i then (ev G e env).bind (idxC i) else .bad := by
  have h : ∀ p : Env × Rv, (match p.1[i]?, dat p.1 p.2 with
    | some (some (.l xs)), some y => match plc xs y with
      | some j => .ok (p.1, .v (.int (j : Nat)))
      | none => .bad
    | _, _ => .bad : Rs (Env × Rv)) = idxC i p := by
    intro p
    unfold idxC
    split
    · rename_i xs y h1 h2
      cases plc xs y <;> rfl
    · rfl
  have h2 := funext h
  rw [← h2]
  all_goals rfl
theorem idxC_p (i : Nat) (e : Env) (r : Rv) : idxC i (e, r) = match e[i]?, dat e r with
    | some (some (.l xs)), some y => idxD e (plc xs y)
    | _, _ => .bad := id rfl
def extC (i : Nat) (p : Env × Rv) : Rs (Env × Rv) := match p.1[i]?, dat p.1 p.2 with
    | some (some (.l xs)), some (.list ys) => if xs.length + ys.length ≤ sizeLine then .ok (p.1.set i (some (.l (xs ++ ys))), .v .none) else .bad
    | _, _ => .bad
theorem ev_ext (i : Nat) (e : ME) (env : Env) : ev G (.ext i e) env = if isL env i then (ev G e env).bind (extC i) else .bad := id rfl
theorem extC_p (i : Nat) (e : Env) (r : Rv) : extC i (e, r) = match e[i]?, dat e r with
    | some (some (.l xs)), some (.list ys) => if xs.length + ys.length ≤ sizeLine then .ok (e.set i (some (.l (xs ++ ys))), .v .none) else .bad
    | _, _ => .bad := id rfl
def callC (s : Sem) (p : Env × List Rv) : Rs (Env × Rv) := callW s p.1 p.2
theorem ev_call (f : Nat) (as : List ME) (s : Sem) (env : Env) (h : G f = some s) : ev G (.call f as) env = (evs G as env).bind (callC s) := by
  show (match G f with | none => _ | some s => _) = _
  rw [h]; rfl
def callD (env : Env) (rs : List Rv) : Rs (Rv × List (Option W)) → Rs (Env × Rv)
  | .ok (r, os) => if os.length = rs.length then .ok (back env rs os, r) else .bad
  | .ex c a => if noLent env rs then .ex c a else .bad
  | .bad => .bad
def callE (s : Sem) (env : Env) (rs : List Rv) : Option (List W) → Rs (Env × Rv)
  | none => .bad
  | some ws => callD env rs (s ws)
theorem callC_p (s : Sem) (e : Env) (rs : List Rv) : callC s (e, rs) = callE s e rs (lend e rs []) := id rfl
theorem callE_some (s : Sem) (e : Env) (rs : List Rv) (ws : List W) : callE s e rs (some ws) = callD e rs (s ws) := id rfl
theorem callD_ok (e : Env) (rs : List Rv) (r : Rv) (os : List (Option W)) : callD e rs (.ok (r, os)) = if os.length = rs.length then .ok (back e rs os, r) else .bad := id rfl
theorem callD_ex (e : Env) (rs : List Rv) (c : Nat) (a : PyData) : callD e rs (.ex c a) = if noLent e rs then .ex c a else .bad := id rfl
def callvA (as : List ME) (env : Env) : Option Sem → Rs (Env × Rv)
  | none => .bad
  | some s => (evs G as env).bind (callC s)
theorem callvA_some (as : List ME) (env : Env) (s : Sem) : callvA G as env (some s) = (evs G as env).bind (callC s) := id rfl
def fnD (x : Str) : PyData := .dict [(.str x, .none)]
def callvL (as : List ME) (env : Env) : Option Nat → Rs (Env × Rv)
  | none => .bad
  | some f => callvA G as env (G f)
theorem callvL_some (as : List ME) (env : Env) (f : Nat) : callvL G as env (some f) = callvA G as env (G f) := id rfl
def callvB (tb : List (Str × Nat)) (as : List ME) (env : Env) : Option (Option W) → Rs (Env × Rv)
  | some (some (.d (.dict [(.str x, .none)]))) => callvL G as env (tb.lookup x)
  | _ => .bad
theorem callvB_f (tb : List (Str × Nat)) (as : List ME) (env : Env) (x : Str) : callvB G tb as env (some (some (.d (fnD x)))) = callvL G as env (tb.lookup x) := id rfl
theorem ev_callv (tb : List (Str × Nat)) (i : Nat) (as : List ME) (env : Env) : ev G (.callv tb i as) env = callvB G tb as env env[i]? := by
  show (match env[i]? with | some (some (.d (.dict [(.str x, .none)]))) => _ | _ => _) = _
  unfold callvB
  split
  · rename_i x _
    show (match tb.lookup x with | none => _ | some f => _) = _
    cases tb.lookup x with
    | none => rfl
    | some f =>
      show (match G f with | none => _ | some s => _) = _
      show _ = callvA G as env (G f)
      cases G f <;> rfl
  · rfl
theorem evs_nil (env : Env) : evs G [] env = .ok (env, []) := id rfl
def evsC (r : Rv) (q : Env × List Rv) : Rs (Env × List Rv) := .ok (q.1, r :: q.2)
def evsB (es : List ME) (p : Env × Rv) : Rs (Env × List Rv) := (evs G es p.1).bind (evsC p.2)
theorem evs_cons (e : ME) (es : List ME) (env : Env) : evs G (e :: es) env = (ev G e env).bind (evsB G es) := id rfl
theorem evsB_p (es : List ME) (e : Env) (r : Rv) : evsB G es (e, r) = (evs G es e).bind (evsC r) := id rfl
theorem evsC_p (r : Rv) (e : Env) (rs : List Rv) : evsC r (e, rs) = .ok (e, r :: rs) := id rfl
def evtB (es : List ME) (p : Env × Rv) : Rs (Env × Bool) := match truR p.1 p.2 with
    | some true => evt G es p.1
    | some false => .ok (p.1, false)
    | none => .bad
theorem evt_nil (env : Env) : evt G [] env = .ok (env, true) := id rfl
theorem evt_cons (e : ME) (es : List ME) (env : Env) : evt G (e :: es) env = (ev G e env).bind (evtB G es) := id rfl
def evtD (es : List ME) (e : Env) : Option Bool → Rs (Env × Bool)
    | some true => evt G es e
    | some false => .ok (e, false)
    | none => .bad
theorem evtB_p (es : List ME) (e : Env) (r : Rv) : evtB G es (e, r) = evtD G es e (truR e r) := id rfl
theorem evtD_t (es : List ME) (e : Env) : evtD G es e (some true) = evt G es e := id rfl
theorem evtD_f (es : List ME) (e : Env) : evtD G es e (some false) = .ok (e, false) := id rfl
/-- a turn of a comprehension -/
def lcE (own : List Nat) (p : Env × Rv) : Rs (Env × Option PyData) := match keep p.1 p.2 with
              | some (en2, y) => .ok (wipeE en2 own, some y)
              | none => .bad
def lcD (own : List Nat) (e : ME) (q : Env × Bool) : Rs (Env × Option PyData) := if q.2 then (ev G e q.1).bind (lcE own) else .ok (wipeE q.1 own, none)
def lcC (own : List Nat) (ifs : List ME) (e : ME) : Option Env → Rs (Env × Option PyData)
  | none => .bad
  | some en1 => (evt G ifs en1).bind (lcD G own e)
def lcT (own : List Nat) (tg : Tgt) (ifs : List ME) (e : ME) (x : PyData) (en : Env) : Rs (Env × Option PyData) := lcC G own ifs e (asgT tg x en)
def lcF (own : List Nat) (env1 : Env) (ls : List Nat) : Rs (Env × List PyData) → Rs (Env × Rv)
  | .ok (env2, acc) => if acc.length ≤ sizeLine then match unlock (restE env1 env2 own) ls with
            | some env3 => .ok (env3, .n acc)
            | none => .bad
          else .bad
  | _ => .bad
def lcB (own : List Nat) (tg : Tgt) (ifs : List ME) (e : ME) : Option (Env × List PyData × List Nat) → Rs (Env × Rv)
  | none => .bad
  | some (env1, xs, ls) => lcF own env1 ls (lcGo (lcT G own tg ifs e) xs (wipeE env1 own) [])
def lcA (own : List Nat) (tg : Tgt) (w : Nat) (ifs : List ME) (e : ME) (p : Env × List Rv) : Rs (Env × Rv) := lcB G own tg ifs e (items w p.1 p.2)
theorem lcGo_congr {t t' : PyData → Env → Rs (Env × Option PyData)} (h : ∀ x e, t x e = t' x e) : ∀ (xs : List PyData) (e : Env) (acc : List PyData), lcGo t xs e acc = lcGo t' xs e acc := by
  have : t = t' := funext fun x => funext fun e => h x e
  subst this; intros; rfl
theorem ev_lc (own : List Nat) (tg : Tgt) (w : Nat) (its ifs : List ME) (e : ME) (env : Env) : ev G (.lc own tg w its ifs e) env = (evs G its env).bind (lcA G own tg w ifs e) := by
  show Rs.bind _ _ = _
  congr 1
theorem lcA_p (own : List Nat) (tg : Tgt) (w : Nat) (ifs : List ME) (e : ME) (en : Env) (rs : List Rv) : lcA G own tg w ifs e (en, rs) = lcB G own tg ifs e (items w en rs) := id rfl
theorem lcB_some (own : List Nat) (tg : Tgt) (ifs : List ME) (e : ME) (env1 : Env) (xs : List PyData) (ls : List Nat) : lcB G own tg ifs e (some (env1, xs, ls)) = lcF own env1 ls (lcGo (lcT G own tg ifs e) xs (wipeE env1 own) []) := id rfl
theorem lcT_p (own : List Nat) (tg : Tgt) (ifs : List ME) (e : ME) (x : PyData) (en : Env) : lcT G own tg ifs e x en = lcC G own ifs e (asgT tg x en) := id rfl
theorem lcC_some (own : List Nat) (ifs : List ME) (e : ME) (en : Env) : lcC G own ifs e (some en) = (evt G ifs en).bind (lcD G own e) := id rfl
theorem lcD_t (own : List Nat) (e : ME) (en : Env) : lcD G own e (en, true) = (ev G e en).bind (lcE own) := id rfl
theorem lcD_f (own : List Nat) (e : ME) (en : Env) : lcD G own e (en, false) = .ok (wipeE en own, none) := id rfl
theorem lcE_p (own : List Nat) (en : Env) (r : Rv) : lcE own (en, r) = match keep en r with
              | some (en2, y) => .ok (wipeE en2 own, some y)
              | none => .bad := id rfl
theorem lcF_ok (own : List Nat) (env1 env2 : Env) (ls : List Nat) (acc : List PyData) (l : acc.length ≤ sizeLine) : lcF own env1 ls (.ok (env2, acc)) = match unlock (restE env1 env2 own) ls with
            | some env3 => .ok (env3, .n acc)
            | none => .bad := if_pos l
/-! ### statements -/
def seq (x : Ou) (f : Env → Ou) : Ou := match x with
  | .nx e => f e
  | o => o
theorem exs_nil (env : Env) : exs G [] env = .nx env := id rfl
theorem exs_cons (s : MS) (r : List MS) (env : Env) : exs G (s :: r) env = seq (exs1 G s env) (exs G r) := id rfl
theorem seq_nx {e : Env} {f : Env → Ou} : seq (.nx e) f = f e := id rfl
theorem seq_rt {e : Env} {r : Rv} {f : Env → Ou} : seq (.rt e r) f = .rt e r := id rfl
theorem seq_bk {e : Env} {f : Env → Ou} : seq (.bk e) f = .bk e := id rfl
theorem seq_ct {e : Env} {f : Env → Ou} : seq (.ct e) f = .ct e := id rfl
theorem seq_ex {c : Nat} {a : PyData} {f : Env → Ou} : seq (.ex c a) f = .ex c a := id rfl
def asgC (tg : Tgt) (p : Env × Rv) : Ou := match p.2 with
    | .v x => match asgT tg x p.1 with
      | some env' => .nx env'
      | none => .bad
    | _ => .bad
theorem exs_asg (tg : Tgt) (e : ME) (env : Env) : exs1 G (.asg tg e) env = .of (ev G e env) (asgC tg) := id rfl
theorem asgC_p (tg : Tgt) (e : Env) (x : PyData) : asgC tg (e, .v x) = match asgT tg x e with
      | some env' => .nx env'
      | none => .bad := id rfl
def parC (is : List Nat) (p : Env × List Rv) : Ou := match settle p.1 p.2 with
    | some (e1, qs) => match bindAll e1 is qs with
      | some env' => .nx env'
      | none => .bad
    | none => .bad
theorem exs_par (is : List Nat) (es : List ME) (env : Env) : exs1 G (.par is es) env = .of (evs G es env) (parC is) := id rfl
theorem parC_p (is : List Nat) (e : Env) (rs : List Rv) : parC is (e, rs) = match settle e rs with
    | some (e1, qs) => match bindAll e1 is qs with
      | some env' => .nx env'
      | none => .bad
    | none => .bad := id rfl
def setsC (ts : List (Nat × ME)) (p : Env × List Rv) : Ou := match keepAll p.1 p.2 with
    | some (env1, ys) => match setAll (fun e en => ev G e en) ts ys env1 with
      | some env' => .nx env'
      | none => .bad
    | none => .bad
theorem exs_sets (ts : List (Nat × ME)) (es : List ME) (env : Env) : exs1 G (.sets ts es) env = .of (evs G es env) (setsC G ts) := id rfl
theorem setsC_p (ts : List (Nat × ME)) (e : Env) (rs : List Rv) : setsC G ts (e, rs) = match keepAll e rs with
    | some (env1, ys) => match setAll (ev G) ts ys env1 with
      | some env' => .nx env'
      | none => .bad
    | none => .bad := id rfl
def mixC (ts : List (Nat × Option ME)) (p : Env × List Rv) : Ou := match keepAll p.1 p.2 with
    | some (env1, ys) => match setMix (fun e en => ev G e en) ts ys env1 with
      | some env' => .nx env'
      | none => .bad
    | none => .bad
theorem exs_mix (ts : List (Nat × Option ME)) (es : List ME) (env : Env) : exs1 G (.mix ts es) env = .of (evs G es env) (mixC G ts) := id rfl
theorem mixC_p (ts : List (Nat × Option ME)) (e : Env) (rs : List Rv) : mixC G ts (e, rs) = match keepAll e rs with
    | some (env1, ys) => match setMix (ev G) ts ys env1 with
      | some env' => .nx env'
      | none => .bad
    | none => .bad := id rfl
def unpC (ts : List Tgt) (p : Env × Rv) : Ou := match p.2 with
    | .n xs => match asgTs ts xs p.1 with
      | some env' => .nx env'
      | none => .bad
    | _ => .bad
theorem exs_unp (ts : List Tgt) (e : ME) (env : Env) : exs1 G (.unp ts e) env = .of (ev G e env) (unpC ts) := id rfl
theorem unpC_p (ts : List Tgt) (e : Env) (xs : List PyData) : unpC ts (e, .n xs) = match asgTs ts xs e with
      | some env' => .nx env'
      | none => .bad := id rfl
def augC (i : Nat) (o : BOp) (x : PyData) (p : Env × Rv) : Ou := match dat p.1 p.2 with
      | some y => match augT o x y with
        | some z => if i < p.1.length then .nx (p.1.set i (some (.d z))) else .bad
        | none => .bad
      | none => .bad
def augB (i : Nat) (o : BOp) (e : ME) (env : Env) : Option Rv → Ou
  | some (.v x) => .of (ev G e env) (augC i o x)
  | _ => .bad
theorem exs_aug (i : Nat) (o : BOp) (e : ME) (env : Env) : exs1 G (.aug i o e) env = augB G i o e env (rdName env i) := by
  show (match rdName env i with | some (.v x) => _ | _ => _) = _
  cases rdName env i with
  | none => rfl
  | some r => cases r <;> rfl
theorem augB_v (i : Nat) (o : BOp) (e : ME) (env : Env) (x : PyData) : augB G i o e env (some (.v x)) = .of (ev G e env) (augC i o x) := id rfl
theorem augC_p (i : Nat) (o : BOp) (x : PyData) (e : Env) (r : Rv) : augC i o x (e, r) = match dat e r with
      | some y => match augT o x y with
        | some z => if i < e.length then .nx (e.set i (some (.d z))) else .bad
        | none => .bad
      | none => .bad := id rfl
def augsE (i : Nat) (k : Int) (o : BOp) (x : PyData) (q : Env × Rv) : Ou := match dat q.1 q.2 with
  | some y => match augT o x y with
    | some z => match q.1[i]? with
      | some (some (.l ys)) => match L2.ixN ys.length k with
        | some j => .nx (q.1.set i (some (.l (ys.set j z))))
        | none => .bad
      | _ => .bad
    | none => .bad
  | none => .bad
theorem augsE_p (i : Nat) (k : Int) (o : BOp) (x : PyData) (e : Env) (r : Rv) : augsE i k o x (e, r) = match dat e r with
  | some y => match augT o x y with
    | some z => match e[i]? with
      | some (some (.l ys)) => match L2.ixN ys.length k with
        | some j => .nx (e.set i (some (.l (ys.set j z))))
        | none => .bad
      | _ => .bad
    | none => .bad
  | none => .bad := id rfl
def augsD (i : Nat) (k : Int) (o : BOp) (e : ME) (en : Env) : Option PyData → Ou
  | some x => .of (ev G e en) (augsE i k o x)
  | none => .bad
theorem augsD_some (i : Nat) (k : Int) (o : BOp) (e : ME) (en : Env) (x : PyData) : augsD G i k o e en (some x) = .of (ev G e en) (augsE i k o x) := id rfl
def augsC (i : Nat) (k : Int) (o : BOp) (e : ME) (en : Env) : Option (Option W) → Ou
  | some (some (.l xs)) => if 0 ≤ k then augsD G i k o e en xs[k.toNat]? else .bad
  | _ => .bad
theorem augsC_l (i : Nat) (k : Int) (o : BOp) (e : ME) (en : Env) (xs : List PyData) : augsC G i k o e en (some (some (.l xs))) = if 0 ≤ k then augsD G i k o e en xs[k.toNat]? else .bad := id rfl
def augsB (i : Nat) (o : BOp) (e : ME) (p : Env × Rv) : Ou := match p.2 with
  | .v (.int k) => augsC G i k o e p.1 p.1[i]?
  | _ => .bad
theorem augsB_p (i : Nat) (o : BOp) (e : ME) (en : Env) (k : Int) : augsB G i o e (en, .v (.int k)) = augsC G i k o e en en[i]? := id rfl
theorem exs_augs (i : Nat) (ix : ME) (o : BOp) (e : ME) (env : Env) : exs1 G (.augs i ix o e) env = if isL env i then .of (ev G ix env) (augsB G i o e) else .bad := by
  have h : ∀ p : Env × Rv, (match p.2 with
    | .v (.int k) => match p.1[i]? with
      | some (some (.l xs)) => if 0 ≤ k then match xs[k.toNat]? with
        | some x => .of (ev G e p.1) fun q => match dat q.1 q.2 with
          | some y => match augT o x y with
            | some z => match q.1[i]? with
              | some (some (.l ys)) => match L2.ixN ys.length k with
                | some j => .nx (q.1.set i (some (.l (ys.set j z))))
                | none => .bad
              | _ => .bad
            | none => .bad
          | none => .bad
        | none => .bad
        else .bad
      | _ => .bad
    | _ => .bad : Ou) = augsB G i o e p := by
    intro p
    obtain ⟨en, r⟩ := p
    cases r <;> first | rfl | (rename_i x; cases x <;> rfl)
  have h2 := funext h
  rw [← h2]
  all_goals rfl
def expC (p : Env × Rv) : Ou := .nx p.1
theorem exs_exp (e : ME) (env : Env) : exs1 G (.exp e) env = .of (ev G e env) expC := id rfl
theorem expC_p (e : Env) (r : Rv) : expC (e, r) = .nx e := id rfl
def iteC (a b : List MS) (p : Env × Rv) : Ou := match truR p.1 p.2 with
    | some true => exs G a p.1
    | some false => exs G b p.1
    | none => .bad
theorem exs_ite (t : ME) (a b : List MS) (env : Env) : exs1 G (.ite t a b) env = .of (ev G t env) (iteC G a b) := id rfl
def iteD (a b : List MS) (e : Env) : Option Bool → Ou
    | some true => exs G a e
    | some false => exs G b e
    | none => .bad
theorem iteC_p (a b : List MS) (e : Env) (r : Rv) : iteC G a b (e, r) = iteD G a b e (truR e r) := id rfl
theorem iteD_t (a b : List MS) (e : Env) : iteD G a b e (some true) = exs G a e := id rfl
theorem iteD_f (a b : List MS) (e : Env) : iteD G a b e (some false) = exs G b e := id rfl
def retC (p : Env × Rv) : Ou := .rt p.1 p.2
theorem exs_ret (e : ME) (env : Env) : exs1 G (.ret e) env = .of (ev G e env) retC := id rfl
theorem retC_p (e : Env) (r : Rv) : retC (e, r) = .rt e r := id rfl
theorem exs_retN (env : Env) : exs1 G .retN env = .rt env (.v .none) := id rfl
def forB (body : List MS) : Option Env → Ou
  | none => .bad
  | some e1 => exs G body e1
def forT (tg : Tgt) (body : List MS) (x : PyData) (e : Env) : Ou := forB G body (asgT tg x e)
theorem forT_p (tg : Tgt) (body : List MS) (x : PyData) (e : Env) : forT G tg body x e = forB G body (asgT tg x e) := id rfl
theorem forB_some (body : List MS) (e : Env) : forB G body (some e) = exs G body e := id rfl
def forA (tg : Tgt) (body : List MS) : Option (Env × List PyData × List Nat) → Ou
  | none => .bad
  | some (env1, xs, ls) => opened ls (forGo (forT G tg body) xs env1)
theorem forA_some (tg : Tgt) (body : List MS) (e : Env) (xs : List PyData) (ls : List Nat) : forA G tg body (some (e, xs, ls)) = opened ls (forGo (forT G tg body) xs e) := id rfl
def forC (tg : Tgt) (w : Nat) (body : List MS) (p : Env × List Rv) : Ou := forA G tg body (items w p.1 p.2)
theorem forC_p (tg : Tgt) (w : Nat) (body : List MS) (e : Env) (rs : List Rv) : forC G tg w body (e, rs) = forA G tg body (items w e rs) := id rfl
theorem exs_for (tg : Tgt) (w : Nat) (its : List ME) (body : List MS) (env : Env) : exs1 G (.for_ tg w its body) env = .of (evs G its env) (forC G tg w body) := by
  show Ou.of _ _ = _
  congr 1
theorem exs_brk (env : Env) : exs1 G .brk env = .bk env := id rfl
theorem exs_cnt (env : Env) : exs1 G .cnt env = .ct env := id rfl
theorem exs_pas (env : Env) : exs1 G .pas env = .nx env := id rfl
def raiC (c : Nat) (p : Env × Rv) : Ou := match p.2 with
    | .v x => .ex c x
    | _ => .bad
theorem exs_rai (c : Nat) (e : ME) (env : Env) : exs1 G (.rai c e) env = .of (ev G e env) (raiC c) := id rfl
theorem raiC_p (c : Nat) (e : Env) (x : PyData) : raiC c (e, .v x) = .ex c x := id rfl
theorem exs_tryw (b : List MS) (env : Env) : exs1 G (.tryw b) env = if noOwn env then tryO env (exs G b env) else .bad := id rfl
theorem noOwn_nil : noOwn [] = true := id rfl
theorem noOwn_d (x : PyData) (env : Env) : noOwn (some (.d x) :: env) = noOwn env := id rfl
theorem noOwn_r (x : List PyData) (env : Env) : noOwn (some (.r x) :: env) = noOwn env := id rfl
theorem noOwn_f (f : Nat) (env : Env) : noOwn (some (.f f) :: env) = noOwn env := id rfl
theorem noOwn_n (env : Env) : noOwn (none :: env) = noOwn env := id rfl
def wordO (env : Env) : Option Str → Ou
  | some x => .rt env (.v (.str x))
  | none => .bad
theorem wordO_some (env : Env) (x : Str) : wordO env (some x) = .rt env (.v (.str x)) := id rfl
theorem tryO_ex (env : Env) (c : Nat) (a : PyData) : tryO env (.ex c a) = wordO env (wordD c a) := by
  show (match wordD c a with | some x => _ | none => _) = _
  cases wordD c a <;> rfl
theorem tryO_rt (env e : Env) (r : Rv) : tryO env (.rt e r) = .rt e r := id rfl
theorem tryO_nx (env e : Env) : tryO env (.nx e) = .nx e := id rfl
/-! ### defs -/
def give (ar : Nat) : Ou → Rs (Rv × List (Option W))
  | .nx e => .ok (.v .none, e.take ar)
  | .rt e r => match giveR e ar r with
      | some (e', r') => .ok (r', e'.take ar)
      | none => .bad
  | .ex c a => .ex c a
  | _ => .bad
theorem run_ok (ar many : Nat) (body : List MS) (ws : List W) (h : ws.length = ar) (h2 : lentOk (stos body) 0 ws = true) : runDef G ar many body ws = give ar (exs G body (ws.map some ++ List.replicate (many - ar) none)) := by
  unfold runDef give
  rw [if_pos ⟨h, h2⟩]
  all_goals
    generalize exs G body (ws.map some ++ List.replicate (many - ar) none) = o
    cases o <;> rfl
theorem go {ar many : Nat} {body : List MS} {ws : List W} {R : Rs (Rv × List (Option W))} (h : ws.length = ar) (h2 : lentOk (stos body) 0 ws = true) (h3 : give ar (exs G body (ws.map some ++ List.replicate (many - ar) none)) = R) : runDef G ar many body ws = R := by rw [run_ok G ar many body ws h h2, h3]
theorem give_nx (ar : Nat) (e : Env) : give ar (.nx e) = .ok (.v .none, e.take ar) := id rfl
theorem give_rt (ar : Nat) (e : Env) (r : Rv) : give ar (.rt e r) = match giveR e ar r with
      | some (e', r') => .ok (r', e'.take ar)
      | none => .bad := id rfl
theorem give_ex (ar : Nat) (c : Nat) (a : PyData) : give ar (.ex c a) = .ex c a := id rfl
end
end Ev.D

set_option maxRecDepth 100000
/-! Ev, part DC: plain facts of data: sameness, what can be told, items. -/
namespace Ev.D
open PySem
mutual
/-- data that can be laid, compared and told: no dict, ints below 10 ^ 30 -/
def nic : PyData → Bool
  | .none | .bool _ => true
  | .int i => decide (i.natAbs < 10 ^ 30)
  | .str x => PyData.strOk x
  | .list xs | .tuple xs => nics xs
  | .dict _ => false
def nics : List PyData → Bool
  | [] => true
  | x :: xs => nic x && nics xs
end
theorem nics_of {xs : List PyData} (h : ∀ x ∈ xs, nic x = true) : nics xs = true := by
  induction xs with
  | nil => rfl
  | cons x xs ih =>
    show (nic x && nics xs) = true
    rw [h x (by simp), ih fun y hy => h y (by simp [hy])]
    rfl
theorem nics_iff {xs : List PyData} : nics xs = true ↔ ∀ x ∈ xs, nic x = true := by
  refine ⟨?_, nics_of⟩
  induction xs with
  | nil => intro _ x hx; cases hx
  | cons x xs ih =>
    intro h y hy
    have h : nic x = true ∧ nics xs = true := by simpa [nics] using h
    rcases List.mem_cons.mp hy with rfl | hy
    · exact h.1
    · exact ih h.2 y hy
theorem pow30 : (10 : Nat) ^ 30 < 2 ^ 1920 := by
  exact Nat.lt_of_lt_of_le (m := 2 ^ 100) (by decide) (Nat.pow_le_pow_right (by decide) (by decide))
theorem log_of {i : Int} (h : i.natAbs < 10 ^ 30) : i.natAbs.log2 < 1920 := by
  by_cases z : i.natAbs = 0
  · rw [z]; decide
  · exact (Nat.log2_lt z).mpr (Nat.lt_trans h pow30)
mutual
theorem nic_lay : ∀ d : PyData, nic d = true → d.canLay0 = true
  | .none, _ => by simp only [PyData.canLay0]
  | .bool _, _ => by simp only [PyData.canLay0]
  | .int _, _ => by simp only [PyData.canLay0]
  | .str x, h => by simpa [nic, PyData.canLay0] using h
  | .list xs, h => by simp only [PyData.canLay0]; exact nics_lay xs (by simpa [nic] using h)
  | .tuple xs, h => by simp only [PyData.canLay0]; exact nics_lay xs (by simpa [nic] using h)
  | .dict _, h => by simp [nic] at h
theorem nics_lay : ∀ xs : List PyData, nics xs = true → PyData.canLayAll0 xs = true
  | [], _ => by simp only [PyData.canLayAll0]
  | x :: xs, h => by
    have h : nic x = true ∧ nics xs = true := by simpa [nics] using h
    simp only [PyData.canLayAll0, nic_lay x h.1, nics_lay xs h.2, Bool.and_self]
end
mutual
theorem nic_show : ∀ d : PyData, nic d = true → d.showable = true
  | .none, _ => by simp only [PyData.showable]
  | .bool _, _ => by simp only [PyData.showable]
  | .int i, h => by
    simp only [PyData.showable]
    exact decide_eq_true (log_of (by simpa [nic] using h))
  | .str x, h => by simp only [PyData.showable]
  | .list xs, h => by simp only [PyData.showable]; exact nics_show xs (by simpa [nic] using h)
  | .tuple xs, h => by simp only [PyData.showable]; exact nics_show xs (by simpa [nic] using h)
  | .dict _, h => by simp [nic] at h
theorem nics_show : ∀ xs : List PyData, nics xs = true → PyData.showableAll xs = true
  | [], _ => by simp only [PyData.showableAll]
  | x :: xs, h => by
    have h : nic x = true ∧ nics xs = true := by simpa [nics] using h
    simp only [PyData.showableAll, nic_show x h.1, nics_show xs h.2, Bool.and_self]
end
mutual
theorem nic_short : ∀ d : PyData, nic d = true → d.intsShort 31 = true
  | .none, _ => by simp only [PyData.intsShort]
  | .bool _, _ => by simp only [PyData.intsShort]
  | .int i, h => by
    simp only [PyData.intsShort, PyData.shown]
    refine decide_eq_true ?_
    have := int_text_length_le10 (a := i) (k := 30) (by decide) (by simpa [nic] using h)
    rw [PySem.ofString_length]
    exact this
  | .str x, h => by simp only [PyData.intsShort]
  | .list xs, h => by simp only [PyData.intsShort]; exact nics_short xs (by simpa [nic] using h)
  | .tuple xs, h => by simp only [PyData.intsShort]; exact nics_short xs (by simpa [nic] using h)
  | .dict _, h => by simp [nic] at h
theorem nics_short : ∀ xs : List PyData, nics xs = true → PyData.intsShortAll 31 xs = true
  | [], _ => by simp only [PyData.intsShortAll]
  | x :: xs, h => by
    have h : nic x = true ∧ nics xs = true := by simpa [nics] using h
    simp only [PyData.intsShortAll, nic_short x h.1, nics_short xs h.2, Bool.and_self]
end
mutual
theorem eqv_self : ∀ d : PyData, nic d = true → PyData.eqv d d = true
  | .none, _ => by simp only [PyData.eqv]
  | .bool _, _ => by simp [PyData.eqv]
  | .int i, _ => by simp [PyData.eqv]
  | .str x, _ => by simp [PyData.eqv]
  | .list xs, h => by simp only [PyData.eqv]; exact eqvs_self xs (by simpa [nic] using h)
  | .tuple xs, h => by simp only [PyData.eqv]; exact eqvs_self xs (by simpa [nic] using h)
  | .dict _, h => by simp [nic] at h
theorem eqvs_self : ∀ xs : List PyData, nics xs = true → PyData.eqvAll xs xs = true
  | [], _ => by simp only [PyData.eqvAll]
  | x :: xs, h => by
    have h : nic x = true ∧ nics xs = true := by simpa [nics] using h
    simp only [PyData.eqvAll, eqv_self x h.1, eqvs_self xs h.2, Bool.and_self]
end
mutual
/-- without truths: sameness is sameness -/
def pl : PyData → Bool
  | .none | .int _ | .str _ => true
  | .list xs | .tuple xs => pls xs
  | .bool _ | .dict _ => false
def pls : List PyData → Bool
  | [] => true
  | x :: xs => pl x && pls xs
end
theorem pls_of {xs : List PyData} (h : ∀ x ∈ xs, pl x = true) : pls xs = true := by
  induction xs with
  | nil => rfl
  | cons x xs ih =>
    show (pl x && pls xs) = true
    rw [h x (by simp), ih fun y hy => h y (by simp [hy])]
    rfl
mutual
theorem eqv_eq : ∀ x y : PyData, pl x = true → pl y = true → PyData.eqv x y = true → x = y
  | .none, .none, _, _, _ => rfl
  | .int i, .int j, _, _, h => by simp [PyData.eqv] at h; rw [h]
  | .str a, .str b, _, _, h => by simp [PyData.eqv] at h; rw [h]
  | .list xs, .list ys, h1, h2, h => by
    rw [eqvs_eq xs ys (by simpa [pl] using h1) (by simpa [pl] using h2) (by simpa [PyData.eqv] using h)]
  | .tuple xs, .tuple ys, h1, h2, h => by
    rw [eqvs_eq xs ys (by simpa [pl] using h1) (by simpa [pl] using h2) (by simpa [PyData.eqv] using h)]
  | .bool _, _, h, _, _ => by simp [pl] at h
  | .dict _, _, h, _, _ => by simp [pl] at h
  | _, .bool _, _, h, _ => by simp [pl] at h
  | _, .dict _, _, h, _ => by simp [pl] at h
  | .none, .int _, _, _, h | .none, .str _, _, _, h | .none, .list _, _, _, h | .none, .tuple _, _, _, h => by simp [PyData.eqv] at h
  | .int _, .none, _, _, h | .int _, .str _, _, _, h | .int _, .list _, _, _, h | .int _, .tuple _, _, _, h => by simp [PyData.eqv] at h
  | .str _, .none, _, _, h | .str _, .int _, _, _, h | .str _, .list _, _, _, h | .str _, .tuple _, _, _, h => by simp [PyData.eqv] at h
  | .list _, .none, _, _, h | .list _, .int _, _, _, h | .list _, .str _, _, _, h | .list _, .tuple _, _, _, h => by simp [PyData.eqv] at h
  | .tuple _, .none, _, _, h | .tuple _, .int _, _, _, h | .tuple _, .str _, _, _, h | .tuple _, .list _, _, _, h => by simp [PyData.eqv] at h
theorem eqvs_eq : ∀ xs ys : List PyData, pls xs = true → pls ys = true → PyData.eqvAll xs ys = true → xs = ys
  | [], [], _, _, _ => rfl
  | [], _ :: _, _, _, h => by simp [PyData.eqvAll] at h
  | _ :: _, [], _, _, h => by simp [PyData.eqvAll] at h
  | x :: xs, y :: ys, h1, h2, h => by
    have h1 : pl x = true ∧ pls xs = true := by simpa [pls] using h1
    have h2 : pl y = true ∧ pls ys = true := by simpa [pls] using h2
    have h : PyData.eqv x y = true ∧ PyData.eqvAll xs ys = true := by simpa [PyData.eqvAll] using h
    rw [eqv_eq x y h1.1 h2.1 h.1, eqvs_eq xs ys h1.2 h2.2 h.2]
end
mutual
theorem eqv_refl : ∀ d : PyData, pl d = true → PyData.eqv d d = true
  | .none, _ => by simp only [PyData.eqv]
  | .bool _, h => by simp [pl] at h
  | .int i, _ => by simp [PyData.eqv]
  | .str x, _ => by simp [PyData.eqv]
  | .list xs, h => by simp only [PyData.eqv]; exact eqvs_refl xs (by simpa [pl] using h)
  | .tuple xs, h => by simp only [PyData.eqv]; exact eqvs_refl xs (by simpa [pl] using h)
  | .dict _, h => by simp [pl] at h
theorem eqvs_refl : ∀ xs : List PyData, pls xs = true → PyData.eqvAll xs xs = true
  | [], _ => by simp only [PyData.eqvAll]
  | x :: xs, h => by
    have h : pl x = true ∧ pls xs = true := by simpa [pls] using h
    simp only [PyData.eqvAll, eqv_refl x h.1, eqvs_refl xs h.2, Bool.and_self]
end
theorem depths_le {n : Nat} : ∀ {xs : List PyData}, (∀ x ∈ xs, x.depth ≤ n) → PyData.depthAll xs ≤ n
  | [], _ => Nat.zero_le _
  | x :: xs, h => Nat.max_le.mpr ⟨h x (by simp), depths_le fun y hy => h y (by simp [hy])⟩
theorem bulks_le {n : Nat} : ∀ {xs : List PyData}, (∀ x ∈ xs, x.bulk ≤ n) → PyData.bulkAll xs ≤ xs.length * (n + 1)
  | [], _ => Nat.zero_le _
  | x :: xs, h => by
    have h1 := h x (by simp)
    have h2 := bulks_le (n := n) (xs := xs) fun y hy => h y (by simp [hy])
    show x.bulk + 1 + PyData.bulkAll xs ≤ (xs.length + 1) * (n + 1)
    rw [Nat.add_mul, Nat.one_mul]
    omega
/-- what fits in every bound: nice, at most k deep, at most n items -/
structure Fit (k n : Nat) (d : PyData) : Prop where
  nic : nic d = true
  dep : d.depth ≤ k
  blk : d.bulk ≤ n
theorem Fit.int {i : Int} (h : i.natAbs < 10 ^ 30) {k n : Nat} : Fit k n (.int i) := ⟨by simpa [D.nic] using h, Nat.zero_le _, Nat.zero_le _⟩
theorem Fit.none {k n : Nat} : Fit k n .none := ⟨rfl, Nat.zero_le _, Nat.zero_le _⟩
theorem Fit.bool {b : Bool} {k n : Nat} : Fit k n (.bool b) := ⟨rfl, Nat.zero_le _, Nat.zero_le _⟩
theorem Fit.str {x : Str} {k n : Nat} (h : PyData.strOk x = true) (l : x.cps.size ≤ n) : Fit k n (.str x) := ⟨by simpa [D.nic] using h, Nat.zero_le _, l⟩
theorem Fit.tup {k n m : Nat} {xs : List PyData} (h : ∀ x ∈ xs, Fit k n x) (l : xs.length * (n + 1) ≤ m) : Fit (k + 1) m (.tuple xs) :=
  ⟨by simp only [D.nic]; exact nics_of fun x hx => (h x hx).nic, Nat.succ_le_succ (depths_le fun x hx => (h x hx).dep), Nat.le_trans (bulks_le fun x hx => (h x hx).blk) l⟩
theorem Fit.lst {k n m : Nat} {xs : List PyData} (h : ∀ x ∈ xs, Fit k n x) (l : xs.length * (n + 1) ≤ m) : Fit (k + 1) m (.list xs) :=
  ⟨by simp only [D.nic]; exact nics_of fun x hx => (h x hx).nic, Nat.succ_le_succ (depths_le fun x hx => (h x hx).dep), Nat.le_trans (bulks_le fun x hx => (h x hx).blk) l⟩
theorem Fit.up {k n k' n' : Nat} {d : PyData} (h : Fit k n d) (hk : k ≤ k') (hn : n ≤ n') : Fit k' n' d := ⟨h.nic, Nat.le_trans h.dep hk, Nat.le_trans h.blk hn⟩
theorem Fit.shp {k n : Nat} {d : PyData} (h : Fit k n d) (hk : k ≤ 64) : shp d = true := by
  show (d.canLay0 && decide (d.depth ≤ 64)) = true
  rw [nic_lay d h.nic, decide_eq_true (Nat.le_trans h.dep hk)]
  rfl
theorem Fit.shw {k n : Nat} {d : PyData} (h : Fit k n d) (hk : k ≤ 64) (hn : n ≤ 400000) : shw d = some (.v (.str d.shown)) := by
  have l : d.shown.length ≤ sizeLine := by
    have := PyData.shown_le_bulk 31 (by decide) d (PyData.leavesShort_of_canLay0 31 d (nic_lay d h.nic) (nic_short d h.nic))
    have := h.blk
    have : sizeLine = 16777216 := by decide
    omega
  unfold Ev.shw
  rw [nic_show d h.nic, decide_eq_true l, decide_eq_true (Nat.le_trans h.dep hk), PyData.hasDict_of_canLay d (nic_lay d h.nic)]
  rfl
/-! ### items -/
theorem atI_n {α : Type} (xs : List α) (k : Nat) : L2.atI xs (k : Int) = xs[k]? := by
  unfold L2.atI L2.ixN
  rw [if_pos (by omega)]
  by_cases h : k < xs.length
  · rw [if_pos (by omega)]; simp
  · rw [if_neg (by omega)]; simp; omega
theorem atI_0 {α : Type} (x : α) (xs : List α) : L2.atI (x :: xs) 0 = some x := atI_n (x :: xs) 0
theorem atI_1 {α : Type} (x y : α) (xs : List α) : L2.atI (x :: y :: xs) 1 = some y := atI_n (x :: y :: xs) 1
theorem atI_2 {α : Type} (x y z : α) (xs : List α) : L2.atI (x :: y :: z :: xs) 2 = some z := atI_n (x :: y :: z :: xs) 2
theorem atI_3 {α : Type} (x y z t : α) (xs : List α) : L2.atI (x :: y :: z :: t :: xs) 3 = some t := atI_n (x :: y :: z :: t :: xs) 3
theorem ixN_n {n : Nat} {k : Nat} (h : k < n) : L2.ixN n (k : Int) = some k := by
  unfold L2.ixN
  rw [if_pos (by omega), if_pos (by omega)]; rfl
theorem ixN_0 {n : Nat} : L2.ixN (n + 1) 0 = some 0 := ixN_n (k := 0) (by omega)
theorem ixN_1 {n : Nat} : L2.ixN (n + 2) 1 = some 1 := ixN_n (k := 1) (by omega)
theorem ixN_2 {n : Nat} : L2.ixN (n + 3) 2 = some 2 := ixN_n (k := 2) (by omega)
theorem ixN_3 {n : Nat} : L2.ixN (n + 4) 3 = some 3 := ixN_n (k := 3) (by omega)
theorem cmp_eq_ii (i j : Int) : opCmp .eq (.int i) (.int j) = some (decide (i = j)) := by
  show some (PyData.eqv (.int i) (.int j)) = _
  simp only [PyData.eqv]
  by_cases h : i = j <;> simp [h]
theorem cmp_ne_ii (i j : Int) : opCmp .ne (.int i) (.int j) = some (decide (i ≠ j)) := by
  show some (!PyData.eqv (.int i) (.int j)) = _
  simp only [PyData.eqv]
  by_cases h : i = j <;> simp [h]
theorem cmp_lt_ii (i j : Int) : opCmp .lt (.int i) (.int j) = some (decide (i < j)) := rfl
theorem cmp_le_ii (i j : Int) : opCmp .le (.int i) (.int j) = some (decide (i ≤ j)) := rfl
theorem cmp_gt_ii (i j : Int) : opCmp .gt (.int i) (.int j) = some (decide (j < i)) := rfl
theorem cmp_ge_ii (i j : Int) : opCmp .ge (.int i) (.int j) = some (decide (j ≤ i)) := rfl
theorem cmp_eq {x y : PyData} (h1 : shp x = true) (h2 : shp y = true) : opCmp .eq x y = some (PyData.eqv x y) := by
  have e : opCmp .eq x y = if shp x && shp y then some (PyData.eqv x y) else none := by cases x <;> cases y <;> rfl
  rw [e, h1, h2]; rfl
theorem cmp_ne {x y : PyData} (h1 : shp x = true) (h2 : shp y = true) : opCmp .ne x y = some (!PyData.eqv x y) := by
  have e : opCmp .ne x y = if shp x && shp y then some (!PyData.eqv x y) else none := by cases x <;> cases y <;> rfl
  rw [e, h1, h2]; rfl
/-! ### operations by their shapes -/
theorem sub_l (xs : List PyData) (i : Int) : opSub (.list xs) (.int i) = L2.atI xs i := rfl
theorem sub_t (xs : List PyData) (i : Int) : opSub (.tuple xs) (.int i) = L2.atI xs i := rfl
theorem add_ii (i j : Int) : opBin .add (.int i) (.int j) = some (.v (.int (i + j))) := rfl
theorem sub_ii (i j : Int) : opBin .sub (.int i) (.int j) = some (.v (.int (i - j))) := rfl
theorem mul_ii (i j : Int) : opBin .mul (.int i) (.int j) = if sml i || sml j || decide (i.natAbs.log2 + j.natAbs.log2 < 1000000) then some (.v (.int (i * j))) else none := id rfl
theorem fdiv_ii (i j : Int) : opBin .fdiv (.int i) (.int j) = if j ≠ 0 ∧ j.natAbs.log2 < 9000 then some (.v (.int (i.fdiv j))) else none := id rfl
theorem mod_ii (i j : Int) : opBin .mod (.int i) (.int j) = if j ≠ 0 then some (.v (.int (i.fmod j))) else none := id rfl
theorem pow_ii (i j : Int) : opBin .pow (.int i) (.int j) = if 0 ≤ j ∧ j ≤ 1000 ∧ sml i = true then some (.v (.int (i ^ j.toNat))) else none := id rfl
theorem add_tt (xs ys : List PyData) : opBin .add (.tuple xs) (.tuple ys) = if xs.length + ys.length ≤ sizeLine then some (.v (.tuple (xs ++ ys))) else none := id rfl
theorem add_ll (xs ys : List PyData) : opBin .add (.list xs) (.list ys) = if xs.length + ys.length ≤ sizeLine then some (.n (xs ++ ys)) else none := id rfl
theorem add_ss (a b : Str) : opBin .add (.str a) (.str b) = if a.length + b.length ≤ sizeLine then some (.v (.str (a ++ b))) else none := id rfl
theorem mul_ti (xs : List PyData) (k : Int) : opBin .mul (.tuple xs) (.int k) = if -(2 ^ 63) ≤ k ∧ k ≤ 100000 ∧ k.toNat * xs.length ≤ 1000000 then some (.v (.tuple (rep k.toNat xs))) else none := id rfl
theorem mul_li (xs : List PyData) (k : Int) : opBin .mul (.list xs) (.int k) = if -(2 ^ 63) ≤ k ∧ k < 2 ^ 63 ∧ xs.length * k.toNat ≤ sizeLine then some (.n (rep k.toNat xs)) else none := id rfl
theorem slc_l (lo hi : Option Int) (xs : List PyData) : opSlc lo hi (.list xs) = some (.n (cut xs lo hi)) := rfl
theorem slc_t (lo hi : Option Int) (xs : List PyData) : opSlc lo hi (.tuple xs) = some (.v (.tuple (cut xs lo hi))) := rfl
theorem len_l (xs : List PyData) : opB1 .len (.list xs) = some (.v (.int xs.length)) := rfl
theorem all_l (xs : List PyData) : opB1 .all (.list xs) = (asTr xs).map fun bs => .v (.bool (bs.all id)) := rfl
theorem any_l (xs : List PyData) : opB1 .any (.list xs) = (asTr xs).map fun bs => .v (.bool (bs.any id)) := rfl
theorem sum_l (xs : List PyData) : opB1 .sum (.list xs) = (asInts xs).map fun is => .v (.int is.sum) := rfl
theorem min_l (xs : List PyData) : opB1 .min (.list xs) = minX xs := rfl
theorem max_l (xs : List PyData) : opB1 .max (.list xs) = (asInts xs).bind fun is => match is with | [] => none | i :: r => some (.v (.int (most i r))) := rfl
theorem tuple_l (xs : List PyData) : opB1 .tuple (.list xs) = some (.v (.tuple xs)) := rfl
theorem list_l (xs : List PyData) : opB1 .list (.list xs) = some (.n xs) := rfl
theorem repr_l (xs : List PyData) : opB1 .repr (.list xs) = shw (.list xs) := rfl
theorem repr_x (x : PyData) : opB1 .repr x = shw x := by cases x <;> rfl
theorem len_t (xs : List PyData) : opB1 .len (.tuple xs) = some (.v (.int xs.length)) := rfl
theorem all_t (xs : List PyData) : opB1 .all (.tuple xs) = (asTr xs).map fun bs => .v (.bool (bs.all id)) := rfl
theorem any_t (xs : List PyData) : opB1 .any (.tuple xs) = (asTr xs).map fun bs => .v (.bool (bs.any id)) := rfl
theorem sum_t (xs : List PyData) : opB1 .sum (.tuple xs) = (asInts xs).map fun is => .v (.int is.sum) := rfl
theorem min_t (xs : List PyData) : opB1 .min (.tuple xs) = minX xs := rfl
theorem max_t (xs : List PyData) : opB1 .max (.tuple xs) = (asInts xs).bind fun is => match is with | [] => none | i :: r => some (.v (.int (most i r))) := rfl
theorem tuple_t (xs : List PyData) : opB1 .tuple (.tuple xs) = some (.v (.tuple xs)) := rfl
theorem list_t (xs : List PyData) : opB1 .list (.tuple xs) = some (.n xs) := rfl
theorem repr_t (xs : List PyData) : opB1 .repr (.tuple xs) = shw (.tuple xs) := rfl
theorem sorted_l (xs : List PyData) : opB1 .sorted (.list xs) = (asInts xs).map fun is => .n ((isort is).map .int) := rfl
theorem abs_i (i : Int) : opB1 .abs (.int i) = some (.v (.int (if i < 0 then -i else i))) := rfl
theorem int_i (i : Int) : opB1 .int (.int i) = some (.v (.int i)) := rfl
theorem int_b (b : Bool) : opB1 .int (.bool b) = some (.v (.int (if b then 1 else 0))) := rfl
theorem len_s (a : Str) : opB1 .len (.str a) = if a.length ≤ sizeLine then some (.v (.int a.length)) else none := id rfl
theorem max_ii (i j : Int) : opB2 .max (.int i) (.int j) = some (.int (if j > i then j else i)) := rfl
theorem min_ii (i j : Int) : opB2 .min (.int i) (.int j) = some (.int (if j < i then j else i)) := rfl
theorem is_int_int (x : Int) : isTy .int (.int x) = some true := rfl
theorem is_int_bool (x : Bool) : isTy .int (.bool x) = some true := rfl
theorem is_int_none  : isTy .int .none = some false := rfl
theorem is_int_str (x : Str) : isTy .int (.str x) = some false := rfl
theorem is_int_list (x : List PyData) : isTy .int (.list x) = some false := rfl
theorem is_int_tuple (x : List PyData) : isTy .int (.tuple x) = some false := rfl
theorem is_bool_int (x : Int) : isTy .bool (.int x) = some false := rfl
theorem is_bool_bool (x : Bool) : isTy .bool (.bool x) = some true := rfl
theorem is_bool_none  : isTy .bool .none = some false := rfl
theorem is_bool_str (x : Str) : isTy .bool (.str x) = some false := rfl
theorem is_bool_list (x : List PyData) : isTy .bool (.list x) = some false := rfl
theorem is_bool_tuple (x : List PyData) : isTy .bool (.tuple x) = some false := rfl
theorem is_str_int (x : Int) : isTy .str (.int x) = some false := rfl
theorem is_str_bool (x : Bool) : isTy .str (.bool x) = some false := rfl
theorem is_str_none  : isTy .str .none = some false := rfl
theorem is_str_str (x : Str) : isTy .str (.str x) = some true := rfl
theorem is_str_list (x : List PyData) : isTy .str (.list x) = some false := rfl
theorem is_str_tuple (x : List PyData) : isTy .str (.tuple x) = some false := rfl
theorem is_tuple_int (x : Int) : isTy .tuple (.int x) = some false := rfl
theorem is_tuple_bool (x : Bool) : isTy .tuple (.bool x) = some false := rfl
theorem is_tuple_none  : isTy .tuple .none = some false := rfl
theorem is_tuple_str (x : Str) : isTy .tuple (.str x) = some false := rfl
theorem is_tuple_list (x : List PyData) : isTy .tuple (.list x) = some false := rfl
theorem is_tuple_tuple (x : List PyData) : isTy .tuple (.tuple x) = some true := rfl
theorem tru_b (b : Bool) : tru (.bool b) = some b := rfl
theorem tru_i (i : Int) : tru (.int i) = some (i != 0) := rfl
theorem tru_n  : tru .none = some false := rfl
theorem tru_l (xs : List PyData) : tru (.list xs) = some (!xs.isEmpty) := rfl
theorem tru_t (xs : List PyData) : tru (.tuple xs) = some (!xs.isEmpty) := rfl
theorem isN_n  : opCmp .isN .none .none = some true := rfl
theorem notN_n  : opCmp .notN .none .none = some false := rfl
theorem isN_int (x : Int) : opCmp .isN (.int x) .none = some false := rfl
theorem notN_int (x : Int) : opCmp .notN (.int x) .none = some true := rfl
theorem isN_bool (x : Bool) : opCmp .isN (.bool x) .none = some false := rfl
theorem notN_bool (x : Bool) : opCmp .notN (.bool x) .none = some true := rfl
theorem isN_str (x : Str) : opCmp .isN (.str x) .none = some false := rfl
theorem notN_str (x : Str) : opCmp .notN (.str x) .none = some true := rfl
theorem isN_list (x : List PyData) : opCmp .isN (.list x) .none = some false := rfl
theorem notN_list (x : List PyData) : opCmp .notN (.list x) .none = some true := rfl
theorem isN_tuple (x : List PyData) : opCmp .isN (.tuple x) .none = some false := rfl
theorem notN_tuple (x : List PyData) : opCmp .notN (.tuple x) .none = some true := rfl
theorem lock_l (env : Env) (xs : List PyData) : lockR env (.v (.list xs)) = some (env, xs, []) := rfl
theorem lock_t (env : Env) (xs : List PyData) : lockR env (.v (.tuple xs)) = some (env, xs, []) := rfl
theorem lock_n (env : Env) (xs : List PyData) : lockR env (.n xs) = some (env, xs, []) := rfl
theorem lock_r (env : Env) (xs : List PyData) : lockR env (.r xs) = some (env, xs, []) := rfl
theorem lock_p (env : Env) (i : Nat) : lockR env (.p i) = match env[i]? with
    | some (some (.l xs)) => some (env.set i (some (.k xs)), xs, [i])
    | some (some (.k xs)) => some (env, xs, [])
    | some (some (.d (.list xs))) => some (env, xs, [])
    | _ => none := rfl
theorem isLs_l (xs : List PyData) : isLs (.v (.list xs)) = true := rfl
theorem isLs_t (xs : List PyData) : isLs (.v (.tuple xs)) = false := rfl
theorem isLs_n (xs : List PyData) : isLs (.n xs) = true := rfl
theorem isLs_r (xs : List PyData) : isLs (.r xs) = true := rfl
theorem isLs_p (i : Nat) : isLs (.p i) = true := rfl
theorem asg_n (i : Nat) (x : PyData) (env : Env) : asgT (.n i) x env = if i < env.length then some (env.set i (some (.d x))) else none := rfl
theorem asg_t (ts : List Tgt) (xs : List PyData) (env : Env) : asgT (.t ts) (.tuple xs) env = asgTs ts xs env := rfl
theorem asgs_n (env : Env) : asgTs [] [] env = some env := rfl
theorem asgs_c (t : Tgt) (ts : List Tgt) (x : PyData) (xs : List PyData) (env : Env) : asgTs (t :: ts) (x :: xs) env = match asgT t x env with
    | some env' => asgTs ts xs env'
    | none => none := rfl
theorem minX_ints {xs : List PyData} {i : Int} {r : List Int} (h : asInts xs = some (i :: r)) : minX xs = some (.v (.int (least i r))) := by
  unfold minX minI
  rw [h]
  rfl
end Ev.D

local macro_rules
  | `(tactic| simp_arith! [$as,*] $[$l]?) => `(tactic| simp (config := {decide := true}) only [$as,*, Ev.D.bind_ok, Ev.D.bind_ex, Ev.D.of_ok, Ev.D.of_ex, Ev.D.ofO_some, Ev.D.ev_c, Ev.D.ofN_some, Ev.D.ev_v, Ev.D.ev_fn, Ev.D.ev_tup, Ev.D.ev_lst, Ev.D.tupC_p, Ev.D.lstC_p, Ev.D.ev_bin, Ev.D.binB_p, Ev.D.binC_p, Ev.D.ev_neg, Ev.D.negC_p, Ev.D.ev_cmp, Ev.D.cmpB_p, Ev.D.cmpC_p, Ev.D.ev_chn, Ev.D.chnB_p, Ev.D.chnC_p, Ev.D.chnE_t, Ev.D.chnE_f, Ev.D.chnD_p, Ev.D.ev_ch3, Ev.D.ch3B_p, Ev.D.ch3C_p, Ev.D.ch3E_t, Ev.D.ch3E_f, Ev.D.ev_and, Ev.D.andB_p, Ev.D.andD_t, Ev.D.andD_f, Ev.D.ev_or, Ev.D.orB_p, Ev.D.orD_t, Ev.D.orD_f, Ev.D.ev_not, Ev.D.notC_p, Ev.D.ev_ife, Ev.D.ifeB_p, Ev.D.ifeD_t, Ev.D.ifeD_f, Ev.D.ev_sub, Ev.D.subB_p, Ev.D.subC_p, Ev.D.ev_slc, Ev.D.slcB_p, Ev.D.slcC_p, Ev.D.slcD_p, Ev.D.evo_none, Ev.D.evo_some, Ev.D.evoC_p, Ev.D.ev_rev, Ev.D.ev_b1, Ev.D.b1C_v, Ev.D.b1C_n, Ev.D.b1C_q, Ev.D.b1D_some, Ev.D.b1C_lr, Ev.D.b1C_nr, Ev.D.ev_b2, Ev.D.b2B_p, Ev.D.b2C_p, Ev.D.ev_isi, Ev.D.isiC_p, Ev.D.ev_lrg, Ev.D.lrgB_p, Ev.D.lrgC_p, Ev.D.ev_app, Ev.D.appC_p, Ev.D.idxD_s, Ev.D.ev_idx, Ev.D.idxC_p, Ev.D.ev_ext, Ev.D.extC_p, Ev.D.callC_p, Ev.D.callE_some, Ev.D.callD_ok, Ev.D.callD_ex, Ev.D.callvA_some, Ev.D.callvL_some, Ev.D.callvB_f, Ev.D.ev_callv, Ev.D.evs_nil, Ev.D.evs_cons, Ev.D.evsB_p, Ev.D.evsC_p, Ev.D.evt_nil, Ev.D.evt_cons, Ev.D.evtB_p, Ev.D.evtD_t, Ev.D.evtD_f, Ev.D.ev_lc, Ev.D.lcA_p, Ev.D.lcB_some, Ev.D.lcC_some, Ev.D.lcD_t, Ev.D.lcD_f, Ev.D.lcE_p, Ev.D.exs_nil, Ev.D.exs_cons, Ev.D.seq_nx, Ev.D.seq_rt, Ev.D.seq_bk, Ev.D.seq_ct, Ev.D.seq_ex, Ev.D.exs_asg, Ev.D.asgC_p, Ev.D.exs_par, Ev.D.parC_p, Ev.D.exs_sets, Ev.D.setsC_p, Ev.D.exs_mix, Ev.D.mixC_p, Ev.D.exs_unp, Ev.D.unpC_p, Ev.D.exs_aug, Ev.D.augB_v, Ev.D.augC_p, Ev.D.augsE_p, Ev.D.augsD_some, Ev.D.augsC_l, Ev.D.augsB_p, Ev.D.exs_augs, Ev.D.exs_exp, Ev.D.expC_p, Ev.D.exs_ite, Ev.D.iteC_p, Ev.D.iteD_t, Ev.D.iteD_f, Ev.D.exs_ret, Ev.D.retC_p, Ev.D.exs_retN, Ev.D.forB_some, Ev.D.forA_some, Ev.D.forC_p, Ev.D.exs_for, Ev.D.exs_brk, Ev.D.exs_cnt, Ev.D.exs_pas, Ev.D.exs_rai, Ev.D.raiC_p, Ev.D.exs_tryw, Ev.D.noOwn_nil, Ev.D.noOwn_d, Ev.D.noOwn_r, Ev.D.noOwn_f, Ev.D.noOwn_n, Ev.D.wordO_some, Ev.D.tryO_ex, Ev.D.tryO_rt, Ev.D.tryO_nx, Ev.D.give_nx, Ev.D.give_rt, Ev.D.give_ex, Ev.noLent, Ev.setMix, Ev.rdName, Ev.dat, Ev.datW, Ev.keep, Ev.keepAll, Ev.bindN, Ev.bindAll, Ev.settle, Ev.lend, Ev.back, Ev.giveR, Ev.isL, Ev.truR, Ev.items, Ev.items0, Ev.items1, Ev.items2, Ev.items3, Ev.items4, Ev.items5, Ev.items6, Ev.unlock, Ev.unlock1, Ev.wipeE, Ev.restE, Ev.setAll, List.getElem?_cons_zero, List.getElem?_cons_succ, List.getElem?_nil, List.set_cons_zero, List.set_cons_succ, List.map_cons, List.map_nil, List.cons_append, List.nil_append, List.replicate_succ, List.replicate_zero, List.length_cons, List.length_nil, List.take_succ_cons, List.take_zero, List.take_nil, Nat.reduceSub, Nat.reduceAdd, Nat.reduceLT, Nat.reduceLeDiff, Nat.reduceEqDiff, Nat.zero_add, ite_true, ite_false, Option.bind_some, Option.map_some, reduceIte, Option.some.injEq, Option.getD_some, Option.getD_none, List.contains_cons, List.contains_nil, Bool.not_true, Bool.not_false, Bool.and_true, Bool.true_and, Bool.and_false, Bool.false_and, Nat.lt_add_one, Nat.not_lt_zero, if_true, if_false, not_true_eq_false, not_false_eq_true, and_self, and_true, true_and, List.length_map, Nat.reduceBEq, List.elem_cons, List.elem_nil, List.mem_cons, List.not_mem_nil, or_false, false_or, Nat.add_one_ne_zero, decide_true, decide_false, List.append_nil, Bool.false_eq_true, Bool.true_eq_false, Bool.not_eq_true, Bool.or_false, Bool.false_or, Bool.or_true, Bool.true_or, Int.ofNat_le, Int.ofNat_lt, Int.reduceAdd, Int.reduceSub, Int.reduceNeg, Int.reduceLE, Int.reduceLT, Int.reduceEq, Int.reduceMul, ne_eq, Bool.not_not, false_and, and_false, List.getD_cons_zero, List.getD_cons_succ, List.getD_nil, eq_self, Ev.D.atI_0, Ev.D.atI_1, Ev.D.atI_2, Ev.D.atI_3, Ev.D.ixN_0, Ev.D.ixN_1, Ev.D.ixN_2, Ev.D.ixN_3, Ev.D.cmp_eq_ii, Ev.D.cmp_ne_ii, Ev.D.cmp_lt_ii, Ev.D.cmp_le_ii, Ev.D.cmp_gt_ii, Ev.D.cmp_ge_ii, Ev.D.sub_l, Ev.D.sub_t, Ev.D.add_ii, Ev.D.sub_ii, Ev.D.mul_ii, Ev.D.fdiv_ii, Ev.D.mod_ii, Ev.D.pow_ii, Ev.D.add_tt, Ev.D.add_ll, Ev.D.add_ss, Ev.D.mul_ti, Ev.D.mul_li, Ev.D.slc_l, Ev.D.slc_t, Ev.D.len_l, Ev.D.all_l, Ev.D.any_l, Ev.D.sum_l, Ev.D.min_l, Ev.D.max_l, Ev.D.tuple_l, Ev.D.list_l, Ev.D.repr_l, Ev.D.repr_x, Ev.D.len_t, Ev.D.all_t, Ev.D.any_t, Ev.D.sum_t, Ev.D.min_t, Ev.D.max_t, Ev.D.tuple_t, Ev.D.list_t, Ev.D.repr_t, Ev.D.sorted_l, Ev.D.abs_i, Ev.D.int_i, Ev.D.int_b, Ev.D.len_s, Ev.D.max_ii, Ev.D.min_ii, Ev.D.is_int_int, Ev.D.is_int_bool, Ev.D.is_int_none, Ev.D.is_int_str, Ev.D.is_int_list, Ev.D.is_int_tuple, Ev.D.is_bool_int, Ev.D.is_bool_bool, Ev.D.is_bool_none, Ev.D.is_bool_str, Ev.D.is_bool_list, Ev.D.is_bool_tuple, Ev.D.is_str_int, Ev.D.is_str_bool, Ev.D.is_str_none, Ev.D.is_str_str, Ev.D.is_str_list, Ev.D.is_str_tuple, Ev.D.is_tuple_int, Ev.D.is_tuple_bool, Ev.D.is_tuple_none, Ev.D.is_tuple_str, Ev.D.is_tuple_list, Ev.D.is_tuple_tuple, Ev.D.tru_b, Ev.D.tru_i, Ev.D.tru_n, Ev.D.tru_l, Ev.D.tru_t, Ev.D.isN_n, Ev.D.notN_n, Ev.D.isN_int, Ev.D.notN_int, Ev.D.isN_bool, Ev.D.notN_bool, Ev.D.isN_str, Ev.D.notN_str, Ev.D.isN_list, Ev.D.notN_list, Ev.D.isN_tuple, Ev.D.notN_tuple, Ev.D.lock_l, Ev.D.lock_t, Ev.D.lock_n, Ev.D.lock_r, Ev.D.lock_p, Ev.D.isLs_l, Ev.D.isLs_t, Ev.D.isLs_n, Ev.D.isLs_r, Ev.D.isLs_p, Ev.D.asg_n, Ev.D.asg_t, Ev.D.asgs_n, Ev.D.asgs_c] $[$l]?)

set_option maxRecDepth 100000
/-! Ev, part DD: walks told as maps, loops by their invariants. -/
namespace Ev.D
open PySem
section
variable {α β : Type}
/-! ### comprehensions -/
theorem lcGo_map {turn : PyData → Env → Rs (Env × Option PyData)} {env : Env} {f g : α → PyData} : ∀ {xs : List α} {acc : List PyData}, (∀ x ∈ xs, turn (f x) env = .ok (env, some (g x))) → lcGo turn (xs.map f) env acc = .ok (env, acc ++ xs.map g)
  | [], acc, _ => by simp [lcGo]
  | x :: xs, acc, h => by
    show (match turn (f x) env with | .ok (env', some y) => lcGo turn (xs.map f) env' (acc ++ [y]) | .ok (env', none) => lcGo turn (xs.map f) env' acc | _ => .bad) = _
    rw [h x (by simp)]
    show lcGo turn (xs.map f) env (acc ++ [g x]) = _
    rw [lcGo_map fun y hy => h y (by simp [hy])]
    simp
theorem lcGo_sel {turn : PyData → Env → Rs (Env × Option PyData)} {env : Env} {f g : α → PyData} {p : α → Bool} : ∀ {xs : List α} {acc : List PyData}, (∀ x ∈ xs, turn (f x) env = .ok (env, if p x then some (g x) else none)) → lcGo turn (xs.map f) env acc = .ok (env, acc ++ (xs.filter p).map g)
  | [], acc, _ => by simp [lcGo]
  | x :: xs, acc, h => by
    have ih : ∀ acc, lcGo turn (xs.map f) env acc = .ok (env, acc ++ (xs.filter p).map g) := fun acc => lcGo_sel fun y hy => h y (by simp [hy])
    show (match turn (f x) env with | .ok (env', some y) => lcGo turn (xs.map f) env' (acc ++ [y]) | .ok (env', none) => lcGo turn (xs.map f) env' acc | _ => .bad) = _
    rw [h x (by simp)]
    cases hp : p x with
    | true =>
      show lcGo turn (xs.map f) env (acc ++ [g x]) = _
      rw [ih]
      simp [hp]
    | false =>
      show lcGo turn (xs.map f) env acc = _
      rw [ih]
      simp [hp]
/-- a comprehension whose turns change what they see -/
theorem lcGo_inv {turn : PyData → Env → Rs (Env × Option PyData)} {f : α → PyData} {I : Env → Prop} {Q : PyData → Prop} : ∀ {xs : List α} {env : Env} {acc : List PyData}, I env → (∀ x ∈ xs, ∀ e, I e → ∃ e' y, turn (f x) e = .ok (e', some y) ∧ I e' ∧ Q y) →
    ∃ e' ys, lcGo turn (xs.map f) env acc = .ok (e', acc ++ ys) ∧ I e' ∧ ys.length = xs.length ∧ ∀ y ∈ ys, Q y
  | [], env, acc, i, _ => ⟨env, [], by simp [lcGo], i, rfl, fun y h => by cases h⟩
  | x :: xs, env, acc, i, h => by
    obtain ⟨e', y, h1, i1, q1⟩ := h x (by simp) env i
    obtain ⟨e2, ys, h2, i2, l2, q2⟩ := lcGo_inv (xs := xs) (acc := acc ++ [y]) i1 fun z hz => h z (by simp [hz])
    refine ⟨e2, y :: ys, ?_, i2, by simp [l2], fun z hz => ?_⟩
    · show (match turn (f x) env with | .ok (env', some y) => lcGo turn (xs.map f) env' (acc ++ [y]) | .ok (env', none) => lcGo turn (xs.map f) env' acc | _ => .bad) = _
      rw [h1]
      show lcGo turn (xs.map f) e' (acc ++ [y]) = _
      rw [h2]
      simp
    · rcases List.mem_cons.mp hz with rfl | hz
      · exact q1
      · exact q2 z hz
theorem upto_eq : ∀ (n : Nat) (lo : Int), upto lo n = (List.range n).map fun k : Nat => PyData.int (lo + k)
  | 0, _ => rfl
  | n + 1, lo => by
    rw [List.range_succ_eq_map, List.map_cons, List.map_map]
    show PyData.int lo :: upto (lo + 1) n = _
    rw [upto_eq n (lo + 1)]
    congr 1
    · simp
    · refine List.map_congr_left fun k _ => ?_
      show PyData.int (lo + 1 + k) = PyData.int (lo + (k + 1 : Nat))
      congr 1; omega
theorem upto0 (n : Nat) : upto 0 n = (List.range n).map fun k : Nat => PyData.int k := by rw [upto_eq]; simp
theorem numd_eq : ∀ (xs : List PyData) (k : Nat), numd k xs = (xs.zipIdx k).map fun p => .tuple [.int p.2, p.1]
  | [], _ => rfl
  | x :: xs, k => by
    show PyData.tuple [.int k, x] :: numd ((k : Int) + 1) xs = _
    rw [show ((k : Int) + 1) = ((k + 1 : Nat) : Int) by omega, numd_eq xs (k + 1)]
    rfl
theorem numd_map (f : α → PyData) (xs : List α) : numd 0 (xs.map f) = xs.zipIdx.map fun p => .tuple [.int p.2, f p.1] := by
  rw [show (0 : Int) = ((0 : Nat) : Int) from rfl, numd_eq]
  rw [List.zipIdx_map, List.map_map]
  rfl
theorem pairs_map (f : α → PyData) (g : β → PyData) : ∀ (xs : List α) (ys : List β), pairs (xs.map f) (ys.map g) = (xs.zip ys).map fun p => .tuple [f p.1, g p.2]
  | [], _ => by simp [pairs]
  | _ :: _, [] => by simp [pairs]
  | x :: xs, y :: ys => by
    show PyData.tuple [f x, g y] :: pairs (xs.map f) (ys.map g) = _
    rw [pairs_map f g xs ys]; rfl
theorem triples_map {γ : Type} (f : α → PyData) (g : β → PyData) (h : γ → PyData) : ∀ (xs : List α) (ys : List β) (zs : List γ), triples (xs.map f) (ys.map g) (zs.map h) = (xs.zip (ys.zip zs)).map fun p => .tuple [f p.1, g p.2.1, h p.2.2]
  | [], _, _ => by simp [triples]
  | _ :: _, [], _ => by simp [triples]
  | _ :: _, _ :: _, [] => by simp [triples]
  | x :: xs, y :: ys, z :: zs => by
    show PyData.tuple [f x, g y, h z] :: triples (xs.map f) (ys.map g) (zs.map h) = _
    rw [triples_map f g h xs ys zs]; rfl
theorem asInts_map (f : α → Int) : ∀ xs : List α, asInts (xs.map fun x => .int (f x)) = some (xs.map f)
  | [] => rfl
  | x :: xs => by
    show (asInts (xs.map fun x => .int (f x))).map (f x :: ·) = _
    rw [asInts_map f xs]; rfl
theorem asInts_int (xs : List Int) : asInts (xs.map .int) = some xs := by
  have := asInts_map (fun x : Int => x) xs
  simpa using this
theorem asTr_map (f : α → Bool) : ∀ xs : List α, asTr (xs.map fun x => .bool (f x)) = some (xs.map f)
  | [] => rfl
  | x :: xs => by
    show (asTr (xs.map fun x => .bool (f x))).map (f x :: ·) = _
    rw [asTr_map f xs]; rfl
theorem asTr_int : ∀ xs : List Int, asTr (xs.map .int) = some (xs.map (· != 0))
  | [] => rfl
  | x :: xs => by
    show (asTr (xs.map .int)).map ((x != 0) :: ·) = _
    rw [asTr_int xs]; rfl
theorem all_id (f : α → Bool) (xs : List α) : (xs.map f).all id = xs.all f := by rw [List.all_map]; rfl
theorem any_id (f : α → Bool) (xs : List α) : (xs.map f).any id = xs.any f := by rw [List.any_map]; rfl
/-! ### slices -/
theorem cut_map (f : α → β) (xs : List α) (lo hi : Option Int) : cut (xs.map f) lo hi = (cut xs lo hi).map f := by
  unfold cut; rw [List.length_map, List.map_take, List.map_drop]
theorem cut_take (xs : List α) (k : Nat) : cut xs none (some (k : Int)) = xs.take k := by
  unfold cut; rw [HT.sIx_nat, HT.sIx_none]
  simp only [List.drop_zero, Nat.sub_zero]
  rcases Nat.le_total k xs.length with h | h
  · rw [Nat.min_eq_left h]
  · rw [Nat.min_eq_right h, List.take_of_length_le (Nat.le_refl _), List.take_of_length_le h]
theorem cut_drop (xs : List α) (k : Nat) : cut xs (some (k : Int)) none = xs.drop k := by
  unfold cut; rw [HT.sIx_nat, HT.sIx_none]
  rcases Nat.le_total k xs.length with h | h
  · rw [Nat.min_eq_left h, List.take_of_length_le (by simp)]
  · rw [Nat.min_eq_right h]; simp [List.drop_eq_nil_of_le h]
theorem cut_two (xs : List α) (i j : Nat) : cut xs (some (i : Int)) (some (j : Int)) = (xs.drop i).take (j - i) := by
  unfold cut; rw [HT.sIx_nat, HT.sIx_nat]
  rcases Nat.le_total i xs.length with h | h
  · rw [Nat.min_eq_left h]
    rcases Nat.le_total j xs.length with h' | h'
    · rw [Nat.min_eq_left h']
    · rw [Nat.min_eq_right h', List.take_of_length_le (by simp), List.take_of_length_le (by simp; omega)]
  · rw [Nat.min_eq_right h]
    simp [List.drop_eq_nil_of_le h]
/-! ### loops -/
/-- a loop that goes on: its invariant by the number of turns -/
theorem forGo_all {turn : PyData → Env → Ou} {f : α → PyData} {I : Nat → Env → Prop} : ∀ {xs : List α} {k : Nat} {env : Env}, I k env → (∀ i x e, xs[i]? = some x → I (k + i) e → ∃ e', turn (f x) e = .nx e' ∧ I (k + i + 1) e') → ∃ e', forGo turn (xs.map f) env = .nx e' ∧ I (k + xs.length) e'
  | [], k, env, i, _ => ⟨env, rfl, i⟩
  | x :: xs, k, env, i, h => by
    obtain ⟨e', h1, i1⟩ := h 0 x env rfl i
    obtain ⟨e2, h2, i2⟩ := forGo_all (xs := xs) (k := k + 1) i1 fun j y e hj ij => by
      have := h (j + 1) y e (by simpa using hj) (by rw [show k + (j + 1) = k + 1 + j by omega]; exact ij)
      rw [show k + (j + 1) + 1 = k + 1 + j + 1 by omega] at this
      exact this
    refine ⟨e2, ?_, by rw [List.length_cons, show k + (xs.length + 1) = k + 1 + xs.length by omega]; exact i2⟩
    show (match turn (f x) env with | .nx e => forGo turn (xs.map f) e | .ct e => forGo turn (xs.map f) e | .bk e => .bk e | o => o) = _
    rw [h1]
    exact h2
/-- a search: the first that is found is handed back -/
theorem forGo_find {turn : PyData → Env → Ou} {f : α → PyData} {I : Env → Prop} {p : α → Bool} {ans : α → Rv} {J : Env → Prop} : ∀ {xs : List α} {env : Env}, I env →
    (∀ x ∈ xs, ∀ e, I e → p x = false → ∃ e', turn (f x) e = .nx e' ∧ I e') → (∀ x ∈ xs, ∀ e, I e → p x = true → ∃ e', turn (f x) e = .rt e' (ans x) ∧ J e') →
    (∃ x, xs.find? p = some x ∧ ∃ e', forGo turn (xs.map f) env = .rt e' (ans x) ∧ J e') ∨ (xs.find? p = none ∧ ∃ e', forGo turn (xs.map f) env = .nx e' ∧ I e')
  | [], env, i, _, _ => .inr ⟨rfl, env, rfl, i⟩
  | x :: xs, env, i, h1, h2 => by
    have go : forGo turn ((x :: xs).map f) env = match turn (f x) env with | .nx e => forGo turn (xs.map f) e | .ct e => forGo turn (xs.map f) e | .bk e => .bk e | o => o := rfl
    cases hp : p x with
    | true =>
      obtain ⟨e', h3, j⟩ := h2 x (by simp) env i hp
      refine .inl ⟨x, by simp [hp], e', ?_, j⟩
      rw [go, h3]
    | false =>
      obtain ⟨e', h3, i'⟩ := h1 x (by simp) env i hp
      rw [go, h3]
      dsimp only
      rcases forGo_find (xs := xs) i' (fun y hy => h1 y (by simp [hy])) (fun y hy => h2 y (by simp [hy])) with ⟨y, q1, q2⟩ | ⟨q1, q2⟩
      · exact .inl ⟨y, by rw [List.find?_cons, hp]; exact q1, q2⟩
      · exact .inr ⟨by rw [List.find?_cons, hp]; exact q1, q2⟩
end
end Ev.D

set_option maxRecDepth 100000
/-! Ev, part DF: more tools of the plain laws. -/
namespace Ev.D
open PySem
section
variable {α β γ : Type}
/-! ### loops over told items -/
def forS (o : Ou) (k : Env → Ou) : Ou := match o with
  | .nx e => k e
  | .ct e => k e
  | .bk e => .bk e
  | o => o
theorem forS_nx {e : Env} {k : Env → Ou} : forS (.nx e) k = k e := rfl
theorem forS_ct {e : Env} {k : Env → Ou} : forS (.ct e) k = k e := rfl
theorem forS_rt {e : Env} {r : Rv} {k : Env → Ou} : forS (.rt e r) k = .rt e r := rfl
theorem forS_ex {c : Nat} {a : PyData} {k : Env → Ou} : forS (.ex c a) k = .ex c a := rfl
theorem op_ex (ls : List Nat) (c : Nat) (a : PyData) : opened ls (.ex c a) = .ex c a := rfl
theorem forGo_nil (turn : PyData → Env → Ou) (env : Env) : forGo turn [] env = .nx env := rfl
theorem forGo_cons (turn : PyData → Env → Ou) (x : PyData) (xs : List PyData) (env : Env) : forGo turn (x :: xs) env = forS (turn x env) (forGo turn xs) := by
  show (match turn x env with | .nx e => forGo turn xs e | .ct e => forGo turn xs e | .bk e => .bk e | o => o) = _
  unfold forS
  cases turn x env <;> rfl
theorem op_nx (e : Env) : opened [] (.nx e) = .nx e := rfl
theorem op_rt (e : Env) (r : Rv) : opened [] (.rt e r) = .rt e r := rfl
/-- a search: the first that is found is handed back -/
theorem forGo_fs {turn : PyData → Env → Ou} {f : α → PyData} {I : Env → Prop} {g : α → Option β} {ans : β → Rv} {J : Env → Prop} : ∀ {xs : List α} {env : Env}, I env →
    (∀ x ∈ xs, ∀ e, I e → (g x = none → ∃ e', turn (f x) e = .nx e' ∧ I e') ∧ (∀ a, g x = some a → ∃ e', turn (f x) e = .rt e' (ans a) ∧ J e')) →
    (xs.findSome? g = none → ∃ e', forGo turn (xs.map f) env = .nx e' ∧ I e') ∧ (∀ a, xs.findSome? g = some a → ∃ e', forGo turn (xs.map f) env = .rt e' (ans a) ∧ J e')
  | [], env, i, _ => ⟨fun _ => ⟨env, rfl, i⟩, fun a h => by cases h⟩
  | x :: xs, env, i, h => by
    rw [List.map_cons, forGo_cons, List.findSome?_cons]
    obtain ⟨h1, h2⟩ := h x (by simp) env i
    cases hp : g x with
    | some a =>
      obtain ⟨e', h3, j⟩ := h2 a hp
      rw [h3, forS_rt]
      refine ⟨fun q => by simp at q, fun b q => ?_⟩
      have q : a = b := by simpa using q
      subst q
      exact ⟨e', rfl, j⟩
    | none =>
      obtain ⟨e', h3, i'⟩ := h1 hp
      rw [h3, forS_nx]
      exact forGo_fs (xs := xs) i' fun y hy => h y (by simp [hy])
theorem stepto_eq : ∀ (n : Nat) (lo c : Int), stepto lo c n = (List.range n).map fun k : Nat => PyData.int (lo + k * c)
  | 0, _, _ => rfl
  | n + 1, lo, c => by
    rw [List.range_succ_eq_map, List.map_cons, List.map_map]
    show PyData.int lo :: stepto (lo + c) c n = _
    rw [stepto_eq n (lo + c) c]
    congr 1
    · simp
    · refine List.map_congr_left fun k _ => ?_
      show PyData.int (lo + c + k * c) = PyData.int (lo + (k + 1 : Nat) * c)
      congr 1
      rw [show ((k + 1 : Nat) : Int) = k + 1 by omega, Int.add_mul]; omega
theorem cut_1 (x : α) (xs : List α) : cut (x :: xs) (some 1) none = xs := by
  rw [show (1 : Int) = ((1 : Nat) : Int) from rfl, cut_drop]; rfl
theorem all_true (xs : List α) : (xs.map fun _ => true).all id = true := by simp
theorem fil_false (xs : List α) : xs.filter (fun _ => false) = [] := by simp
theorem rep1 (x : α) (n : Nat) : rep n [x] = List.replicate n x := by
  unfold rep
  induction n with
  | zero => rfl
  | succ n ih => rw [List.replicate_succ, List.flatten_cons, ih, List.replicate_succ]; rfl
theorem sml_of {i : Int} (h1 : -1000000000000000000 ≤ i) (h2 : i ≤ 1000000000000000000) : sml i = true := by
  unfold sml
  rw [decide_eq_true (by omega), decide_eq_true (by omega)]; rfl
theorem sml_nat {k : Nat} (h : k ≤ 1000000) : sml ((k : Int) + 1) = true := sml_of (by omega) (by omega)
theorem mul_s {i x : Int} (h : sml i = true) : opBin .mul (.int i) (.int x) = some (.v (.int (i * x))) := by rw [mul_ii, if_pos (by rw [h]; rfl)]
theorem mul_k {k : Nat} (h : k ≤ 1000000) (x : Int) : opBin .mul (.int ((k : Int) + 1)) (.int x) = some (.v (.int (((k : Int) + 1) * x))) := mul_s (sml_nat h)
theorem line {n : Nat} (h : n ≤ 1000000) : n ≤ sizeLine := Nat.le_trans h (by decide)
theorem zip_self {f : α → β} : ∀ (xs : List α), xs.zip (xs.map f) = xs.map fun x => (x, f x)
  | [] => rfl
  | x :: xs => by simp [zip_self xs]
end
end Ev.D

set_option maxRecDepth 100000
/-! Ev, part DG: texts that are told are texts. -/
namespace Ev.D
open PySem StrLaws
def okS (x : Str) : Prop := ∀ c ∈ x.cps.toList, c < 0x110000
theorem okS_iff (x : Str) : PyData.strOk x = true ↔ okS x := by
  unfold PyData.strOk okS
  rw [Array.all_eq_true_iff_forall_mem]
  simp
theorem okS_app {a b : Str} (h1 : okS a) (h2 : okS b) : okS (a ++ b) := by
  intro c hc
  have hc : c ∈ (a.cps ++ b.cps).toList := hc
  rw [Array.toList_append, List.mem_append] at hc
  exact hc.elim (h1 c) (h2 c)
theorem okS_lit (s : String) : okS (Str.ofString s) := by
  intro c hc
  rw [Str.ofString_eq_toList] at hc
  have hc : c ∈ s.toList.map Char.toNat := by simpa using hc
  obtain ⟨d, _, rfl⟩ := List.mem_map.mp hc
  have := d.valid
  rcases this with h | ⟨_, h⟩
  · show d.val.toNat < _
    have h : d.val.toNat < 0xD800 := h
    omega
  · exact h
theorem okS_from : ∀ (ts : List Str) (k : Nat) (acc : Str), okS acc → (∀ t ∈ ts, okS t) → okS (textFrom k acc ts)
  | [], _, acc, h, _ => h
  | t :: ts, k, acc, h, h2 => okS_from ts (k + 1) _ (okS_app (okS_app h (okS_lit _)) (h2 t (by simp))) fun u hu => h2 u (by simp [hu])
theorem okS_list {ts : List Str} (h : ∀ t ∈ ts, okS t) : okS (listText ts) := okS_app (okS_from ts 0 _ (okS_lit _) h) (okS_lit _)
theorem okS_join {sep : Str} (hs : okS sep) : ∀ ts : List Str, (∀ t ∈ ts, okS t) → okS (Str.join sep ts)
  | [], _ => fun c hc => by cases hc
  | [x], h => h x (by simp)
  | x :: y :: r, h => okS_app (okS_app (h x (by simp)) hs) (okS_join hs (y :: r) fun u hu => h u (by simp [hu]))
theorem okS_tuple {ts : List Str} (h : ∀ t ∈ ts, okS t) : okS (tupleText ts) := okS_app (okS_app (okS_lit _) (okS_join (okS_lit _) ts h)) (okS_lit _)
theorem digs (n : Nat) : ∀ x ∈ (Nat.toDigits 16 n).map Char.toNat, x < 0x110000 := by
  intro x hx
  obtain ⟨d, _, rfl⟩ := List.mem_map.mp hx
  rcases d.valid with h | ⟨_, h⟩
  · show d.val.toNat < _
    have h : d.val.toNat < 0xD800 := h
    omega
  · exact h
theorem okC (q c : Nat) (hc : c < 0x110000) : ∀ x ∈ Builtin.Str.reprChar q c, x < 0x110000 := by
  have dg := digs c
  intro x hx
  unfold Builtin.Str.reprChar at hx
  dsimp only at hx
  have hr : ∀ k : Nat, x ∈ List.replicate k 48 → x < 0x110000 := fun k h => by rw [(List.mem_replicate.mp h).2]; omega
  repeat' split at hx
  all_goals simp only [List.mem_append, List.mem_cons, List.not_mem_nil, or_false] at hx
  · omega
  · omega
  · omega
  · omega
  · omega
  · rcases hx with (h | h) | h | h
    · omega
    · omega
    · exact hr _ h
    · exact dg x h
  · rcases hx with (h | h) | h | h
    · omega
    · omega
    · exact hr _ h
    · exact dg x h
  · rcases hx with (h | h) | h | h
    · omega
    · omega
    · exact hr _ h
    · exact dg x h
theorem okF (q : Nat) : ∀ (l : List Nat) (acc : Array Nat), (∀ c ∈ l, c < 0x110000) → (∀ c ∈ acc.toList, c < 0x110000) → ∀ c ∈ (l.foldl (fun out c => out ++ (Builtin.Str.reprChar q c).toArray) acc).toList, c < 0x110000
  | [], acc, _, h => h
  | c :: r, acc, h1, h2 => by
    refine okF q r _ (fun d hd => h1 d (by simp [hd])) ?_
    intro d hd
    simp only [Array.toList_append, List.mem_append] at hd
    rcases hd with hd | hd
    · exact h2 d hd
    · exact okC q c (h1 c (by simp)) d hd
theorem okS_repr {x : Str} (h : okS x) : okS (reprText x) := by
  have hq : reprQuote x < 0x110000 := by unfold reprQuote; split <;> omega
  intro c hc
  unfold reprText at hc
  simp only [Array.toList_push, List.mem_append, List.mem_singleton, ← Array.foldl_toList] at hc
  rcases hc with hc | rfl
  · exact okF (reprQuote x) x.cps.toList #[reprQuote x] h (by simpa using hq) c hc
  · exact hq
mutual
theorem okS_shown : ∀ d : PyData, nic d = true → okS d.shown
  | .none, _ => by simp only [PyData.shown]; exact okS_lit _
  | .bool b, _ => by cases b <;> (simp only [PyData.shown]; exact okS_lit _)
  | .int i, h => by simp only [PyData.shown]; exact okS_lit _
  | .str x, h => by simp only [PyData.shown]; exact okS_repr ((okS_iff x).mp (by simpa [nic] using h))
  | .list xs, h => by simp only [PyData.shown]; exact okS_list (okS_shownAll xs (by simpa [nic] using h))
  | .tuple xs, h => by simp only [PyData.shown]; exact okS_tuple (okS_shownAll xs (by simpa [nic] using h))
  | .dict _, h => by simp [nic] at h
theorem okS_shownAll : ∀ xs : List PyData, nics xs = true → ∀ t ∈ PyData.shownAll xs, okS t
  | [], _ => by simp [PyData.shownAll]
  | x :: xs, h => by
    have h : nic x = true ∧ nics xs = true := by simpa [nics] using h
    intro t ht
    simp only [PyData.shownAll, List.mem_cons] at ht
    rcases ht with rfl | ht
    · exact okS_shown x h.1
    · exact okS_shownAll xs h.2 t ht
end
theorem shp_str {x : Str} (h : okS x) : shp (.str x) = true := by
  show ((PyData.str x).canLay0 && decide ((PyData.str x).depth ≤ 64)) = true
  rw [show (PyData.str x).canLay0 = true by simpa [PyData.canLay0] using (okS_iff x).mpr h]
  rfl
theorem shp_lit (s : String) : shp (.str (Str.ofString s)) = true := shp_str (okS_lit s)
theorem Fit.shs {k n : Nat} {d : PyData} (h : Fit k n d) : Ev.shp (PyData.str d.shown) = true := shp_str (okS_shown d h.nic)
theorem eqv_str (x : Str) : PyData.eqv (.str x) (.str x) = true := by simp [PyData.eqv]
end Ev.D

set_option maxRecDepth 100000
/-! Ev, part DH: tools of the plain laws: whiles, least ones, places. -/
namespace Ev
open PySem
namespace D
section
variable (G : Tab)
def whC (p : Env × Rv) : Rs (Env × Bool) := match truR p.1 p.2 with
  | some b => .ok (p.1, b)
  | none => .bad
def whT (t : ME) (e : Env) : Rs (Env × Bool) := (ev G t e).bind whC
theorem whT_p (t : ME) (e : Env) : whT G t e = (ev G t e).bind whC := rfl
def whD (e : Env) : Option Bool → Rs (Env × Bool)
  | some b => .ok (e, b)
  | none => .bad
theorem whC_p (e : Env) (r : Rv) : whC (e, r) = whD e (truR e r) := rfl
theorem whD_s (e : Env) (b : Bool) : whD e (some b) = .ok (e, b) := rfl
theorem exs_whl (t : ME) (body : List MS) (env : Env) : exs1 G (.whl t body) env = whlGo (whT G t) (exs G body) turns env := by
  show whlGo _ _ _ _ = _
  congr 1
theorem wh_on {T : Env → Rs (Env × Bool)} {B : Env → Ou} {n : Nat} {env e e' : Env} (h : T env = .ok (e, true)) (h2 : B e = .nx e') : whlGo T B (n + 1) env = whlGo T B n e' := by
  show (match T env with | .ok (e, true) => _ | .ok (e, false) => _ | .ex c a => _ | .bad => _) = _
  rw [h]
  show (match B e with | .nx e' => _ | .ct e' => _ | .bk e' => _ | o => _) = _
  rw [h2]
theorem wh_off {T : Env → Rs (Env × Bool)} {B : Env → Ou} {n : Nat} {env e : Env} (h : T env = .ok (e, false)) : whlGo T B (n + 1) env = .nx e := by
  show (match T env with | .ok (e, true) => _ | .ok (e, false) => _ | .ex c a => _ | .bad => _) = _
  rw [h]
end
def I (r : List Int) : PyData := .tuple (r.map .int)
theorem line4 {n : Nat} (h : n ≤ 100000) : n ≤ sizeLine := Nat.le_trans h (by decide)
theorem lt4 {n : Nat} (h : n < 100000) : n < sizeLine := Nat.lt_of_lt_of_le h (by decide)
theorem fin_lit {n : Int} (hn : 0 < n) (hn2 : n < 2 ^ 64) : n.natAbs.log2 < 9000 := by
  by_cases z : n.natAbs = 0
  · rw [z]; decide
  · refine (Nat.log2_lt z).mpr (Nat.lt_of_lt_of_le (m := 2 ^ 64) (by omega) (Nat.pow_le_pow_right (by decide) (by decide)))
theorem mulL {i j : Int} (h0 : -1000000000000000 ≤ i) (h1 : i ≤ 1000000000000000) : opBin .mul (.int i) (.int j) = some (.v (.int (i * j))) := mul_s (sml_of (by omega) (by omega))
theorem mulR {i j : Int} (h0 : -1000000000000000 ≤ j) (h1 : j ≤ 1000000000000000) : opBin .mul (.int i) (.int j) = some (.v (.int (i * j))) := by
  rw [mul_ii, if_pos]
  rw [sml_of (show -1000000000000000000 ≤ j by omega) (by omega), Bool.or_true, Bool.true_or]
theorem mul_w {i j : Int} (hi : i.natAbs < 2 ^ 1000) (hj : j.natAbs < 2 ^ 1000) : opBin .mul (.int i) (.int j) = some (.v (.int (i * j))) := by
  have h := L2.wide_mul hi hj (by decide) (by decide) (by decide)
  rw [mul_ii, if_pos]
  rw [decide_eq_true (show i.natAbs.log2 + j.natAbs.log2 < 1000000 from h), Bool.or_true]
theorem fs_head {α : Type} (p : α → Bool) : ∀ l : List α, l.findSome? (fun x => if p x = true then some x else none) = (l.filter p).head?
  | [] => rfl
  | x :: l => by
    rw [List.findSome?_cons]
    by_cases h : p x = true
    · rw [if_pos h, List.filter_cons_of_pos h]
      rfl
    · rw [if_neg h, List.filter_cons_of_neg h]
      exact fs_head p l
theorem getD_end {α : Type} (xs : List α) (x d : α) (n : Nat) (h : xs.length = n) : (xs ++ [x]).getD n d = x := by
  subst h
  simp [List.getD_eq_getElem?_getD]
theorem atI_neg1 {α : Type} (xs : List α) (h : 1 ≤ xs.length) : L2.atI xs (-1) = xs[xs.length - 1]? := by
  unfold L2.atI L2.ixN
  rw [if_neg (by omega), if_pos (by omega)]
  have e : ((xs.length : Int) + -1).toNat = xs.length - 1 := by omega
  rw [Int.add_comm] at e
  simp [e]
theorem of3 (a b c : Int) {i : Nat} (h : (i : Int) < 3) : ∃ v, L2.atI [PyData.int a, .int b, .int c] (i : Nat) = some (.int v) ∧ (v = a ∨ v = b ∨ v = c) := by
  match i, h with
  | 0, _ => exact ⟨a, rfl, .inl rfl⟩
  | 1, _ => exact ⟨b, rfl, .inr (.inl rfl)⟩
  | 2, _ => exact ⟨c, rfl, .inr (.inr rfl)⟩
  | i + 3, h => exact absurd h (by omega)
theorem of2 (a b : Int) {i : Nat} (h : (i : Int) < 2) : ∃ v, L2.atI [PyData.int a, .int b] (i : Nat) = some (.int v) ∧ (v = a ∨ v = b) := by
  match i, h with
  | 0, _ => exact ⟨a, rfl, .inl rfl⟩
  | 1, _ => exact ⟨b, rfl, .inr rfl⟩
  | i + 2, h => exact absurd h (by omega)
def lxLe : List Int → List Int → Prop
  | [], _ => True
  | _ :: _, [] => False
  | a :: as, b :: bs => a < b ∨ (a = b ∧ lxLe as bs)
theorem lx_refl : ∀ a : List Int, lxLe a a
  | [] => trivial
  | a :: as => .inr ⟨rfl, lx_refl as⟩
theorem lx_trans : ∀ {a b c : List Int}, lxLe a b → lxLe b c → lxLe a c
  | [], _, _, _, _ => trivial
  | _ :: _, [], _, h, _ => h.elim
  | _ :: _, _ :: _, [], _, h => h.elim
  | a :: as, b :: bs, c :: cs, h1, h2 => by
    rcases h1 with h1 | ⟨rfl, h1⟩ <;> rcases h2 with h2 | ⟨rfl, h2⟩
    · exact .inl (by omega)
    · exact .inl h1
    · exact .inl h2
    · exact .inr ⟨rfl, lx_trans h1 h2⟩
theorem lx_anti : ∀ {a b : List Int}, lxLe a b → lxLe b a → a = b
  | [], [], _, _ => rfl
  | [], _ :: _, _, h => h.elim
  | _ :: _, [], h, _ => h.elim
  | a :: as, b :: bs, h1, h2 => by
    rcases h1 with h1 | ⟨rfl, h1⟩ <;> rcases h2 with h2 | ⟨h3, h2⟩
    · omega
    · omega
    · omega
    · rw [lx_anti h1 h2]
theorem lx_lt : ∀ {a b : List Int}, W.listLt a b = true → lxLe a b
  | [], _, _ => trivial
  | _ :: _, [], h => by simp [W.listLt] at h
  | a :: as, b :: bs, h => by
    unfold W.listLt at h
    by_cases e : a = b
    · rw [if_pos e] at h
      exact .inr ⟨e, lx_lt h⟩
    · rw [if_neg e] at h
      exact .inl (of_decide_eq_true h)
theorem lx_nlt : ∀ {a b : List Int}, W.listLt a b = false → lxLe b a
  | _, [], _ => trivial
  | [], _ :: _, h => by simp [W.listLt] at h
  | a :: as, b :: bs, h => by
    unfold W.listLt at h
    by_cases e : a = b
    · rw [if_pos e] at h
      exact .inr ⟨e.symm, lx_nlt h⟩
    · rw [if_neg e] at h
      have := of_decide_eq_false h
      exact .inl (by omega)
abbrev Rw := Int × List Int
def ent (r : Rw) : PyData := .tuple [.int r.1, I r.2]
def toT (r : Rw) : Int × W.Tup Int := (r.1, ⟨r.2⟩)
def ltR (p q : Rw) : Bool := if p.1 = q.1 then W.listLt p.2 q.2 else decide (p.1 < q.1)
def best (x : Rw) (xs : List Rw) : Rw := xs.foldl (fun a y => if ltR y a = true then y else a) x
def leR (p q : Rw) : Prop := lxLe (p.1 :: p.2) (q.1 :: q.2)
theorem leR_of (p q : Rw) (h : ltR p q = true) : leR p q := by
  unfold ltR at h
  by_cases e : p.1 = q.1
  · rw [if_pos e] at h; exact .inr ⟨e, lx_lt h⟩
  · rw [if_neg e] at h; exact .inl (of_decide_eq_true h)
theorem leR_not (p q : Rw) (h : ¬ ltR p q = true) : leR q p := by
  unfold ltR at h
  by_cases e : p.1 = q.1
  · rw [if_pos e] at h; exact .inr ⟨e.symm, lx_nlt (by simpa using h)⟩
  · rw [if_neg e, decide_eq_true_eq] at h; exact .inl (by omega)
theorem best_spec (x : Rw) (xs : List Rw) : best x xs ∈ x :: xs ∧ ∀ y ∈ x :: xs, leR (best x xs) y := by
  induction xs generalizing x with
  | nil => exact ⟨by simp [best], fun y hy => by simp at hy; subst hy; exact lx_refl _⟩
  | cons z zs ih =>
    have e : best x (z :: zs) = best (if ltR z x = true then z else x) zs := rfl
    rw [e]
    by_cases c : ltR z x = true
    · rw [if_pos c]
      obtain ⟨h1, h2⟩ := ih z
      refine ⟨List.mem_cons_of_mem _ h1, fun y hy => ?_⟩
      rcases List.mem_cons.mp hy with rfl | hy
      · exact lx_trans (h2 z (by simp)) (leR_of _ _ c)
      · exact h2 y hy
    · rw [if_neg c]
      obtain ⟨h1, h2⟩ := ih x
      refine ⟨?_, fun y hy => ?_⟩
      · rcases List.mem_cons.mp h1 with h1 | h1
        · rw [h1]; simp
        · exact List.mem_cons_of_mem _ (List.mem_cons_of_mem _ h1)
      · rcases List.mem_cons.mp hy with rfl | hy
        · exact h2 _ (by simp)
        rcases List.mem_cons.mp hy with rfl | hy
        · exact lx_trans (h2 x (by simp)) (leR_not _ _ c)
        · exact h2 y (by simp [hy])
theorem toT_D (r : Rw) : W.Datum.toD (toT r) = ent r := rfl
theorem lt_ent (p q : Rw) : W.dataLt (ent p) (ent q) = ltR p q := by
  rw [← toT_D, ← toT_D, W.DatumOrd.lt_eq]
  rfl
theorem al_ent (p q : Rw) : W.alike (ent p) (ent q) = true := W.DatumOrd.alike (toT p) (toT q)
theorem minD_ent (x : Rw) (xs : List Rw) : W.minD (ent x) (xs.map ent) = ent (best x xs) := by
  induction xs generalizing x with
  | nil => rfl
  | cons y ys ih =>
    show W.minD (if W.dataLt (ent y) (ent x) = true then ent y else ent x) (ys.map ent) = ent (best (if ltR y x = true then y else x) ys)
    rw [lt_ent]
    by_cases c : ltR y x = true
    · rw [if_pos c, if_pos c]; exact ih y
    · rw [if_neg c, if_neg c]; exact ih x
theorem ints_dep : ∀ r : List Int, PyData.depthAll (r.map .int) = 0
  | [] => rfl
  | x :: r => by
    show max 0 (PyData.depthAll (r.map .int)) = 0
    rw [ints_dep r]; rfl
theorem ent_dep (r : Rw) : (ent r).depth ≤ 2 := by
  show max 0 (max (PyData.depthAll (r.2.map .int) + 1) 0) + 1 ≤ 2
  rw [ints_dep]
  decide
theorem hd_ints : ∀ r : List Int, PyData.hasDictAll (r.map .int) = false
  | [] => by simp [PyData.hasDictAll]
  | i :: r => by simp [PyData.hasDictAll, PyData.hasDict, hd_ints r]
theorem hd_map {α : Type} {f : α → PyData} (h : ∀ a, (f a).hasDict = false) : ∀ l : List α, PyData.hasDictAll (l.map f) = false
  | [] => by simp [PyData.hasDictAll]
  | a :: l => by simp [PyData.hasDictAll, h a, hd_map h l]
theorem hd_ent (p : Rw) : (ent p).hasDict = false := by simp [ent, PyData.hasDict, PyData.hasDictAll, I, hd_ints]
theorem minX_ents (x : Rw) (xs : List Rw) : minX ((x :: xs).map ent) = some (.v (ent (best x xs))) := by
  have h0 : minI ((x :: xs).map ent) = none := rfl
  unfold minX
  rw [h0]
  show (if _ then _ else _) = _
  rw [if_pos, minD_ent]
  rw [← List.map_cons]
  have h1 : (((x :: xs).map ent).all fun a => ((x :: xs).map ent).all fun b => W.alike a b) = true := by
    simp only [List.all_eq_true, List.mem_map]
    rintro _ ⟨p, _, rfl⟩ _ ⟨q, _, rfl⟩
    exact al_ent p q
  have h2 : (((x :: xs).map ent).all fun a => match a with | .none => false | _ => true) = true := by
    simp only [List.all_eq_true, List.mem_map]
    rintro _ ⟨p, _, rfl⟩
    rfl
  have h3 : PyData.depthAll ((x :: xs).map ent) ≤ 60 := D.depths_le fun y hy => by
    obtain ⟨p, _, rfl⟩ := List.mem_map.mp hy
    exact Nat.le_trans (ent_dep p) (by decide)
  rw [h1, decide_eq_true h3, Bool.true_and, Bool.and_true]
  exact (Bool.and_eq_true _ _).mpr ⟨h2, by rw [hd_map hd_ent]; rfl⟩
theorem lx_head1 {a b : Int} {as bs : List Int} (h : lxLe (a :: as) (b :: bs)) : a ≤ b := by
  rcases h with h | ⟨rfl, _⟩ <;> omega
theorem lx_tail2 {a b : Int} {as bs : List Int} (h : lxLe (a :: as) (b :: bs)) (e : b ≤ a) : lxLe as bs := by
  rcases h with h | ⟨_, h⟩
  · omega
  · exact h
theorem lx_tail1 {a : Int} {as bs : List Int} (h : lxLe (a :: as) (a :: bs)) : lxLe as bs := lx_tail2 h (Int.le_refl _)
/-! ### pairs -/
abbrev Pr := Int × Int
def pr (r : Pr) : PyData := .tuple [.int r.1, .int r.2]
def ltP (p q : Pr) : Bool := if p.1 = q.1 then decide (p.2 < q.2) else decide (p.1 < q.1)
def leP (p q : Pr) : Prop := p.1 < q.1 ∨ (p.1 = q.1 ∧ p.2 ≤ q.2)
def bestP (x : Pr) (xs : List Pr) : Pr := xs.foldl (fun a y => if ltP y a = true then y else a) x
theorem ltP_yes {p q : Pr} (h : ltP p q = true) : leP p q := by
  unfold ltP at h
  by_cases e : p.1 = q.1
  · rw [if_pos e] at h; exact .inr ⟨e, by have := of_decide_eq_true h; omega⟩
  · rw [if_neg e] at h; exact .inl (of_decide_eq_true h)
theorem ltP_no {p q : Pr} (h : ¬ ltP p q = true) : leP q p := by
  unfold ltP at h
  by_cases e : p.1 = q.1
  · rw [if_pos e, decide_eq_true_eq] at h; exact .inr ⟨e.symm, by omega⟩
  · rw [if_neg e, decide_eq_true_eq] at h; exact .inl (by omega)
theorem leP_trans {p q r : Pr} (h1 : leP p q) (h2 : leP q r) : leP p r := by
  rcases h1 with h1 | ⟨h1, h1'⟩ <;> rcases h2 with h2 | ⟨h2, h2'⟩
  · exact .inl (by omega)
  · exact .inl (by omega)
  · exact .inl (by omega)
  · exact .inr ⟨by omega, by omega⟩
theorem bestP_spec (x : Pr) (xs : List Pr) : bestP x xs ∈ x :: xs ∧ ∀ y ∈ x :: xs, leP (bestP x xs) y := by
  induction xs generalizing x with
  | nil => exact ⟨by simp [bestP], fun y hy => by simp at hy; subst hy; exact .inr ⟨rfl, Int.le_refl _⟩⟩
  | cons z zs ih =>
    have e : bestP x (z :: zs) = bestP (if ltP z x = true then z else x) zs := rfl
    rw [e]
    by_cases c : ltP z x = true
    · rw [if_pos c]
      obtain ⟨h1, h2⟩ := ih z
      refine ⟨List.mem_cons_of_mem _ h1, fun y hy => ?_⟩
      rcases List.mem_cons.mp hy with rfl | hy
      · exact leP_trans (h2 z (by simp)) (ltP_yes c)
      · exact h2 y hy
    · rw [if_neg c]
      obtain ⟨h1, h2⟩ := ih x
      refine ⟨?_, fun y hy => ?_⟩
      · rcases List.mem_cons.mp h1 with h1 | h1
        · rw [h1]; simp
        · exact List.mem_cons_of_mem _ (List.mem_cons_of_mem _ h1)
      · rcases List.mem_cons.mp hy with rfl | hy
        · exact h2 _ (by simp)
        rcases List.mem_cons.mp hy with rfl | hy
        · exact leP_trans (h2 x (by simp)) (ltP_no c)
        · exact h2 y (by simp [hy])
theorem pr_D (r : Pr) : W.Datum.toD r = pr r := rfl
theorem lt_pr (p q : Pr) : W.dataLt (pr p) (pr q) = ltP p q := by
  rw [← pr_D, ← pr_D, W.DatumOrd.lt_eq]
  rfl
theorem minD_pr (x : Pr) (xs : List Pr) : W.minD (pr x) (xs.map pr) = pr (bestP x xs) := by
  induction xs generalizing x with
  | nil => rfl
  | cons y ys ih =>
    show W.minD (if W.dataLt (pr y) (pr x) = true then pr y else pr x) (ys.map pr) = pr (bestP (if ltP y x = true then y else x) ys)
    rw [lt_pr]
    by_cases c : ltP y x = true
    · rw [if_pos c, if_pos c]; exact ih y
    · rw [if_neg c, if_neg c]; exact ih x
theorem hd_pr (p : Pr) : (pr p).hasDict = false := by simp [pr, PyData.hasDict, PyData.hasDictAll]
theorem minX_prs (x : Pr) (xs : List Pr) : minX ((x :: xs).map pr) = some (.v (pr (bestP x xs))) := by
  have h0 : minI ((x :: xs).map pr) = none := rfl
  unfold minX
  rw [h0]
  show (if _ then _ else _) = _
  rw [if_pos, minD_pr]
  rw [← List.map_cons]
  have h1 : (((x :: xs).map pr).all fun a => ((x :: xs).map pr).all fun b => W.alike a b) = true := by
    simp only [List.all_eq_true, List.mem_map]
    rintro _ ⟨p, _, rfl⟩ _ ⟨q, _, rfl⟩
    exact W.DatumOrd.alike p q
  have h2 : (((x :: xs).map pr).all fun a => match a with | .none => false | _ => true) = true := by
    simp only [List.all_eq_true, List.mem_map]
    rintro _ ⟨p, _, rfl⟩
    rfl
  have h3 : PyData.depthAll ((x :: xs).map pr) ≤ 60 := depths_le fun y hy => by
    obtain ⟨p, _, rfl⟩ := List.mem_map.mp hy
    show max 0 (max 0 0) + 1 ≤ 60
    decide
  rw [h1, decide_eq_true h3, Bool.true_and, Bool.and_true]
  exact (Bool.and_eq_true _ _).mpr ⟨h2, by rw [hd_map hd_pr]; rfl⟩
/-! ### the least of ints, places -/
theorem least_spec (r : List Int) : ∀ i : Int, (least i r = i ∨ least i r ∈ r) ∧ least i r ≤ i ∧ ∀ j ∈ r, least i r ≤ j := by
  induction r with
  | nil => intro i; exact ⟨.inl rfl, Int.le_refl _, fun j h => by cases h⟩
  | cons k r ih =>
    intro i
    have e : least i (k :: r) = least (if k < i then k else i) r := rfl
    rw [e]
    obtain ⟨h1, h2, h3⟩ := ih (if k < i then k else i)
    by_cases c : k < i
    · rw [if_pos c] at h1 h2 h3 ⊢
      refine ⟨.inr ?_, by omega, fun j hj => ?_⟩
      · rcases h1 with h1 | h1
        · rw [h1]; simp
        · simp [h1]
      · rcases List.mem_cons.mp hj with rfl | hj
        · exact h2
        · exact h3 j hj
    · rw [if_neg c] at h1 h2 h3 ⊢
      refine ⟨?_, h2, fun j hj => ?_⟩
      · rcases h1 with h1 | h1
        · exact .inl h1
        · exact .inr (by simp [h1])
      · rcases List.mem_cons.mp hj with rfl | hj
        · omega
        · exact h3 j hj
/-- the least of a list that is not empty -/
theorem min_ints {l : List Int} (h : l ≠ []) : ∃ m, minX (l.map .int) = some (.v (.int m)) ∧ m ∈ l ∧ ∀ x ∈ l, m ≤ x := by
  cases l with
  | nil => exact absurd rfl h
  | cons i r =>
    obtain ⟨h1, h2, h3⟩ := least_spec r i
    refine ⟨least i r, minX_ints (by rw [asInts_int]), ?_, fun x hx => ?_⟩
    · rcases h1 with h1 | h1
      · rw [h1]; simp
      · simp [h1]
    · rcases List.mem_cons.mp hx with rfl | hx
      · exact h2
      · exact h3 x hx
theorem ints_lay (l : List Int) : PyData.canLayAll0 (l.map .int) = true := by
  induction l with
  | nil => simp only [List.map_nil, PyData.canLayAll0]
  | cons x l ih => simp only [List.map_cons, PyData.canLayAll0, PyData.canLay0, ih, Bool.and_self]
theorem ints_dep' (l : List Int) : PyData.depthAll (l.map .int) = 0 := ints_dep l
theorem shp_ints (l : List Int) : shp (.list (l.map .int)) = true := by
  show ((PyData.list (l.map .int)).canLay0 && decide ((PyData.list (l.map .int)).depth ≤ 64)) = true
  have e : (PyData.list (l.map PyData.int)).depth = 1 := by
    show PyData.depthAll (l.map .int) + 1 = 1
    rw [ints_dep']
  rw [e]
  simp only [PyData.canLay0, ints_lay]
  rfl
theorem plc_ints {l : List Int} {v : Int} {j : Nat} (hj : j < l.length) (h1 : l[j] = v) (h2 : ∀ (m : Nat) (hm : m < j), l[m]'(by omega) ≠ v) : plc (l.map .int) (.int v) = some j := by
  unfold plc
  have s1 : shp (.int v) = true := rfl
  rw [shp_ints, s1]
  show (if (true && true) = true then _ else _) = _
  rw [if_pos (show (true && true) = true from rfl), List.findIdx?_eq_some_iff_getElem]
  refine ⟨by simpa using hj, ?_, fun m hm => ?_⟩
  · simp [PyData.eqv, h1]
  · have := h2 m hm
    simpa [PyData.eqv] using this
end D
end Ev

set_option maxRecDepth 100000
/-! Ev, part DI: the tools anew: side conditions that are found, loops told by what they meet, draws. -/
namespace Ev
open PySem
namespace D
theorem szl {n : Nat} (h : n ≤ 16000000) : n ≤ sizeLine := Nat.le_trans h (by decide)
theorem szt {n : Nat} (h : n < 16000000) : n < sizeLine := Nat.lt_of_lt_of_le h (by decide)
theorem cap {α : Type} {n : Nat} {a b : α} {i : Decidable (n ≤ sizeLine)} (h : n ≤ 16000000) : @ite α (n ≤ sizeLine) i a b = a := if_pos (szl h)
theorem capt {α : Type} {n : Nat} {a b : α} {i : Decidable (n < sizeLine)} (h : n < 16000000) : @ite α (n < sizeLine) i a b = a := if_pos (szt h)
theorem lcF_cap (own : List Nat) (env1 env2 : Env) (ls : List Nat) (acc : List PyData) (l : acc.length ≤ 16000000) : lcF own env1 ls (.ok (env2, acc)) = match unlock (restE env1 env2 own) ls with
            | some env3 => .ok (env3, .n acc)
            | none => .bad := if_pos (szl l)
theorem it1 (env : Env) (b : Int) (h : -1000000000000000 ≤ b ∧ b ≤ 1000000000000000) : items1 env [.v (.int b)] = some (env, (List.range b.toNat).map fun k : Nat => .int k, []) := by
  show (if _ then _ else _) = _
  rw [if_pos h, upto0]
theorem it2 (env : Env) (a b : Int) (h : -1000000000000000 ≤ a ∧ a ≤ 1000000000000000 ∧ b ≤ 1000000000000000 ∧ -1000000000000000 ≤ b) : items2 env [.v (.int a), .v (.int b)] = some (env, (List.range (b - a).toNat).map fun k : Nat => .int (a + k), []) := by
  show (if _ then _ else _) = _
  rw [if_pos h, upto_eq]
theorem mul_d {i j : Int} (h : (-1000000000000000 ≤ i ∧ i ≤ 1000000000000000) ∨ (-1000000000000000 ≤ j ∧ j ≤ 1000000000000000)) : opBin .mul (.int i) (.int j) = some (.v (.int (i * j))) := by
  rcases h with ⟨a, b⟩ | ⟨a, b⟩
  · exact mulL a b
  · exact mulR a b
theorem fdiv_d {i j : Int} (h : 0 < j ∧ j ≤ 1000000000000000) : opBin .fdiv (.int i) (.int j) = some (.v (.int (i / j))) := by
  rw [fdiv_ii, if_pos ⟨by omega, fin_lit h.1 (by have := h.2; omega)⟩, Int.fdiv_eq_ediv_of_nonneg _ (by omega)]
theorem mod_d {i j : Int} (h : 0 < j) : opBin .mod (.int i) (.int j) = some (.v (.int (i % j))) := by
  rw [mod_ii, if_pos (by omega), Int.fmod_eq_emod_of_nonneg _ (by omega)]
theorem pow_d {i j : Int} (h : (0 ≤ j ∧ j ≤ 1000) ∧ -1000000000000000 ≤ i ∧ i ≤ 1000000000000000) : opBin .pow (.int i) (.int j) = some (.v (.int (i ^ j.toNat))) := by
  rw [pow_ii, if_pos ⟨h.1.1, h.1.2, sml_of (by omega) (by omega)⟩]
theorem tn1 (n : Nat) : ((n : Int) + 1).toNat = n + 1 := by omega
theorem tn2 (n : Nat) : (1 + (n : Int)).toNat = n + 1 := by omega
theorem tn_2 (n : Nat) : ((n : Int) + 2).toNat = n + 2 := by omega
theorem tn_3 (n : Nat) : ((n : Int) + 3).toNat = n + 3 := by omega
theorem tm_1 (n : Nat) : ((n : Int) - 1).toNat = n - 1 := by omega
theorem tn4 (n k : Nat) : ((n : Int) + (k : Int)).toNat = n + k := by omega
theorem tn5 (n k : Nat) : ((n : Int) - (k : Int)).toNat = n - k := by omega
theorem atI_last {α : Type} (xs : List α) (x : α) : L2.atI (xs ++ [x]) (-1) = some x := by
  rw [atI_neg1 _ (by simp)]; simp
theorem snoc_ne {α : Type} (xs : List α) (x : α) : (xs ++ [x]).isEmpty = false := by cases xs <;> rfl
theorem atI_map {α β : Type} (f : α → β) (xs : List α) (k : Nat) : L2.atI (xs.map f) (k : Int) = xs[k]?.map f := by rw [atI_n, List.getElem?_map]
/-- the last one of those that are chosen -/
theorem fil_last {p : Nat → Bool} : ∀ n, ((List.range n).filter p = [] ∧ ∀ h, h < n → p h = false) ∨ ∃ L l, (List.range n).filter p = L ++ [l] ∧ l < n ∧ p l = true ∧ ∀ h, l < h → h < n → p h = false
  | 0 => .inl ⟨rfl, fun h q => absurd q (Nat.not_lt_zero _)⟩
  | n + 1 => by
    rw [List.range_succ, List.filter_append]
    cases hp : p n with
    | true => exact .inr ⟨_, n, by rw [List.filter_cons_of_pos (by simpa using hp), List.filter_nil], by omega, hp, fun h h1 h2 => by omega⟩
    | false =>
      rw [List.filter_cons_of_neg (by simp [hp]), List.filter_nil, List.append_nil]
      rcases fil_last (p := p) n with ⟨h1, h2⟩ | ⟨L, l, h1, h2, h3, h4⟩
      · exact .inl ⟨h1, fun h q => by
          rcases Nat.lt_succ_iff_lt_or_eq.mp q with q | rfl
          · exact h2 h q
          · exact hp⟩
      · exact .inr ⟨L, l, h1, by omega, h3, fun h q1 q2 => by
          rcases Nat.lt_succ_iff_lt_or_eq.mp q2 with q | rfl
          · exact h4 h q1 q
          · exact hp⟩
/-- the least of a row of numbers, its first place -/
theorem min_idx (f : Nat → Nat) {n : Nat} (h : 0 < n) : ∃ j, j < n ∧ minX ((List.range n).map fun k => .int (f k)) = some (.v (.int (f j))) ∧ plc ((List.range n).map fun k => .int (f k)) (.int (f j)) = some j ∧ (∀ m, m < n → f j ≤ f m) ∧ ∀ m, m < j → f m ≠ f j := by
  obtain ⟨v, mv, vm, vl⟩ := min_ints (l := (List.range n).map fun k => (f k : Int)) (by intro e; have := congrArg List.length e; rw [List.length_map, List.length_range] at this; simp at this; omega)
  obtain ⟨k0, hk0, rfl⟩ := List.mem_map.mp vm
  have hk0 := List.mem_range.mp hk0
  have key : ∀ m, m ≤ n → (∃ i, i < m ∧ f i = f k0) → ∃ i, i < m ∧ f i = f k0 ∧ ∀ q, q < i → f q ≠ f k0 := by
    intro m
    induction m with
    | zero => rintro _ ⟨i, hi, _⟩; omega
    | succ m ih =>
      rintro hm ⟨i, hi, ei⟩
      by_cases q : ∃ i, i < m ∧ f i = f k0
      · obtain ⟨i, a, b, c⟩ := ih (by omega) q
        exact ⟨i, by omega, b, c⟩
      · refine ⟨i, hi, ei, fun r hr er => q ⟨r, by omega, er⟩⟩
  obtain ⟨j, hj, ej, fj⟩ := key n (Nat.le_refl _) ⟨k0, hk0, rfl⟩
  have vl' : ∀ m, m < n → f k0 ≤ f m := fun m hm => by
    have := vl (f m : Int) (List.mem_map.mpr ⟨m, List.mem_range.mpr hm, rfl⟩)
    omega
  refine ⟨j, hj, ?_, ?_, fun m hm => by rw [ej]; exact vl' m hm, fun m hm => by rw [ej]; exact fj m hm⟩
  · rw [ej, ← mv, List.map_map]; rfl
  · rw [ej]
    have := plc_ints (l := (List.range n).map fun k => (f k : Int)) (v := (f k0 : Int)) (j := j) (by simpa using hj) (by simp [ej]) fun m hm q => by
      simp at q
      exact fj m hm (by omega)
    rw [List.map_map] at this
    exact this
section
variable {α β : Type}
/-! ### loops told by what they meet -/
def Step (J : Env → Prop) (R : Ou → Prop) : Ou → Prop
  | .nx e => J e
  | .ct e => J e
  | o => R o
theorem st_nx (J : Env → Prop) (R : Ou → Prop) (e : Env) : Step J R (.nx e) = J e := rfl
theorem st_ct (J : Env → Prop) (R : Ou → Prop) (e : Env) : Step J R (.ct e) = J e := rfl
theorem st_rt (J : Env → Prop) (R : Ou → Prop) (e : Env) (r : Rv) : Step J R (.rt e r) = R (.rt e r) := rfl
theorem st_bk (J : Env → Prop) (R : Ou → Prop) (e : Env) : Step J R (.bk e) = R (.bk e) := rfl
theorem st_ex (J : Env → Prop) (R : Ou → Prop) (c : Nat) (a : PyData) : Step J R (.ex c a) = R (.ex c a) := rfl
/-- a loop whose turns go on (I), or end it (R) -/
theorem loopX {turn : PyData → Env → Ou} {f : α → PyData} {xs : List α} {env : Env} {o : Ou} (hg : forGo turn (xs.map f) env = o) (I : Nat → Env → Prop) (R : Ou → Prop) (h0 : I 0 env)
    (hs : ∀ i x e, xs[i]? = some x → I i e → ∀ (J : Env → Prop) (R' : Ou → Prop), (∀ e', I (i + 1) e' → J e') → (∀ o, R o → R' o) → Step J R' (turn (f x) e)) : (∃ e', o = .nx e' ∧ I xs.length e') ∨ R o := by
  subst hg
  have key : ∀ (ys : List α) (k : Nat) (e : Env), I k e → (∀ i x e, ys[i]? = some x → I (k + i) e → Step (I (k + i + 1)) R (turn (f x) e)) → (∃ e', forGo turn (ys.map f) e = .nx e' ∧ I (k + ys.length) e') ∨ R (forGo turn (ys.map f) e) := by
    intro ys
    induction ys with
    | nil => intro k e i _; exact .inl ⟨e, rfl, i⟩
    | cons y ys ih =>
      intro k e ik st
      have h2 := st 0 y e rfl ik
      rw [List.map_cons, forGo_cons]
      have rest : ∀ e', I (k + 1) e' → (∃ e2, forGo turn (ys.map f) e' = .nx e2 ∧ I (k + (y :: ys).length) e2) ∨ R (forGo turn (ys.map f) e') := fun e' i' => by
        have := ih (k + 1) e' i' fun i x e hx hi => by
          have := st (i + 1) x e (by simpa using hx) (by rw [show k + (i + 1) = k + 1 + i by omega]; exact hi)
          rw [show k + (i + 1) + 1 = k + 1 + i + 1 by omega] at this
          exact this
        rw [List.length_cons, show k + (ys.length + 1) = k + 1 + ys.length by omega]
        exact this
      cases ho : turn (f y) e with
      | nx e' => rw [ho] at h2; rw [forS_nx]; exact rest e' h2
      | ct e' => rw [ho] at h2; rw [forS_ct]; exact rest e' h2
      | rt _ _ => rw [ho] at h2; exact .inr h2
      | bk _ => rw [ho] at h2; exact .inr h2
      | ex _ _ => rw [ho] at h2; exact .inr h2
      | bad => rw [ho] at h2; exact .inr h2
  have := key xs 0 env h0 fun i x e hx hi => by rw [Nat.zero_add] at hi ⊢; exact hs i x e hx hi _ _ (fun _ h => h) fun _ h => h
  rw [Nat.zero_add] at this
  exact this
theorem loop {turn : PyData → Env → Ou} {f : α → PyData} {xs : List α} {env : Env} {o : Ou} (hg : forGo turn (xs.map f) env = o) (I : Nat → Env → Prop) (h0 : I 0 env)
    (hs : ∀ i x e, xs[i]? = some x → I i e → ∀ (J : Env → Prop) (R : Ou → Prop), (∀ e', I (i + 1) e' → J e') → Step J R (turn (f x) e)) : ∃ e', o = .nx e' ∧ I xs.length e' := by
  rcases loopX hg I (fun _ => False) h0 fun i x e hx hi J R hJ _ => hs i x e hx hi J R hJ with h | h
  · exact h
  · exact h.elim
theorem rng_get {n i k : Nat} (h : (List.range n)[i]? = some k) : k = i ∧ i < n := by
  obtain ⟨h1, h2⟩ := List.getElem?_eq_some_iff.mp h
  rw [List.length_range] at h1
  rw [List.getElem_range] at h2
  exact ⟨h2.symm, h1⟩
theorem loopXR {turn : PyData → Env → Ou} {f : Nat → PyData} {n : Nat} {env : Env} {o : Ou} (hg : forGo turn ((List.range n).map f) env = o) (I : Nat → Env → Prop) (R : Ou → Prop) (h0 : I 0 env)
    (hs : ∀ k e, k < n → I k e → ∀ (J : Env → Prop) (R' : Ou → Prop), (∀ e', I (k + 1) e' → J e') → (∀ o, R o → R' o) → Step J R' (turn (f k) e)) : (∃ e', o = .nx e' ∧ I n e') ∨ R o := by
  have := loopX hg I R h0 fun i x e hx hi => by
    obtain ⟨rfl, l⟩ := rng_get hx
    exact hs _ e l hi
  rwa [List.length_range] at this
theorem loopR {turn : PyData → Env → Ou} {f : Nat → PyData} {n : Nat} {env : Env} {o : Ou} (hg : forGo turn ((List.range n).map f) env = o) (I : Nat → Env → Prop) (h0 : I 0 env)
    (hs : ∀ k e, k < n → I k e → ∀ (J : Env → Prop) (R : Ou → Prop), (∀ e', I (k + 1) e' → J e') → Step J R (turn (f k) e)) : ∃ e', o = .nx e' ∧ I n e' := by
  have := loop hg I h0 fun i x e hx hi => by
    obtain ⟨rfl, l⟩ := rng_get hx
    exact hs _ e l hi
  rwa [List.length_range] at this
/-- a search: the first that is found ends the loop -/
theorem loopF {turn : PyData → Env → Ou} {f : α → PyData} {xs : List α} {env : Env} {o : Ou} (hg : forGo turn (xs.map f) env = o) (p : α → Bool) (I : Env → Prop) (R : α → Ou → Prop) (h0 : I env)
    (hs : ∀ x ∈ xs, ∀ e, I e → ∀ (J : Env → Prop) (R' : Ou → Prop), (∀ e', p x = false → I e' → J e') → (∀ o, p x = true → R x o → R' o) → Step J R' (turn (f x) e)) :
    (xs.find? p = none ∧ ∃ e', o = .nx e' ∧ I e') ∨ ∃ x ∈ xs, xs.find? p = some x ∧ R x o := by
  subst hg
  induction xs generalizing env with
  | nil => exact .inl ⟨rfl, env, rfl, h0⟩
  | cons x xs ih =>
    have st := hs x (by simp) env h0 (fun e' => p x = false ∧ I e') (fun o => p x = true ∧ R x o) (fun e' a b => ⟨a, b⟩) fun o a b => ⟨a, b⟩
    rw [List.map_cons, forGo_cons, List.find?_cons]
    have rest : ∀ e', p x = false ∧ I e' → (((match p x with | true => some x | false => xs.find? p) = none ∧ ∃ e2, forGo turn (xs.map f) e' = .nx e2 ∧ I e2) ∨ ∃ y ∈ x :: xs, (match p x with | true => some x | false => xs.find? p) = some y ∧ R y (forGo turn (xs.map f) e')) := by
      rintro e' ⟨hp, i⟩
      rw [hp]
      rcases ih i fun y hy => hs y (by simp [hy]) with h | ⟨y, hy, h⟩
      · exact .inl h
      · exact .inr ⟨y, by simp [hy], h⟩
    have fin : ∀ o, p x = true ∧ R x o → (((match p x with | true => some x | false => xs.find? p) = none ∧ ∃ e2, o = .nx e2 ∧ I e2) ∨ ∃ y ∈ x :: xs, (match p x with | true => some x | false => xs.find? p) = some y ∧ R y o) := by
      rintro o ⟨hp, i⟩
      rw [hp]
      exact .inr ⟨x, by simp, rfl, i⟩
    cases ho : turn (f x) env with
    | nx e' => rw [ho] at st; rw [forS_nx]; exact rest e' st
    | ct e' => rw [ho] at st; rw [forS_ct]; exact rest e' st
    | rt _ _ => rw [ho] at st; exact fin _ st
    | bk _ => rw [ho] at st; exact fin _ st
    | ex _ _ => rw [ho] at st; exact fin _ st
    | bad => rw [ho] at st; exact fin _ st
/-! ### comprehensions -/
theorem lcm {turn : PyData → Env → Rs (Env × Option PyData)} {f : α → PyData} {xs : List α} {env : Env} {acc : List PyData} {o : Rs (Env × List PyData)} (hg : lcGo turn (xs.map f) env acc = o) (g : α → PyData)
    (h : ∀ x ∈ xs, turn (f x) env = .ok (env, some (g x))) : o = .ok (env, acc ++ xs.map g) := by rw [← hg]; exact lcGo_map h
theorem lcs {turn : PyData → Env → Rs (Env × Option PyData)} {f : α → PyData} {xs : List α} {env : Env} {acc : List PyData} {o : Rs (Env × List PyData)} (hg : lcGo turn (xs.map f) env acc = o) (p : α → Bool) (g : α → PyData)
    (h : ∀ x ∈ xs, turn (f x) env = .ok (env, if p x = true then some (g x) else none)) : o = .ok (env, acc ++ (xs.filter p).map g) := by rw [← hg]; exact lcGo_sel h
def Lx (J : Env → PyData → Prop) : Rs (Env × Option PyData) → Prop
  | .ok (e, some y) => J e y
  | _ => False
theorem lx_p (J : Env → PyData → Prop) (e : Env) (y : PyData) : Lx J (.ok (e, some y)) = J e y := rfl
/-- a comprehension whose turns change what they see -/
theorem lci {turn : PyData → Env → Rs (Env × Option PyData)} {f : α → PyData} {xs : List α} {env : Env} {o : Rs (Env × List PyData)} (hg : lcGo turn (xs.map f) env [] = o) (I : Nat → Env → List PyData → Prop) (h0 : I 0 env [])
    (hs : ∀ i x e ys, xs[i]? = some x → I i e ys → ∀ J : Env → PyData → Prop, (∀ e' y, I (i + 1) e' (ys ++ [y]) → J e' y) → Lx J (turn (f x) e)) : ∃ e' ys, o = .ok (e', ys) ∧ I xs.length e' ys := by
  subst hg
  have key : ∀ (zs : List α) (k : Nat) (e : Env) (acc : List PyData), I k e acc → (∀ i x e ys, zs[i]? = some x → I (k + i) e ys → Lx (fun e' y => I (k + i + 1) e' (ys ++ [y])) (turn (f x) e)) → ∃ e' ys, lcGo turn (zs.map f) e acc = .ok (e', ys) ∧ I (k + zs.length) e' ys := by
    intro zs
    induction zs with
    | nil => intro k e acc i _; exact ⟨e, acc, rfl, i⟩
    | cons z zs ih =>
      intro k e acc ik st
      have h2 := st 0 z e acc rfl ik
      have go : lcGo turn ((z :: zs).map f) e acc = match turn (f z) e with | .ok (env', some y) => lcGo turn (zs.map f) env' (acc ++ [y]) | .ok (env', none) => lcGo turn (zs.map f) env' acc | _ => .bad := rfl
      cases ho : turn (f z) e with
      | ok p =>
        obtain ⟨e', q⟩ := p
        cases q with
        | none => rw [ho] at h2; exact h2.elim
        | some y =>
          rw [ho] at h2
          have h2 : I (k + 0 + 1) e' (acc ++ [y]) := h2
          obtain ⟨e2, ys, h3, h4⟩ := ih (k + 1) e' (acc ++ [y]) h2 fun i x e ys hx hi => by
            have := st (i + 1) x e ys (by simpa using hx) (by rw [show k + (i + 1) = k + 1 + i by omega]; exact hi)
            rw [show k + (i + 1) + 1 = k + 1 + i + 1 by omega] at this
            exact this
          refine ⟨e2, ys, ?_, by rw [List.length_cons, show k + (zs.length + 1) = k + 1 + zs.length by omega]; exact h4⟩
          rw [go, ho]
          exact h3
      | ex _ _ => rw [ho] at h2; exact h2.elim
      | bad => rw [ho] at h2; exact h2.elim
  have := key xs 0 env [] h0 fun i x e ys hx hi => by rw [Nat.zero_add] at hi ⊢; exact hs i x e ys hx hi _ fun _ _ h => h
  rw [Nat.zero_add] at this
  exact this
theorem lciR {turn : PyData → Env → Rs (Env × Option PyData)} {f : Nat → PyData} {n : Nat} {env : Env} {o : Rs (Env × List PyData)} (hg : lcGo turn ((List.range n).map f) env [] = o) (I : Nat → Env → List PyData → Prop) (h0 : I 0 env [])
    (hs : ∀ k e ys, k < n → I k e ys → ∀ J : Env → PyData → Prop, (∀ e' y, I (k + 1) e' (ys ++ [y]) → J e' y) → Lx J (turn (f k) e)) : ∃ e' ys, o = .ok (e', ys) ∧ I n e' ys := by
  have := lci hg I h0 fun i x e ys hx hi => by
    obtain ⟨rfl, l⟩ := rng_get hx
    exact hs _ e ys l hi
  rwa [List.length_range] at this
/-! ### whiles -/
def WStep (J : Env → Prop) (Q : Ou → Prop) : Ou → Prop
  | .nx e => J e
  | .ct e => J e
  | .bk e => Q (.nx e)
  | o => Q o
def WTest (J : Env → Prop) (Q : Ou → Prop) (B : Env → Ou) : Rs (Env × Bool) → Prop
  | .ok (e, true) => WStep J Q (B e)
  | .ok (e, false) => Q (.nx e)
  | .ex c a => Q (.ex c a)
  | .bad => False
theorem ws_nx (J : Env → Prop) (Q : Ou → Prop) (e : Env) : WStep J Q (.nx e) = J e := rfl
theorem ws_ct (J : Env → Prop) (Q : Ou → Prop) (e : Env) : WStep J Q (.ct e) = J e := rfl
theorem ws_bk (J : Env → Prop) (Q : Ou → Prop) (e : Env) : WStep J Q (.bk e) = Q (.nx e) := rfl
theorem ws_rt (J : Env → Prop) (Q : Ou → Prop) (e : Env) (r : Rv) : WStep J Q (.rt e r) = Q (.rt e r) := rfl
theorem ws_ex (J : Env → Prop) (Q : Ou → Prop) (c : Nat) (a : PyData) : WStep J Q (.ex c a) = Q (.ex c a) := rfl
theorem wt_t (J : Env → Prop) (Q : Ou → Prop) (B : Env → Ou) (e : Env) : WTest J Q B (.ok (e, true)) = WStep J Q (B e) := rfl
theorem wt_f (J : Env → Prop) (Q : Ou → Prop) (B : Env → Ou) (e : Env) : WTest J Q B (.ok (e, false)) = Q (.nx e) := rfl
theorem whX {T : Env → Rs (Env × Bool)} {B : Env → Ou} {n : Nat} {env : Env} {o : Ou} (hg : whlGo T B n env = o) (I : Nat → Env → Prop) (Q : Ou → Prop) {k : Nat} (hk : k < n) (h0 : I k env)
    (hs : ∀ m e, I m e → ∀ (J : Env → Prop) (Q' : Ou → Prop), (∀ m' e', m' < m → I m' e' → J e') → (∀ o, Q o → Q' o) → WTest J Q' B (T e)) : Q o := by
  subst hg
  have key : ∀ k n e, k < n → I k e → Q (whlGo T B n e) := by
    intro k
    induction k using Nat.strongRecOn with
    | _ k ih =>
      intro n e hk hi
      obtain ⟨n, rfl⟩ : ∃ n', n = n' + 1 := ⟨n - 1, by omega⟩
      have go : whlGo T B (n + 1) e = match T e with
        | .ok (e, true) => match B e with
          | .nx e' => whlGo T B n e'
          | .ct e' => whlGo T B n e'
          | .bk e' => .nx e'
          | o => o
        | .ok (e, false) => .nx e
        | .ex c a => .ex c a
        | .bad => .bad := rfl
      have st := hs k e hi (fun e' => ∃ m', m' < k ∧ I m' e') Q (fun m' e' h1 h2 => ⟨m', h1, h2⟩) fun _ h => h
      rw [go]
      cases ht : T e with
      | ok p =>
        obtain ⟨e1, b⟩ := p
        rw [ht] at st
        cases b with
        | false => exact st
        | true =>
          have st : WStep _ _ (B e1) := st
          dsimp only
          cases hb : B e1 with
          | nx e2 => rw [hb] at st; obtain ⟨m', h1, h2⟩ := st; exact ih m' h1 n e2 (by omega) h2
          | ct e2 => rw [hb] at st; obtain ⟨m', h1, h2⟩ := st; exact ih m' h1 n e2 (by omega) h2
          | bk e2 => rw [hb] at st; exact st
          | rt e2 r => rw [hb] at st; exact st
          | ex c a => rw [hb] at st; exact st
          | bad => rw [hb] at st; exact st
      | ex c a => rw [ht] at st; exact st
      | bad => rw [ht] at st; exact st.elim
  exact key k n env hk h0
/-! ### defs -/
theorem lent_all {st : List Nat} : ∀ {ws : List W} {k : Nat}, (∀ i, k ≤ i → i < k + ws.length → st.contains i = false) → lentOk st k ws = true
  | [], _, _ => rfl
  | w :: ws, k, h => by
    have ih : lentOk st (k + 1) ws = true := lent_all fun i h1 h2 => h i (by omega) (by rw [List.length_cons]; omega)
    have h0 := h k (Nat.le_refl _) (by rw [List.length_cons]; omega)
    cases w <;> first | exact ih | (show (!st.contains k && lentOk st (k + 1) ws) = true; rw [h0, ih]; rfl)
theorem run_all {G : Tab} {ar many : Nat} {body : List MS} {ws : List W} (h : ws.length = ar) (h2 : (List.range ar).all (fun i => !(stos body).contains i) = true) : runDef G ar many body ws = give ar (exs G body (ws.map some ++ List.replicate (many - ar) none)) := by
  refine run_ok G ar many body ws h (lent_all fun i _ h3 => ?_)
  have := List.all_eq_true.mp h2 i (List.mem_range.mpr (by omega))
  simpa using this
end
end D
end Ev

local macro_rules
  | `(tactic| simp_arith [$as,*] $[$l]?) => `(tactic| simp (config := {decide := true}) (disch := first | omega | ((try simp only [List.length_map, List.length_append, List.length_cons, List.length_nil, List.length_range, List.length_reverse, List.length_zipIdx, List.length_replicate, List.length_take, List.length_drop, List.length_zip]) <;> omega) | fail) only [$as,*, Ev.D.bind_ok, Ev.D.bind_ex, Ev.D.of_ok, Ev.D.of_ex, Ev.D.ofO_some, Ev.D.ev_c, Ev.D.ofN_some, Ev.D.ev_v, Ev.D.ev_fn, Ev.D.ev_tup, Ev.D.ev_lst, Ev.D.tupC_p, Ev.D.lstC_p, Ev.D.ev_bin, Ev.D.binB_p, Ev.D.binC_p, Ev.D.ev_neg, Ev.D.negC_p, Ev.D.ev_cmp, Ev.D.cmpB_p, Ev.D.cmpC_p, Ev.D.ev_chn, Ev.D.chnB_p, Ev.D.chnC_p, Ev.D.chnE_t, Ev.D.chnE_f, Ev.D.chnD_p, Ev.D.ev_ch3, Ev.D.ch3B_p, Ev.D.ch3C_p, Ev.D.ch3E_t, Ev.D.ch3E_f, Ev.D.ev_and, Ev.D.andB_p, Ev.D.andD_t, Ev.D.andD_f, Ev.D.ev_or, Ev.D.orB_p, Ev.D.orD_t, Ev.D.orD_f, Ev.D.ev_not, Ev.D.notC_p, Ev.D.ev_ife, Ev.D.ifeB_p, Ev.D.ifeD_t, Ev.D.ifeD_f, Ev.D.ev_sub, Ev.D.subB_p, Ev.D.subC_p, Ev.D.ev_slc, Ev.D.slcB_p, Ev.D.slcC_p, Ev.D.slcD_p, Ev.D.evo_none, Ev.D.evo_some, Ev.D.evoC_p, Ev.D.ev_rev, Ev.D.ev_b1, Ev.D.b1C_v, Ev.D.b1C_n, Ev.D.b1C_q, Ev.D.b1D_some, Ev.D.b1C_lr, Ev.D.b1C_nr, Ev.D.ev_b2, Ev.D.b2B_p, Ev.D.b2C_p, Ev.D.ev_isi, Ev.D.isiC_p, Ev.D.ev_lrg, Ev.D.lrgB_p, Ev.D.lrgC_p, Ev.D.ev_app, Ev.D.appC_p, Ev.D.idxD_s, Ev.D.ev_idx, Ev.D.idxC_p, Ev.D.ev_ext, Ev.D.extC_p, Ev.D.callC_p, Ev.D.callE_some, Ev.D.callD_ok, Ev.D.callD_ex, Ev.D.callvA_some, Ev.D.callvL_some, Ev.D.callvB_f, Ev.D.ev_callv, Ev.D.evs_nil, Ev.D.evs_cons, Ev.D.evsB_p, Ev.D.evsC_p, Ev.D.evt_nil, Ev.D.evt_cons, Ev.D.evtB_p, Ev.D.evtD_t, Ev.D.evtD_f, Ev.D.ev_lc, Ev.D.lcA_p, Ev.D.lcB_some, Ev.D.lcC_some, Ev.D.lcD_t, Ev.D.lcD_f, Ev.D.lcE_p, Ev.D.exs_nil, Ev.D.exs_cons, Ev.D.seq_nx, Ev.D.seq_rt, Ev.D.seq_bk, Ev.D.seq_ct, Ev.D.seq_ex, Ev.D.exs_asg, Ev.D.asgC_p, Ev.D.exs_par, Ev.D.parC_p, Ev.D.exs_sets, Ev.D.setsC_p, Ev.D.exs_mix, Ev.D.mixC_p, Ev.D.exs_unp, Ev.D.unpC_p, Ev.D.exs_aug, Ev.D.augB_v, Ev.D.augC_p, Ev.D.augsE_p, Ev.D.augsD_some, Ev.D.augsC_l, Ev.D.augsB_p, Ev.D.exs_augs, Ev.D.exs_exp, Ev.D.expC_p, Ev.D.exs_ite, Ev.D.iteC_p, Ev.D.iteD_t, Ev.D.iteD_f, Ev.D.exs_ret, Ev.D.retC_p, Ev.D.exs_retN, Ev.D.forB_some, Ev.D.forA_some, Ev.D.forC_p, Ev.D.exs_for, Ev.D.exs_brk, Ev.D.exs_cnt, Ev.D.exs_pas, Ev.D.exs_rai, Ev.D.raiC_p, Ev.D.exs_tryw, Ev.D.noOwn_nil, Ev.D.noOwn_d, Ev.D.noOwn_r, Ev.D.noOwn_f, Ev.D.noOwn_n, Ev.D.wordO_some, Ev.D.tryO_ex, Ev.D.tryO_rt, Ev.D.tryO_nx, Ev.D.give_nx, Ev.D.give_rt, Ev.D.give_ex, Ev.noLent, Ev.setMix, Ev.rdName, Ev.dat, Ev.datW, Ev.keep, Ev.keepAll, Ev.bindN, Ev.bindAll, Ev.settle, Ev.lend, Ev.back, Ev.giveR, Ev.isL, Ev.truR, Ev.items, Ev.items0, Ev.items3, Ev.items4, Ev.items5, Ev.items6, Ev.unlock, Ev.unlock1, Ev.wipeE, Ev.restE, Ev.setAll, List.getElem?_cons_zero, List.getElem?_cons_succ, List.getElem?_nil, List.set_cons_zero, List.set_cons_succ, List.map_cons, List.map_nil, List.cons_append, List.nil_append, List.replicate_succ, List.replicate_zero, List.length_cons, List.length_nil, List.take_succ_cons, List.take_zero, List.take_nil, Nat.reduceSub, Nat.reduceAdd, Nat.reduceLT, Nat.reduceLeDiff, Nat.reduceEqDiff, Nat.zero_add, ite_true, ite_false, Option.bind_some, Option.map_some, reduceIte, Option.some.injEq, Option.getD_some, Option.getD_none, List.contains_cons, List.contains_nil, Bool.not_true, Bool.not_false, Bool.and_true, Bool.true_and, Bool.and_false, Bool.false_and, Nat.lt_add_one, Nat.not_lt_zero, if_true, if_false, not_true_eq_false, not_false_eq_true, and_self, and_true, true_and, List.length_map, Nat.reduceBEq, List.elem_cons, List.elem_nil, List.mem_cons, List.not_mem_nil, or_false, false_or, Nat.add_one_ne_zero, decide_true, decide_false, List.append_nil, Bool.false_eq_true, Bool.true_eq_false, Bool.not_eq_true, Bool.or_false, Bool.false_or, Bool.or_true, Bool.true_or, Int.ofNat_le, Int.ofNat_lt, Int.reduceAdd, Int.reduceSub, Int.reduceNeg, Int.reduceLE, Int.reduceLT, Int.reduceEq, Int.reduceMul, ne_eq, Bool.not_not, false_and, and_false, List.getD_cons_zero, List.getD_cons_succ, List.getD_nil, eq_self, Ev.D.atI_0, Ev.D.atI_1, Ev.D.atI_2, Ev.D.atI_3, Ev.D.ixN_0, Ev.D.ixN_1, Ev.D.ixN_2, Ev.D.ixN_3, Ev.D.cmp_eq_ii, Ev.D.cmp_ne_ii, Ev.D.cmp_lt_ii, Ev.D.cmp_le_ii, Ev.D.cmp_gt_ii, Ev.D.cmp_ge_ii, Ev.D.sub_l, Ev.D.sub_t, Ev.D.add_ii, Ev.D.sub_ii, Ev.D.add_tt, Ev.D.add_ll, Ev.D.add_ss, Ev.D.mul_ti, Ev.D.mul_li, Ev.D.slc_l, Ev.D.slc_t, Ev.D.len_l, Ev.D.all_l, Ev.D.any_l, Ev.D.sum_l, Ev.D.min_l, Ev.D.max_l, Ev.D.tuple_l, Ev.D.list_l, Ev.D.repr_l, Ev.D.repr_x, Ev.D.len_t, Ev.D.all_t, Ev.D.any_t, Ev.D.sum_t, Ev.D.min_t, Ev.D.max_t, Ev.D.tuple_t, Ev.D.list_t, Ev.D.repr_t, Ev.D.sorted_l, Ev.D.abs_i, Ev.D.int_i, Ev.D.int_b, Ev.D.len_s, Ev.D.max_ii, Ev.D.min_ii, Ev.D.is_int_int, Ev.D.is_int_bool, Ev.D.is_int_none, Ev.D.is_int_str, Ev.D.is_int_list, Ev.D.is_int_tuple, Ev.D.is_bool_int, Ev.D.is_bool_bool, Ev.D.is_bool_none, Ev.D.is_bool_str, Ev.D.is_bool_list, Ev.D.is_bool_tuple, Ev.D.is_str_int, Ev.D.is_str_bool, Ev.D.is_str_none, Ev.D.is_str_str, Ev.D.is_str_list, Ev.D.is_str_tuple, Ev.D.is_tuple_int, Ev.D.is_tuple_bool, Ev.D.is_tuple_none, Ev.D.is_tuple_str, Ev.D.is_tuple_list, Ev.D.is_tuple_tuple, Ev.D.tru_b, Ev.D.tru_i, Ev.D.tru_n, Ev.D.tru_l, Ev.D.tru_t, Ev.D.isN_n, Ev.D.notN_n, Ev.D.isN_int, Ev.D.notN_int, Ev.D.isN_bool, Ev.D.notN_bool, Ev.D.isN_str, Ev.D.notN_str, Ev.D.isN_list, Ev.D.notN_list, Ev.D.isN_tuple, Ev.D.notN_tuple, Ev.D.lock_l, Ev.D.lock_t, Ev.D.lock_n, Ev.D.lock_r, Ev.D.lock_p, Ev.D.isLs_l, Ev.D.isLs_t, Ev.D.isLs_n, Ev.D.isLs_r, Ev.D.isLs_p, Ev.D.asg_n, Ev.D.asg_t, Ev.D.asgs_n, Ev.D.asgs_c, Ev.D.cap, Ev.D.capt, Ev.D.lcF_cap, Ev.D.it1, Ev.D.it2, Ev.D.mul_d, Ev.D.fdiv_d, Ev.D.mod_d, Ev.D.pow_d, Ev.D.numd_map, Ev.D.pairs_map, Ev.D.triples_map, Ev.D.asInts_map, Ev.D.asInts_int, Ev.D.asTr_map, Ev.D.all_id, Ev.D.any_id, Ev.D.op_nx, Ev.D.op_rt, Ev.D.op_ex, Ev.D.forS_ex, Ev.D.forGo_nil, Ev.D.forT_p, Ev.D.lcT_p, Int.toNat_natCast, Ev.D.tn1, Ev.D.tn2, Ev.D.tn4, Ev.D.tn5, Ev.D.whT_p, Ev.D.whC_p, Ev.D.whD_s, Ev.D.exs_whl, List.length_range, List.length_zipIdx, List.isEmpty_nil, List.isEmpty_cons, List.isEmpty_map, Int.reduceToNat, Ev.D.forS_nx, Ev.D.forS_rt, Ev.D.cut_take, Ev.D.cut_drop, Ev.D.cut_two, Ev.D.cut_map, Ev.D.atI_last, Ev.D.snoc_ne, Nat.lt_irrefl, Int.lt_irrefl, Int.cast_ofNat_Int, Ev.D.st_nx, Ev.D.st_ct, Ev.D.st_rt, Ev.D.st_bk, Ev.D.st_ex, Ev.D.lx_p, Ev.D.ws_nx, Ev.D.ws_ct, Ev.D.ws_bk, Ev.D.ws_rt, Ev.D.ws_ex, Ev.D.wt_t, Ev.D.wt_f, Ev.D.tn_2, Ev.D.tn_3, Ev.D.tm_1, Ev.D.whD, Ev.D.revC, List.length_reverse] $[$l]?)

set_option maxRecDepth 100000
namespace Ev.K48
open PySem PySem.Spec L2 PyProof.Rows
def topS (i : Nat) : Stmt := PySem.Challenge.pw_cardspunched_k48_whole_wear.main.body.getD i (.Pass ⟨0, 0, 0, 0⟩)
def cs : List (Str × PyData) := [("MAX_CARDS", (.int 40)), ("MAX_SIZE", (.int 1000000000000)), ("MAX_ROWS", (.int 60)), ("MAX_LIFE", (.int 1000)), ("accept_rounds", (D.fnD "accept_rounds")), ("accept_uses", (D.fnD "accept_uses"))]
def xs : List (Str × Nat) := [("TextError", 0), ("DeckError", 1), ("ArgumentError", 2), ("PaperError", 3), ("TooMany", 4)]
def tw : Bool := true
abbrev fs0 : List (Str × Nat × Nat) := []
def G0 : Tab := fun _ => none
/-- 0 _law_start: 0=script 1=seed 2=cell -/
def N_law_start : List Str := ["script", "seed", "cell"]
def f_law_start_0 : List MS := [(.par [1] [(.bin .add (.bin .mod (.b1 .int (.bin .add (.bin .mul (.v 1) (.c (.int 48271))) (.v 2))) (.c (.int 2147483629))) (.c (.int 1)))])]
def s_law_start_0 : MS := (.par [1] [(.c (.int 7))])
def s_law_start_1 : MS := (.for_ (.n 2) 0 [(.v 0)] f_law_start_0)
def s_law_start_2 : MS := (.ret (.lst [(.b1 .list (.v 0)), (.c (.int 0)), (.c (.int 0)), (.v 1)]))
def b_law_start : List MS := [s_law_start_0, s_law_start_1, s_law_start_2]
def m_law_start : Sem := runDef G0 1 3 b_law_start
theorem h_law_start : trS N_law_start fs0 cs xs tw 60 (defScope (topS 34)) (fun _ => true) (defBody (topS 34)) = b_law_start := by kernel_rfl
theorem r_law_start (w0 : W) : m_law_start [w0] = D.give 1 (exs G0 b_law_start ([some w0, none, none])) := D.run_all rfl (by decide +kernel)
theorem sc_law_start : FnScope N_law_start ["script"] (defScope (topS 34)) := ⟨rfl, rfl, rfl, by decide +kernel, rfl, by decide +kernel, by decide +kernel⟩
abbrev fs1 : List (Str × Nat × Nat) := ("_law_start", 0, 1) :: fs0
def G1 : Tab := fun i => if i = 0 then some m_law_start else G0 i
/-- 1 _law_draw: 0=cur 1=many 2=drawn -/
def N_law_draw : List Str := ["cur", "many", "drawn"]
def s_law_draw_0 : MS := (.ite (.and (.cmp .eq (.sub (.v 0) (.c (.int 1))) (.c (.int 0))) (.cmp .ge (.sub (.v 0) (.c (.int 2))) (.b1 .len (.sub (.v 0) (.c (.int 0)))))) [(.sets [(0, (.c (.int 3)))] [(.bin .mod (.b1 .int (.bin .add (.bin .mul (.sub (.v 0) (.c (.int 3))) (.c (.int 48271))) (.c (.int 69621)))) (.c (.int 2147483629)))]), (.ret (.bin .mod (.b1 .int (.bin .fdiv (.sub (.v 0) (.c (.int 3))) (.c (.int 13)))) (.v 1)))] [])
def s_law_draw_1 : MS := (.ite (.cmp .eq (.sub (.v 0) (.c (.int 1))) (.c (.int 0))) [(.sets [(0, (.c (.int 1)))] [(.b1 .abs (.sub (.sub (.v 0) (.c (.int 0))) (.sub (.v 0) (.c (.int 2)))))]), (.sets [(0, (.c (.int 2)))] [(.bin .add (.sub (.v 0) (.c (.int 2))) (.c (.int 1)))])] [])
def s_law_draw_2 : MS := (.par [2] [(.bin .mod (.b1 .int (.sub (.v 0) (.c (.int 1)))) (.v 1))])
def s_law_draw_3 : MS := (.sets [(0, (.c (.int 1)))] [(.bin .fdiv (.sub (.v 0) (.c (.int 1))) (.v 1))])
def s_law_draw_4 : MS := (.ret (.v 2))
def b_law_draw : List MS := [s_law_draw_0, s_law_draw_1, s_law_draw_2, s_law_draw_3, s_law_draw_4]
def m_law_draw : Sem := runDef G1 2 3 b_law_draw
theorem h_law_draw : trS N_law_draw fs1 cs xs tw 60 (defScope (topS 35)) (fun _ => true) (defBody (topS 35)) = b_law_draw := by kernel_rfl
theorem r_law_draw (w0 w1 : W) : m_law_draw [w0, w1] = D.give 2 (exs G1 b_law_draw ([some w0, some w1, none])) := D.run_all rfl (by decide +kernel)
theorem sc_law_draw : FnScope N_law_draw ["cur", "many"] (defScope (topS 35)) := ⟨rfl, rfl, rfl, by decide +kernel, rfl, by decide +kernel, by decide +kernel⟩
abbrev fs2 : List (Str × Nat × Nat) := ("_law_draw", 1, 2) :: fs1
def G2 : Tab := fun i => if i = 1 then some m_law_draw else G1 i
/-- 2 _law_pick: 0=cur 1=some -/
def N_law_pick : List Str := ["cur", "some"]
def s_law_pick_0 : MS := (.ret (.sub (.v 1) (.call 1 [(.v 0), (.b1 .len (.v 1))])))
def b_law_pick : List MS := [s_law_pick_0]
def m_law_pick : Sem := runDef G2 2 2 b_law_pick
theorem h_law_pick : trS N_law_pick fs2 cs xs tw 60 (defScope (topS 36)) (fun _ => true) (defBody (topS 36)) = b_law_pick := by kernel_rfl
theorem c_law_pick : ∀ as env, ev G2 (.call 1 as) env = (evs G2 as env).bind (D.callC m_law_draw) := fun _ _ => D.ev_call _ _ _ _ _ rfl
theorem r_law_pick (w0 w1 : W) : m_law_pick [w0, w1] = D.give 2 (exs G2 b_law_pick ([some w0, some w1])) := D.run_all rfl (by decide +kernel)
theorem sc_law_pick : FnScope N_law_pick ["cur", "some"] (defScope (topS 36)) := ⟨rfl, rfl, rfl, by decide +kernel, rfl, by decide +kernel, by decide +kernel⟩
abbrev fs3 : List (Str × Nat × Nat) := ("_law_pick", 2, 2) :: fs2
def G3 : Tab := fun i => if i = 2 then some m_law_pick else G2 i
/-- 3 _law_late: 0=life 1=runs 2=at 3=found 4=left 5=more -/
def N_law_late : List Str := ["life", "runs", "at", "found", "left", "more"]
def f_law_late_0 : List MS := [(.par [5] [(.bin .sub (.v 5) (.sub (.v 1) (.v 2)))]), (.ite (.or (.cmp .lt (.v 4) (.sub (.v 1) (.v 2))) (.and (.cmp .eq (.v 4) (.sub (.v 1) (.v 2))) (.cmp .gt (.v 5) (.c (.int 0))))) [(.ite (.or (.cmp .eq (.v 4) (.c (.int 0))) (.or (.cmp .lt (.v 0) (.sub (.v 1) (.v 2))) (.and (.cmp .eq (.v 0) (.sub (.v 1) (.v 2))) (.cmp .gt (.v 5) (.c (.int 0)))))) [(.ret (.c .none))] []), (.par [3, 4] [(.bin .add (.v 3) (.lst [(.v 2)])), (.v 0)])] []), (.par [4] [(.bin .sub (.v 4) (.sub (.v 1) (.v 2)))])]
def s_law_late_0 : MS := (.par [3, 4, 5] [(.lst []), (.v 0), (.b1 .sum (.v 1))])
def s_law_late_1 : MS := (.for_ (.n 2) 1 [(.b1 .len (.v 1))] f_law_late_0)
def s_law_late_2 : MS := (.ret (.b1 .tuple (.v 3)))
def b_law_late : List MS := [s_law_late_0, s_law_late_1, s_law_late_2]
def m_law_late : Sem := runDef G3 2 6 b_law_late
theorem h_law_late : trS N_law_late fs3 cs xs tw 60 (defScope (topS 45)) (fun _ => true) (defBody (topS 45)) = b_law_late := by kernel_rfl
theorem r_law_late (w0 w1 : W) : m_law_late [w0, w1] = D.give 2 (exs G3 b_law_late ([some w0, some w1, none, none, none, none])) := D.run_all rfl (by decide +kernel)
theorem sc_law_late : FnScope N_law_late ["life", "runs"] (defScope (topS 45)) := ⟨rfl, rfl, rfl, by decide +kernel, rfl, by decide +kernel, by decide +kernel⟩
abbrev fs4 : List (Str × Nat × Nat) := ("_law_late", 3, 2) :: fs3
def G4 : Tab := fun i => if i = 3 then some m_law_late else G3 i
/-- 4 is_integer: 0=value -/
def N_is_integer : List Str := ["value"]
def s_is_integer_0 : MS := (.ret (.and (.isi (.v 0) .int) (.not (.isi (.v 0) .bool))))
def b_is_integer : List MS := [s_is_integer_0]
def m_is_integer : Sem := runDef G4 1 1 b_is_integer
theorem h_is_integer : trS N_is_integer fs4 cs xs tw 60 (defScope (topS 8)) (fun _ => true) (defBody (topS 8)) = b_is_integer := by kernel_rfl
theorem r_is_integer (w0 : W) : m_is_integer [w0] = D.give 1 (exs G4 b_is_integer ([some w0])) := D.run_all rfl (by decide +kernel)
theorem sc_is_integer : FnScope N_is_integer ["value"] (defScope (topS 8)) := ⟨rfl, rfl, rfl, by decide +kernel, rfl, by decide +kernel, by decide +kernel⟩
abbrev fs5 : List (Str × Nat × Nat) := ("is_integer", 4, 1) :: fs4
def G5 : Tab := fun i => if i = 4 then some m_is_integer else G4 i
/-- 5 check_life: 0=life -/
def N_check_life : List Str := ["life"]
def s_check_life_0 : MS := (.ite (.or (.not (.call 4 [(.v 0)])) (.not (.chn .le .le (.c (.int 1)) (.v 0) (.c (.int 1000))))) [(.rai 2 (.c (.str (PySem.Str.ofString "life"))))] [])
def b_check_life : List MS := [s_check_life_0]
def m_check_life : Sem := runDef G5 1 1 b_check_life
theorem h_check_life : trS N_check_life fs5 cs xs tw 60 (defScope (topS 14)) (fun _ => true) (defBody (topS 14)) = b_check_life := by kernel_rfl
theorem c_check_life : ∀ as env, ev G5 (.call 4 as) env = (evs G5 as env).bind (D.callC m_is_integer) := fun _ _ => D.ev_call _ _ _ _ _ rfl
theorem r_check_life (w0 : W) : m_check_life [w0] = D.give 1 (exs G5 b_check_life ([some w0])) := D.run_all rfl (by decide +kernel)
theorem sc_check_life : FnScope N_check_life ["life"] (defScope (topS 14)) := ⟨rfl, rfl, rfl, by decide +kernel, rfl, by decide +kernel, by decide +kernel⟩
abbrev fs6 : List (Str × Nat × Nat) := ("check_life", 5, 1) :: fs5
def G6 : Tab := fun i => if i = 5 then some m_check_life else G5 i
/-- 6 check_runs: 0=runs 1=own -/
def N_check_runs : List Str := ["runs", "own"]
def s_check_runs_0 : MS := (.ite (.or (.not (.isi (.v 0) .tuple)) (.cmp .gt (.b1 .len (.v 0)) (.c (.int 60)))) [(.rai 2 (.c (.str (PySem.Str.ofString "runs"))))] [])
def s_check_runs_1 : MS := (.ite (.not (.b1 .all (.lc [1] (.n 1) 0 [(.v 0)] [] (.and (.call 4 [(.v 1)]) (.chn .le .le (.c (.int 0)) (.v 1) (.c (.int 1000))))))) [(.rai 2 (.c (.str (PySem.Str.ofString "runs"))))] [])
def b_check_runs : List MS := [s_check_runs_0, s_check_runs_1]
def m_check_runs : Sem := runDef G6 1 2 b_check_runs
theorem h_check_runs : trS N_check_runs fs6 cs xs tw 60 (defScope (topS 24)) (fun _ => true) (defBody (topS 24)) = b_check_runs := by kernel_rfl
theorem c_check_runs : ∀ as env, ev G6 (.call 4 as) env = (evs G6 as env).bind (D.callC m_is_integer) := fun _ _ => D.ev_call _ _ _ _ _ rfl
theorem r_check_runs (w0 : W) : m_check_runs [w0] = D.give 1 (exs G6 b_check_runs ([some w0, none])) := D.run_all rfl (by decide +kernel)
theorem sc_check_runs : FnScope N_check_runs ["runs"] (defScope (topS 24)) := ⟨rfl, rfl, rfl, by decide +kernel, rfl, by decide +kernel, by decide +kernel⟩
abbrev fs7 : List (Str × Nat × Nat) := ("check_runs", 6, 1) :: fs6
def G7 : Tab := fun i => if i = 6 then some m_check_runs else G6 i
/-- 7 copies_ahead: 0=life 1=runs 2=found 3=left 4=at 5=own 6=more -/
def N_copies_ahead : List Str := ["life", "runs", "found", "left", "at", "own", "more"]
def f_copies_ahead_0 : List MS := [(.par [6] [(.b1 .sum (.slc (.v 1) (some (.bin .add (.v 4) (.c (.int 1)))) none))]), (.ite (.or (.cmp .gt (.v 5) (.v 3)) (.and (.cmp .eq (.v 5) (.v 3)) (.cmp .gt (.v 6) (.c (.int 0))))) [(.ite (.or (.cmp .lt (.v 3) (.c (.int 1))) (.or (.cmp .gt (.v 5) (.v 0)) (.and (.cmp .eq (.v 5) (.v 0)) (.cmp .gt (.v 6) (.c (.int 0)))))) [(.ret (.c .none))] []), (.exp (.app 2 (.v 4))), (.par [3] [(.v 0)])] []), (.aug 3 .sub (.v 5))]
def s_copies_ahead_0 : MS := (.exp (.call 5 [(.v 0)]))
def s_copies_ahead_1 : MS := (.exp (.call 6 [(.v 1)]))
def s_copies_ahead_2 : MS := (.par [2] [(.lst [])])
def s_copies_ahead_3 : MS := (.par [3] [(.v 0)])
def s_copies_ahead_4 : MS := (.for_ (.t [(.n 4), (.n 5)]) 4 [(.v 1)] f_copies_ahead_0)
def s_copies_ahead_5 : MS := (.ret (.b1 .tuple (.v 2)))
def b_copies_ahead : List MS := [s_copies_ahead_0, s_copies_ahead_1, s_copies_ahead_2, s_copies_ahead_3, s_copies_ahead_4, s_copies_ahead_5]
def m_copies_ahead : Sem := runDef G7 2 7 b_copies_ahead
theorem h_copies_ahead : trS N_copies_ahead fs7 cs xs tw 60 (defScope (topS 25)) (fun _ => true) (defBody (topS 25)) = b_copies_ahead := by kernel_rfl
theorem c_copies_ahead : (∀ as env, ev G7 (.call 5 as) env = (evs G7 as env).bind (D.callC m_check_life)) ∧ (∀ as env, ev G7 (.call 6 as) env = (evs G7 as env).bind (D.callC m_check_runs)) :=
  ⟨fun _ _ => D.ev_call _ _ _ _ _ rfl, fun _ _ => D.ev_call _ _ _ _ _ rfl⟩
theorem r_copies_ahead (w0 w1 : W) : m_copies_ahead [w0, w1] = D.give 2 (exs G7 b_copies_ahead ([some w0, some w1, none, none, none, none, none])) := D.run_all rfl (by decide +kernel)
theorem sc_copies_ahead : FnScope N_copies_ahead ["life", "runs"] (defScope (topS 25)) := ⟨rfl, rfl, rfl, by decide +kernel, rfl, by decide +kernel, by decide +kernel⟩
abbrev fs8 : List (Str × Nat × Nat) := ("copies_ahead", 7, 2) :: fs7
def G8 : Tab := fun i => if i = 7 then some m_copies_ahead else G7 i
/-- 8 _law_same: 0=actual 1=due -/
def N_law_same : List Str := ["actual", "due"]
def s_law_same_0 : MS := (.ret (.and (.cmp .eq (.v 0) (.v 1)) (.cmp .eq (.b1 .repr (.v 0)) (.b1 .repr (.v 1)))))
def b_law_same : List MS := [s_law_same_0]
def m_law_same : Sem := runDef G8 2 2 b_law_same
theorem h_law_same : trS N_law_same fs8 cs xs tw 60 (defScope (topS 37)) (fun _ => true) (defBody (topS 37)) = b_law_same := by kernel_rfl
theorem r_law_same (w0 w1 : W) : m_law_same [w0, w1] = D.give 2 (exs G8 b_law_same ([some w0, some w1])) := D.run_all rfl (by decide +kernel)
theorem sc_law_same : FnScope N_law_same ["actual", "due"] (defScope (topS 37)) := ⟨rfl, rfl, rfl, by decide +kernel, rfl, by decide +kernel, by decide +kernel⟩
abbrev fs9 : List (Str × Nat × Nat) := ("_law_same", 8, 2) :: fs8
def G9 : Tab := fun i => if i = 8 then some m_law_same else G8 i
/-- 9 judge_copies: 0=life 1=runs 2=ahead 3=left 4=at 5=own -/
def N_judge_copies : List Str := ["life", "runs", "ahead", "left", "at", "own"]
def f_judge_copies_0 : List MS := [(.ite (.cmp .inn (.v 4) (.v 2)) [(.ite (.cmp .lt (.v 3) (.c (.int 1))) [(.ret (.tup [(.c (.str (PySem.Str.ofString "worn"))), (.v 4)]))] []), (.par [3] [(.v 0)])] []), (.ite (.cmp .gt (.v 5) (.v 3)) [(.ret (.tup [(.c (.str (PySem.Str.ofString "worn"))), (.v 4)]))] []), (.aug 3 .sub (.v 5))]
def s_judge_copies_0 : MS := (.exp (.call 5 [(.v 0)]))
def s_judge_copies_1 : MS := (.exp (.call 6 [(.v 1)]))
def s_judge_copies_2 : MS := (.ite (.or (.not (.isi (.v 2) .tuple)) (.not (.b1 .all (.lc [4] (.n 4) 0 [(.v 2)] [] (.and (.call 4 [(.v 4)]) (.chn .le .lt (.c (.int 0)) (.v 4) (.b1 .len (.v 1)))))))) [(.rai 2 (.c (.str (PySem.Str.ofString "ahead"))))] [])
def s_judge_copies_3 : MS := (.ite (.lc [4] (.n 4) 1 [(.bin .sub (.b1 .len (.v 2)) (.c (.int 1)))] [(.cmp .ge (.sub (.v 2) (.v 4)) (.sub (.v 2) (.bin .add (.v 4) (.c (.int 1)))))] (.c (.int 1))) [(.rai 2 (.c (.str (PySem.Str.ofString "ahead"))))] [])
def s_judge_copies_4 : MS := (.par [3] [(.v 0)])
def s_judge_copies_5 : MS := (.for_ (.t [(.n 4), (.n 5)]) 4 [(.v 1)] f_judge_copies_0)
def s_judge_copies_6 : MS := (.ret (.tup [(.c (.str (PySem.Str.ofString "enough"))), (.v 3)]))
def b_judge_copies : List MS := [s_judge_copies_0, s_judge_copies_1, s_judge_copies_2, s_judge_copies_3, s_judge_copies_4, s_judge_copies_5, s_judge_copies_6]
def m_judge_copies : Sem := runDef G9 3 6 b_judge_copies
theorem h_judge_copies : trS N_judge_copies fs9 cs xs tw 60 (defScope (topS 26)) (fun _ => true) (defBody (topS 26)) = b_judge_copies := by kernel_rfl
theorem c_judge_copies : (∀ as env, ev G9 (.call 4 as) env = (evs G9 as env).bind (D.callC m_is_integer)) ∧ (∀ as env, ev G9 (.call 5 as) env = (evs G9 as env).bind (D.callC m_check_life)) ∧ (∀ as env, ev G9 (.call 6 as) env = (evs G9 as env).bind (D.callC m_check_runs)) :=
  ⟨fun _ _ => D.ev_call _ _ _ _ _ rfl, fun _ _ => D.ev_call _ _ _ _ _ rfl, fun _ _ => D.ev_call _ _ _ _ _ rfl⟩
theorem r_judge_copies (w0 w1 w2 : W) : m_judge_copies [w0, w1, w2] = D.give 3 (exs G9 b_judge_copies ([some w0, some w1, some w2, none, none, none])) := D.run_all rfl (by decide +kernel)
theorem sc_judge_copies : FnScope N_judge_copies ["life", "runs", "ahead"] (defScope (topS 26)) := ⟨rfl, rfl, rfl, by decide +kernel, rfl, by decide +kernel, by decide +kernel⟩
abbrev fs10 : List (Str × Nat × Nat) := ("judge_copies", 9, 3) :: fs9
def G10 : Tab := fun i => if i = 9 then some m_judge_copies else G9 i
/-- 10 accept_late: 0=life 1=runs 2=ahead 3=other 4=row 5=one 6=own -/
def N_accept_late : List Str := ["life", "runs", "ahead", "other", "row", "one", "own"]
def f_accept_late_0 : List MS := [(.ite (.cmp .ne (.sub (.call 9 [(.v 0), (.v 1), (.v 4)]) (.c (.int 0))) (.c (.str (PySem.Str.ofString "enough")))) [(.rai 3 (.c (.str (PySem.Str.ofString "worn"))))] [])]
def s_accept_late_0 : MS := (.for_ (.n 4) 0 [(.tup [(.v 2), (.v 3)])] f_accept_late_0)
def s_accept_late_1 : MS := (.ite (.cmp .gt (.b1 .len (.v 2)) (.b1 .len (.v 3))) [(.rai 3 (.c (.str (PySem.Str.ofString "more"))))] [])
def s_accept_late_2 : MS := (.ite (.lc [5, 6] (.t [(.n 5), (.n 6)]) 5 [(.v 2), (.v 3)] [(.cmp .lt (.v 5) (.v 6))] (.c (.int 1))) [(.rai 3 (.c (.str (PySem.Str.ofString "late"))))] [])
def b_accept_late : List MS := [s_accept_late_0, s_accept_late_1, s_accept_late_2]
def m_accept_late : Sem := runDef G10 4 7 b_accept_late
theorem h_accept_late : trS N_accept_late fs10 cs xs tw 60 (defScope (topS 27)) (fun _ => true) (defBody (topS 27)) = b_accept_late := by kernel_rfl
theorem c_accept_late : ∀ as env, ev G10 (.call 9 as) env = (evs G10 as env).bind (D.callC m_judge_copies) := fun _ _ => D.ev_call _ _ _ _ _ rfl
theorem r_accept_late (w0 w1 w2 w3 : W) : m_accept_late [w0, w1, w2, w3] = D.give 4 (exs G10 b_accept_late ([some w0, some w1, some w2, some w3, none, none, none])) := D.run_all rfl (by decide +kernel)
theorem sc_accept_late : FnScope N_accept_late ["life", "runs", "ahead", "other"] (defScope (topS 27)) := ⟨rfl, rfl, rfl, by decide +kernel, rfl, by decide +kernel, by decide +kernel⟩
abbrev fs11 : List (Str × Nat × Nat) := ("accept_late", 10, 4) :: fs10
def G11 : Tab := fun i => if i = 10 then some m_accept_late else G10 i
/-- 11 _law_great_runs_hold: 0=cur 1=life 2=part 3=size 4=due 5=runs 6=wide 7=heard 8=last 9=drawn 10=told 11=k 12=at -/
def N_law_great_runs_hold : List Str := ["cur", "life", "part", "size", "due", "runs", "wide", "heard", "last", "drawn", "told", "k", "at"]
def s_law_great_runs_hold_0 : MS := (.par [1] [(.call 2 [(.v 0), (.lst [(.c (.int 1000)), (.bin .add (.c (.int 2)) (.call 1 [(.v 0), (.c (.int 999))]))])])])
def s_law_great_runs_hold_1 : MS := (.par [2] [(.bin .add (.c (.int 1)) (.call 1 [(.v 0), (.bin .sub (.v 1) (.c (.int 1)))]))])
def s_law_great_runs_hold_2 : MS := (.par [3] [(.bin .fdiv (.bin .sub (.v 1) (.c (.int 1))) (.v 2))])
def s_law_great_runs_hold_3 : MS := (.par [4] [(.ife (.or (.cmp .gt (.bin .add (.bin .mul (.v 3) (.v 2)) (.v 2)) (.v 1)) (.cmp .eq (.bin .add (.bin .mul (.v 3) (.v 2)) (.v 2)) (.v 1))) (.b1 .tuple (.lc [12] (.n 12) 3 [(.v 3), (.c (.int 60)), (.v 3)] [] (.v 12))) (.tup []))])
def s_law_great_runs_hold_4 : MS := (.par [5] [(.bin .mul (.tup [(.v 2)]) (.c (.int 60)))])
def s_law_great_runs_hold_5 : MS := (.par [6] [(.bin .add (.slc (.v 5) none (some (.c (.int 59)))) (.tup [(.v 1)]))])
def s_law_great_runs_hold_6 : MS := (.par [7] [(.lst [(.call 7 [(.v 1), (.v 5)]), (.call 7 [(.v 1), (.v 6)]), (.ife (.cmp .lt (.v 1) (.c (.int 1000))) (.call 7 [(.v 1), (.bin .add (.slc (.v 5) none (some (.c (.int 59)))) (.tup [(.bin .add (.v 1) (.c (.int 1)))]))]) (.c .none)), (.call 7 [(.v 1), (.bin .add (.tup [(.v 1)]) (.slc (.v 5) none (some (.c (.int 1)))))])])])
def s_law_great_runs_hold_7 : MS := (.ite (.not (.call 8 [(.v 7), (.lst [(.call 3 [(.v 1), (.v 5)]), (.call 3 [(.v 1), (.v 6)]), (.c .none), (.c .none)])])) [(.ret (.c (.bool false)))] [])
def s_law_great_runs_hold_8 : MS := (.par [8] [(.call 3 [(.v 1), (.v 6)])])
def s_law_great_runs_hold_9 : MS := (.ite (.or (.cmp .lt (.bin .add (.bin .mul (.v 3) (.v 2)) (.v 2)) (.v 1)) (.or (.cmp .isN (.v 8) (.c .none)) (.cmp .ne (.sub (.v 8) (.neg (.c (.int 1)))) (.c (.int 59))))) [(.ret (.c (.bool false)))] [])
def s_law_great_runs_hold_10 : MS := (.par [9] [(.b1 .tuple (.lc [11] (.n 11) 1 [(.c (.int 60))] [] (.call 1 [(.v 0), (.v 1)])))])
def s_law_great_runs_hold_11 : MS := (.par [10] [(.call 7 [(.v 1), (.v 9)])])
def s_law_great_runs_hold_12 : MS := (.ret (.and (.call 8 [(.lst [(.v 10), (.slc (.sub (.v 7) (.c (.int 0))) none (some (.bin .sub (.b1 .len (.v 4)) (.c (.int 1)))))]), (.lst [(.call 3 [(.v 1), (.v 9)]), (.slc (.v 4) none (some (.bin .sub (.b1 .len (.v 4)) (.c (.int 1)))))])]) (.cmp .isN (.call 10 [(.v 1), (.v 9), (.v 10), (.v 10)]) (.c .none))))
def b_law_great_runs_hold : List MS := [s_law_great_runs_hold_0, s_law_great_runs_hold_1, s_law_great_runs_hold_2, s_law_great_runs_hold_3, s_law_great_runs_hold_4, s_law_great_runs_hold_5, s_law_great_runs_hold_6, s_law_great_runs_hold_7, s_law_great_runs_hold_8, s_law_great_runs_hold_9, s_law_great_runs_hold_10, s_law_great_runs_hold_11, s_law_great_runs_hold_12]
def m_law_great_runs_hold : Sem := runDef G11 1 13 b_law_great_runs_hold
theorem h_law_great_runs_hold : trS N_law_great_runs_hold fs11 cs xs tw 60 (defScope (topS 46)) (fun _ => true) (defBody (topS 46)) = b_law_great_runs_hold := by kernel_rfl
theorem c_law_great_runs_hold : (∀ as env, ev G11 (.call 1 as) env = (evs G11 as env).bind (D.callC m_law_draw)) ∧ (∀ as env, ev G11 (.call 2 as) env = (evs G11 as env).bind (D.callC m_law_pick)) ∧ (∀ as env, ev G11 (.call 3 as) env = (evs G11 as env).bind (D.callC m_law_late)) ∧ (∀ as env, ev G11 (.call 7 as) env = (evs G11 as env).bind (D.callC m_copies_ahead)) ∧ (∀ as env, ev G11 (.call 8 as) env = (evs G11 as env).bind (D.callC m_law_same)) ∧ (∀ as env, ev G11 (.call 10 as) env = (evs G11 as env).bind (D.callC m_accept_late)) :=
  ⟨fun _ _ => D.ev_call _ _ _ _ _ rfl, fun _ _ => D.ev_call _ _ _ _ _ rfl, fun _ _ => D.ev_call _ _ _ _ _ rfl, fun _ _ => D.ev_call _ _ _ _ _ rfl, fun _ _ => D.ev_call _ _ _ _ _ rfl, fun _ _ => D.ev_call _ _ _ _ _ rfl⟩
theorem r_law_great_runs_hold (w0 : W) : m_law_great_runs_hold [w0] = D.give 1 (exs G11 b_law_great_runs_hold ([some w0, none, none, none, none, none, none, none, none, none, none, none, none])) := D.run_all rfl (by decide +kernel)
theorem sc_law_great_runs_hold : FnScope N_law_great_runs_hold ["cur"] (defScope (topS 46)) := ⟨rfl, rfl, rfl, by decide +kernel, rfl, by decide +kernel, by decide +kernel⟩
abbrev fs12 : List (Str × Nat × Nat) := ("_law_great_runs_hold", 11, 1) :: fs11
def G12 : Tab := fun i => if i = 11 then some m_law_great_runs_hold else G11 i
/-- 12 step_of: 0=rows 1=made -/
def N_step_of : List Str := ["rows", "made"]
def s_step_of_0 : MS := (.par [1] [(.b1 .sum (.slc (.v 0) (some (.c (.int 1))) none))])
def s_step_of_1 : MS := (.ret (.bin .add (.bin .add (.lst [(.bin .add (.sub (.v 0) (.c (.int 0))) (.sub (.v 0) (.c (.int 1))))]) (.slc (.v 0) (some (.c (.int 2))) none)) (.lst [(.v 1)])))
def b_step_of : List MS := [s_step_of_0, s_step_of_1]
def m_step_of : Sem := runDef G12 1 2 b_step_of
theorem h_step_of : trS N_step_of fs12 cs xs tw 60 (defScope (topS 28)) (fun _ => true) (defBody (topS 28)) = b_step_of := by kernel_rfl
theorem r_step_of (w0 : W) : m_step_of [w0] = D.give 1 (exs G12 b_step_of ([some w0, none])) := D.run_all rfl (by decide +kernel)
theorem sc_step_of : FnScope N_step_of ["rows"] (defScope (topS 28)) := ⟨rfl, rfl, rfl, by decide +kernel, rfl, by decide +kernel, by decide +kernel⟩
abbrev fs13 : List (Str × Nat × Nat) := ("step_of", 12, 1) :: fs12
def G13 : Tab := fun i => if i = 12 then some m_step_of else G12 i
/-- 13 rounds_for: 0=life 1=cards 2=rows 3=rounds -/
def N_rounds_for : List Str := ["life", "cards", "rows", "rounds"]
def f_rounds_for_0 : List MS := [(.ite (.cmp .ge (.b1 .sum (.v 2)) (.v 1)) [(.ret (.v 3))] []), (.par [2] [(.call 12 [(.v 2)])])]
def s_rounds_for_0 : MS := (.exp (.call 5 [(.v 0)]))
def s_rounds_for_1 : MS := (.ite (.or (.not (.call 4 [(.v 1)])) (.not (.chn .le .le (.c (.int 1)) (.v 1) (.c (.int 1000000000000))))) [(.rai 2 (.c (.str (PySem.Str.ofString "cards"))))] [])
def s_rounds_for_2 : MS := (.par [2] [(.bin .add (.bin .mul (.lst [(.c (.int 0))]) (.v 0)) (.lst [(.c (.int 1))]))])
def s_rounds_for_3 : MS := (.for_ (.n 3) 1 [(.bin .add (.c (.int 60)) (.c (.int 1)))] f_rounds_for_0)
def s_rounds_for_4 : MS := (.ret (.c .none))
def b_rounds_for : List MS := [s_rounds_for_0, s_rounds_for_1, s_rounds_for_2, s_rounds_for_3, s_rounds_for_4]
def m_rounds_for : Sem := runDef G13 2 4 b_rounds_for
theorem h_rounds_for : trS N_rounds_for fs13 cs xs tw 60 (defScope (topS 31)) (fun _ => true) (defBody (topS 31)) = b_rounds_for := by kernel_rfl
theorem c_rounds_for : (∀ as env, ev G13 (.call 4 as) env = (evs G13 as env).bind (D.callC m_is_integer)) ∧ (∀ as env, ev G13 (.call 5 as) env = (evs G13 as env).bind (D.callC m_check_life)) ∧ (∀ as env, ev G13 (.call 12 as) env = (evs G13 as env).bind (D.callC m_step_of)) :=
  ⟨fun _ _ => D.ev_call _ _ _ _ _ rfl, fun _ _ => D.ev_call _ _ _ _ _ rfl, fun _ _ => D.ev_call _ _ _ _ _ rfl⟩
theorem r_rounds_for (w0 w1 : W) : m_rounds_for [w0, w1] = D.give 2 (exs G13 b_rounds_for ([some w0, some w1, none, none])) := D.run_all rfl (by decide +kernel)
theorem sc_rounds_for : FnScope N_rounds_for ["life", "cards"] (defScope (topS 31)) := ⟨rfl, rfl, rfl, by decide +kernel, rfl, by decide +kernel, by decide +kernel⟩
abbrev fs14 : List (Str × Nat × Nat) := ("rounds_for", 13, 2) :: fs13
def G14 : Tab := fun i => if i = 13 then some m_rounds_for else G13 i
/-- 14 accept_rounds: 0=life 1=rows 2=row 3=one 4=other 5=own -/
def N_accept_rounds : List Str := ["life", "rows", "row", "one", "other", "own"]
def f_accept_rounds_0 : List MS := [(.ite (.or (.not (.isi (.v 2) .tuple)) (.or (.cmp .ne (.b1 .len (.v 2)) (.bin .add (.v 0) (.c (.int 1)))) (.not (.b1 .all (.lc [5] (.n 5) 0 [(.v 2)] [] (.call 4 [(.v 5)])))))) [(.rai 3 (.c (.str (PySem.Str.ofString "form"))))] [])]
def f_accept_rounds_1 : List MS := [(.ite (.cmp .ne (.b1 .tuple (.call 12 [(.b1 .list (.v 3))])) (.v 4)) [(.rai 3 (.c (.str (PySem.Str.ofString "round"))))] [])]
def s_accept_rounds_0 : MS := (.exp (.call 5 [(.v 0)]))
def s_accept_rounds_1 : MS := (.ite (.or (.not (.isi (.v 1) .tuple)) (.or (.not (.v 1)) (.cmp .gt (.b1 .len (.v 1)) (.bin .add (.c (.int 60)) (.c (.int 1)))))) [(.rai 3 (.c (.str (PySem.Str.ofString "form"))))] [])
def s_accept_rounds_2 : MS := (.for_ (.n 2) 0 [(.v 1)] f_accept_rounds_0)
def s_accept_rounds_3 : MS := (.ite (.cmp .ne (.sub (.v 1) (.c (.int 0))) (.bin .add (.bin .mul (.tup [(.c (.int 0))]) (.v 0)) (.tup [(.c (.int 1))]))) [(.rai 3 (.c (.str (PySem.Str.ofString "begin"))))] [])
def s_accept_rounds_4 : MS := (.for_ (.t [(.n 3), (.n 4)]) 5 [(.v 1), (.slc (.v 1) (some (.c (.int 1))) none)] f_accept_rounds_1)
def b_accept_rounds : List MS := [s_accept_rounds_0, s_accept_rounds_1, s_accept_rounds_2, s_accept_rounds_3, s_accept_rounds_4]
def m_accept_rounds : Sem := runDef G14 2 6 b_accept_rounds
theorem h_accept_rounds : trS N_accept_rounds fs14 cs xs tw 60 (defScope (topS 32)) (fun _ => true) (defBody (topS 32)) = b_accept_rounds := by kernel_rfl
theorem c_accept_rounds : (∀ as env, ev G14 (.call 4 as) env = (evs G14 as env).bind (D.callC m_is_integer)) ∧ (∀ as env, ev G14 (.call 5 as) env = (evs G14 as env).bind (D.callC m_check_life)) ∧ (∀ as env, ev G14 (.call 12 as) env = (evs G14 as env).bind (D.callC m_step_of)) :=
  ⟨fun _ _ => D.ev_call _ _ _ _ _ rfl, fun _ _ => D.ev_call _ _ _ _ _ rfl, fun _ _ => D.ev_call _ _ _ _ _ rfl⟩
theorem r_accept_rounds (w0 w1 : W) : m_accept_rounds [w0, w1] = D.give 2 (exs G14 b_accept_rounds ([some w0, some w1, none, none, none, none])) := D.run_all rfl (by decide +kernel)
theorem sc_accept_rounds : FnScope N_accept_rounds ["life", "rows"] (defScope (topS 32)) := ⟨rfl, rfl, rfl, by decide +kernel, rfl, by decide +kernel, by decide +kernel⟩
abbrev fs15 : List (Str × Nat × Nat) := ("accept_rounds", 14, 2) :: fs14
def G15 : Tab := fun i => if i = 14 then some m_accept_rounds else G14 i
/-- 15 check_lives: 0=lives 1=own -/
def N_check_lives : List Str := ["lives", "own"]
def s_check_lives_0 : MS := (.ite (.or (.not (.isi (.v 0) .tuple)) (.cmp .gt (.b1 .len (.v 0)) (.c (.int 40)))) [(.rai 1 (.c (.str (PySem.Str.ofString "lives"))))] [])
def s_check_lives_1 : MS := (.ite (.not (.b1 .all (.lc [1] (.n 1) 0 [(.v 0)] [] (.and (.call 4 [(.v 1)]) (.chn .le .le (.c (.int 0)) (.v 1) (.c (.int 1000))))))) [(.rai 1 (.c (.str (PySem.Str.ofString "lives"))))] [])
def b_check_lives : List MS := [s_check_lives_0, s_check_lives_1]
def m_check_lives : Sem := runDef G15 1 2 b_check_lives
theorem h_check_lives : trS N_check_lives fs15 cs xs tw 60 (defScope (topS 19)) (fun _ => true) (defBody (topS 19)) = b_check_lives := by kernel_rfl
theorem c_check_lives : ∀ as env, ev G15 (.call 4 as) env = (evs G15 as env).bind (D.callC m_is_integer) := fun _ _ => D.ev_call _ _ _ _ _ rfl
theorem r_check_lives (w0 : W) : m_check_lives [w0] = D.give 1 (exs G15 b_check_lives ([some w0, none])) := D.run_all rfl (by decide +kernel)
theorem sc_check_lives : FnScope N_check_lives ["lives"] (defScope (topS 19)) := ⟨rfl, rfl, rfl, by decide +kernel, rfl, by decide +kernel, by decide +kernel⟩
abbrev fs16 : List (Str × Nat × Nat) := ("check_lives", 15, 1) :: fs15
def G16 : Tab := fun i => if i = 15 then some m_check_lives else G15 i
/-- 16 accept_uses: 0=lives 1=many 2=taken 3=least 4=own 5=life -/
def N_accept_uses : List Str := ["lives", "many", "taken", "least", "own", "life"]
def s_accept_uses_0 : MS := (.exp (.call 15 [(.v 0)]))
def s_accept_uses_1 : MS := (.ite (.or (.not (.call 4 [(.v 1)])) (.not (.chn .le .le (.c (.int 0)) (.v 1) (.bin .mul (.c (.int 40)) (.c (.int 1000)))))) [(.rai 2 (.c (.str (PySem.Str.ofString "many"))))] [])
def s_accept_uses_2 : MS := (.ite (.or (.not (.isi (.v 2) .tuple)) (.or (.cmp .ne (.b1 .len (.v 2)) (.b1 .len (.v 0))) (.not (.call 4 [(.v 3)])))) [(.rai 3 (.c (.str (PySem.Str.ofString "form"))))] [])
def s_accept_uses_3 : MS := (.ite (.not (.b1 .all (.lc [4] (.n 4) 0 [(.v 2)] [] (.and (.call 4 [(.v 4)]) (.cmp .ge (.v 4) (.c (.int 0))))))) [(.rai 3 (.c (.str (PySem.Str.ofString "form"))))] [])
def s_accept_uses_4 : MS := (.ite (.cmp .ne (.b1 .sum (.v 2)) (.v 1)) [(.rai 3 (.c (.str (PySem.Str.ofString "many"))))] [])
def s_accept_uses_5 : MS := (.ite (.lc [4, 5] (.t [(.n 4), (.n 5)]) 5 [(.v 2), (.v 0)] [(.cmp .lt (.bin .sub (.v 5) (.v 4)) (.b2 .max (.c (.int 0)) (.v 3)))] (.c (.int 1))) [(.rai 3 (.c (.str (PySem.Str.ofString "left"))))] [])
def b_accept_uses : List MS := [s_accept_uses_0, s_accept_uses_1, s_accept_uses_2, s_accept_uses_3, s_accept_uses_4, s_accept_uses_5]
def m_accept_uses : Sem := runDef G16 4 6 b_accept_uses
theorem h_accept_uses : trS N_accept_uses fs16 cs xs tw 60 (defScope (topS 23)) (fun _ => true) (defBody (topS 23)) = b_accept_uses := by kernel_rfl
theorem c_accept_uses : (∀ as env, ev G16 (.call 4 as) env = (evs G16 as env).bind (D.callC m_is_integer)) ∧ (∀ as env, ev G16 (.call 15 as) env = (evs G16 as env).bind (D.callC m_check_lives)) :=
  ⟨fun _ _ => D.ev_call _ _ _ _ _ rfl, fun _ _ => D.ev_call _ _ _ _ _ rfl⟩
theorem r_accept_uses (w0 w1 w2 w3 : W) : m_accept_uses [w0, w1, w2, w3] = D.give 4 (exs G16 b_accept_uses ([some w0, some w1, some w2, some w3, none, none])) := D.run_all rfl (by decide +kernel)
theorem sc_accept_uses : FnScope N_accept_uses ["lives", "many", "taken", "least"] (defScope (topS 23)) := ⟨rfl, rfl, rfl, by decide +kernel, rfl, by decide +kernel, by decide +kernel⟩
abbrev fs17 : List (Str × Nat × Nat) := ("accept_uses", 16, 4) :: fs16
def G17 : Tab := fun i => if i = 16 then some m_accept_uses else G16 i
/-- 17 _law_called: 0=call 1=some -/
def N_law_called : List Str := ["call", "some"]
def s_law_called_0 : MS := (.ite (.cmp .lt (.b1 .len (.v 1)) (.c (.int 3))) [(.ret (.ife (.cmp .eq (.b1 .len (.v 1)) (.c (.int 1))) (.callv (tbl fs17) 0 [(.sub (.v 1) (.c (.int 0)))]) (.callv (tbl fs17) 0 [(.sub (.v 1) (.c (.int 0))), (.sub (.v 1) (.c (.int 1)))])))] [])
def s_law_called_1 : MS := (.ite (.cmp .lt (.b1 .len (.v 1)) (.c (.int 5))) [(.ret (.ife (.cmp .eq (.b1 .len (.v 1)) (.c (.int 3))) (.callv (tbl fs17) 0 [(.sub (.v 1) (.c (.int 0))), (.sub (.v 1) (.c (.int 1))), (.sub (.v 1) (.c (.int 2)))]) (.callv (tbl fs17) 0 [(.sub (.v 1) (.c (.int 0))), (.sub (.v 1) (.c (.int 1))), (.sub (.v 1) (.c (.int 2))), (.sub (.v 1) (.c (.int 3)))])))] [])
def s_law_called_2 : MS := (.ret (.callv (tbl fs17) 0 [(.sub (.v 1) (.c (.int 0))), (.sub (.v 1) (.c (.int 1))), (.sub (.v 1) (.c (.int 2))), (.sub (.v 1) (.c (.int 3))), (.sub (.v 1) (.c (.int 4)))]))
def b_law_called : List MS := [s_law_called_0, s_law_called_1, s_law_called_2]
def m_law_called : Sem := runDef G17 2 2 b_law_called
theorem h_law_called : trS N_law_called fs17 cs xs tw 60 (defScope (topS 39)) (fun _ => true) (defBody (topS 39)) = b_law_called := by kernel_rfl
theorem r_law_called (w0 w1 : W) : m_law_called [w0, w1] = D.give 2 (exs G17 b_law_called ([some w0, some w1])) := D.run_all rfl (by decide +kernel)
theorem sc_law_called : FnScope N_law_called ["call", "some"] (defScope (topS 39)) := ⟨rfl, rfl, rfl, by decide +kernel, rfl, by decide +kernel, by decide +kernel⟩
abbrev fs18 : List (Str × Nat × Nat) := ("_law_called", 17, 2) :: fs17
def G18 : Tab := fun i => if i = 17 then some m_law_called else G17 i
/-- 18 _law_asked: 0=call 1=some 2=error -/
def N_law_asked : List Str := ["call", "some", "error"]
def f_law_asked_0 : List MS := [(.ret (.lst [(.call 17 [(.v 0), (.v 1)])]))]
def s_law_asked_0 : MS := (.tryw f_law_asked_0)
def b_law_asked : List MS := [s_law_asked_0]
def m_law_asked : Sem := runDef G18 2 3 b_law_asked
theorem h_law_asked : trS N_law_asked fs18 cs xs tw 60 (defScope (topS 40)) (fun _ => true) (defBody (topS 40)) = b_law_asked := by kernel_rfl
theorem c_law_asked : ∀ as env, ev G18 (.call 17 as) env = (evs G18 as env).bind (D.callC m_law_called) := fun _ _ => D.ev_call _ _ _ _ _ rfl
theorem r_law_asked (w0 w1 : W) : m_law_asked [w0, w1] = D.give 2 (exs G18 b_law_asked ([some w0, some w1, none])) := D.run_all rfl (by decide +kernel)
theorem sc_law_asked : FnScope N_law_asked ["call", "some"] (defScope (topS 40)) := ⟨rfl, rfl, rfl, by decide +kernel, rfl, by decide +kernel, by decide +kernel⟩
abbrev fs19 : List (Str × Nat × Nat) := ("_law_asked", 18, 2) :: fs18
def G19 : Tab := fun i => if i = 18 then some m_law_asked else G18 i
/-- 19 check_rounds: 0=rounds -/
def N_check_rounds : List Str := ["rounds"]
def s_check_rounds_0 : MS := (.ite (.or (.not (.call 4 [(.v 0)])) (.not (.chn .le .le (.c (.int 0)) (.v 0) (.c (.int 60))))) [(.rai 2 (.c (.str (PySem.Str.ofString "rounds"))))] [])
def b_check_rounds : List MS := [s_check_rounds_0]
def m_check_rounds : Sem := runDef G19 1 1 b_check_rounds
theorem h_check_rounds : trS N_check_rounds fs19 cs xs tw 60 (defScope (topS 29)) (fun _ => true) (defBody (topS 29)) = b_check_rounds := by kernel_rfl
theorem c_check_rounds : ∀ as env, ev G19 (.call 4 as) env = (evs G19 as env).bind (D.callC m_is_integer) := fun _ _ => D.ev_call _ _ _ _ _ rfl
theorem r_check_rounds (w0 : W) : m_check_rounds [w0] = D.give 1 (exs G19 b_check_rounds ([some w0])) := D.run_all rfl (by decide +kernel)
theorem sc_check_rounds : FnScope N_check_rounds ["rounds"] (defScope (topS 29)) := ⟨rfl, rfl, rfl, by decide +kernel, rfl, by decide +kernel, by decide +kernel⟩
abbrev fs20 : List (Str × Nat × Nat) := ("check_rounds", 19, 1) :: fs19
def G20 : Tab := fun i => if i = 19 then some m_check_rounds else G19 i
/-- 20 cards_behind: 0=life 1=rounds 2=rows 3=turn -/
def N_cards_behind : List Str := ["life", "rounds", "rows", "turn"]
def f_cards_behind_0 : List MS := [(.par [2] [(.call 12 [(.v 2)])])]
def s_cards_behind_0 : MS := (.exp (.call 5 [(.v 0)]))
def s_cards_behind_1 : MS := (.exp (.call 19 [(.v 1)]))
def s_cards_behind_2 : MS := (.par [2] [(.bin .add (.bin .mul (.lst [(.c (.int 0))]) (.v 0)) (.lst [(.c (.int 1))]))])
def s_cards_behind_3 : MS := (.for_ (.n 3) 1 [(.v 1)] f_cards_behind_0)
def s_cards_behind_4 : MS := (.ret (.b1 .tuple (.v 2)))
def b_cards_behind : List MS := [s_cards_behind_0, s_cards_behind_1, s_cards_behind_2, s_cards_behind_3, s_cards_behind_4]
def m_cards_behind : Sem := runDef G20 2 4 b_cards_behind
theorem h_cards_behind : trS N_cards_behind fs20 cs xs tw 60 (defScope (topS 30)) (fun _ => true) (defBody (topS 30)) = b_cards_behind := by kernel_rfl
theorem c_cards_behind : (∀ as env, ev G20 (.call 5 as) env = (evs G20 as env).bind (D.callC m_check_life)) ∧ (∀ as env, ev G20 (.call 12 as) env = (evs G20 as env).bind (D.callC m_step_of)) ∧ (∀ as env, ev G20 (.call 19 as) env = (evs G20 as env).bind (D.callC m_check_rounds)) :=
  ⟨fun _ _ => D.ev_call _ _ _ _ _ rfl, fun _ _ => D.ev_call _ _ _ _ _ rfl, fun _ _ => D.ev_call _ _ _ _ _ rfl⟩
theorem r_cards_behind (w0 w1 : W) : m_cards_behind [w0, w1] = D.give 2 (exs G20 b_cards_behind ([some w0, some w1, none, none])) := D.run_all rfl (by decide +kernel)
theorem sc_cards_behind : FnScope N_cards_behind ["life", "rounds"] (defScope (topS 30)) := ⟨rfl, rfl, rfl, by decide +kernel, rfl, by decide +kernel, by decide +kernel⟩
abbrev fs21 : List (Str × Nat × Nat) := ("cards_behind", 20, 2) :: fs20
def G21 : Tab := fun i => if i = 20 then some m_cards_behind else G20 i
/-- 21 _law_rounds_hold: 0=cur 1=born 2=turn 3=rows 4=at 5=whole 6=goal 7=fits_in 8=told 9=spoiled 10=life 11=rounds 12=old 13=left -/
def N_law_rounds_hold : List Str := ["cur", "born", "turn", "rows", "at", "whole", "goal", "fits_in", "told", "spoiled", "life", "rounds", "old", "left"]
def f_law_rounds_hold_0 : List MS := [(.exp (.app 1 (.b1 .sum (.slc (.v 1) (some (.b1 .max (.lst [(.c (.int 0)), (.bin .sub (.v 2) (.v 10))]))) none))))]
def f_law_rounds_hold_1 : List MS := [(.par [12] [(.b1 .sum (.slc (.v 1) none (some (.b1 .max (.lst [(.c (.int 0)), (.bin .add (.bin .sub (.v 4) (.v 10)) (.c (.int 1)))])))))]), (.exp (.app 3 (.bin .add (.tup [(.v 12)]) (.b1 .tuple (.lc [13] (.n 13) 2 [(.c (.int 1)), (.bin .add (.v 10) (.c (.int 1)))] [] (.ife (.cmp .ge (.bin .add (.bin .sub (.v 4) (.v 10)) (.v 13)) (.c (.int 0))) (.sub (.v 1) (.bin .add (.bin .sub (.v 4) (.v 10)) (.v 13))) (.c (.int 0))))))))]
def s_law_rounds_hold_0 : MS := (.par [10, 11] [(.call 2 [(.v 0), (.lst [(.c (.int 1)), (.c (.int 2)), (.c (.int 3)), (.bin .add (.c (.int 1)) (.call 1 [(.v 0), (.c (.int 12))])), (.c (.int 1000))])]), (.call 2 [(.v 0), (.lst [(.c (.int 0)), (.c (.int 1)), (.c (.int 60)), (.call 1 [(.v 0), (.c (.int 61))])])])])
def s_law_rounds_hold_1 : MS := (.par [1] [(.lst [(.c (.int 1))])])
def s_law_rounds_hold_2 : MS := (.for_ (.n 2) 2 [(.c (.int 1)), (.bin .add (.v 11) (.c (.int 1)))] f_law_rounds_hold_0)
def s_law_rounds_hold_3 : MS := (.par [3] [(.lst [])])
def s_law_rounds_hold_4 : MS := (.for_ (.n 4) 1 [(.bin .add (.v 11) (.c (.int 1)))] f_law_rounds_hold_1)
def s_law_rounds_hold_5 : MS := (.ite (.not (.call 8 [(.call 20 [(.v 10), (.v 11)]), (.sub (.v 3) (.neg (.c (.int 1))))])) [(.ret (.c (.bool false)))] [])
def s_law_rounds_hold_6 : MS := (.par [5] [(.b1 .sum (.sub (.v 3) (.neg (.c (.int 1)))))])
def s_law_rounds_hold_7 : MS := (.par [6] [(.b1 .min (.lst [(.bin .pow (.c (.int 10)) (.c (.int 12))), (.b1 .max (.lst [(.c (.int 1)), (.bin .add (.v 5) (.call 2 [(.v 0), (.lst [(.c (.int 0)), (.c (.int 0)), (.c (.int 1)), (.neg (.c (.int 1)))])]))]))]))])
def s_law_rounds_hold_8 : MS := (.par [7] [(.lc [4] (.n 4) 1 [(.bin .add (.v 11) (.c (.int 1)))] [(.cmp .ge (.b1 .sum (.sub (.v 3) (.v 4))) (.v 6))] (.v 4))])
def s_law_rounds_hold_9 : MS := (.par [8] [(.call 13 [(.v 10), (.v 6)])])
def s_law_rounds_hold_10 : MS := (.ite (.or (.and (.v 7) (.cmp .ne (.v 8) (.sub (.v 7) (.c (.int 0))))) (.or (.and (.not (.v 7)) (.and (.cmp .notN (.v 8) (.c .none)) (.cmp .le (.v 8) (.v 11)))) (.and (.not (.v 7)) (.and (.cmp .eq (.v 11) (.c (.int 60))) (.cmp .notN (.v 8) (.c .none)))))) [(.ret (.c (.bool false)))] [])
def s_law_rounds_hold_11 : MS := (.ite (.cmp .notN (.call 14 [(.v 10), (.b1 .tuple (.v 3))]) (.c .none)) [(.ret (.c (.bool false)))] [])
def s_law_rounds_hold_12 : MS := (.par [9] [(.bin .add (.b1 .tuple (.slc (.v 3) none (some (.neg (.c (.int 1)))))) (.tup [(.bin .add (.slc (.sub (.v 3) (.neg (.c (.int 1)))) none (some (.neg (.c (.int 1))))) (.tup [(.bin .add (.sub (.sub (.v 3) (.neg (.c (.int 1)))) (.neg (.c (.int 1)))) (.c (.int 1)))]))]))])
def s_law_rounds_hold_13 : MS := (.ret (.cmp .eq (.call 18 [(.c (D.fnD "accept_rounds")), (.lst [(.v 10), (.v 9)])]) (.ife (.cmp .eq (.v 11) (.c (.int 0))) (.c (.str (PySem.Str.ofString "paper begin"))) (.c (.str (PySem.Str.ofString "paper round"))))))
def b_law_rounds_hold : List MS := [s_law_rounds_hold_0, s_law_rounds_hold_1, s_law_rounds_hold_2, s_law_rounds_hold_3, s_law_rounds_hold_4, s_law_rounds_hold_5, s_law_rounds_hold_6, s_law_rounds_hold_7, s_law_rounds_hold_8, s_law_rounds_hold_9, s_law_rounds_hold_10, s_law_rounds_hold_11, s_law_rounds_hold_12, s_law_rounds_hold_13]
def m_law_rounds_hold : Sem := runDef G21 1 14 b_law_rounds_hold
theorem h_law_rounds_hold : trS N_law_rounds_hold fs21 cs xs tw 60 (defScope (topS 47)) (fun _ => true) (defBody (topS 47)) = b_law_rounds_hold := by kernel_rfl
theorem c_law_rounds_hold : (∀ as env, ev G21 (.call 1 as) env = (evs G21 as env).bind (D.callC m_law_draw)) ∧ (∀ as env, ev G21 (.call 2 as) env = (evs G21 as env).bind (D.callC m_law_pick)) ∧ (∀ as env, ev G21 (.call 8 as) env = (evs G21 as env).bind (D.callC m_law_same)) ∧ (∀ as env, ev G21 (.call 13 as) env = (evs G21 as env).bind (D.callC m_rounds_for)) ∧ (∀ as env, ev G21 (.call 14 as) env = (evs G21 as env).bind (D.callC m_accept_rounds)) ∧ (∀ as env, ev G21 (.call 18 as) env = (evs G21 as env).bind (D.callC m_law_asked)) ∧ (∀ as env, ev G21 (.call 20 as) env = (evs G21 as env).bind (D.callC m_cards_behind)) :=
  ⟨fun _ _ => D.ev_call _ _ _ _ _ rfl, fun _ _ => D.ev_call _ _ _ _ _ rfl, fun _ _ => D.ev_call _ _ _ _ _ rfl, fun _ _ => D.ev_call _ _ _ _ _ rfl, fun _ _ => D.ev_call _ _ _ _ _ rfl, fun _ _ => D.ev_call _ _ _ _ _ rfl, fun _ _ => D.ev_call _ _ _ _ _ rfl⟩
theorem r_law_rounds_hold (w0 : W) : m_law_rounds_hold [w0] = D.give 1 (exs G21 b_law_rounds_hold ([some w0, none, none, none, none, none, none, none, none, none, none, none, none, none])) := D.run_all rfl (by decide +kernel)
theorem sc_law_rounds_hold : FnScope N_law_rounds_hold ["cur"] (defScope (topS 47)) := ⟨rfl, rfl, rfl, by decide +kernel, rfl, by decide +kernel, by decide +kernel⟩
abbrev fs22 : List (Str × Nat × Nat) := ("_law_rounds_hold", 21, 1) :: fs21
def G22 : Tab := fun i => if i = 21 then some m_law_rounds_hold else G21 i
/-- 22 fewest_copies: 0=life 1=reads -/
def N_fewest_copies : List Str := ["life", "reads"]
def s_fewest_copies_0 : MS := (.exp (.call 5 [(.v 0)]))
def s_fewest_copies_1 : MS := (.ite (.or (.not (.call 4 [(.v 1)])) (.not (.chn .le .le (.c (.int 0)) (.v 1) (.c (.int 1000000000000))))) [(.rai 2 (.c (.str (PySem.Str.ofString "reads"))))] [])
def s_fewest_copies_2 : MS := (.ite (.cmp .le (.v 1) (.v 0)) [(.ret (.c (.int 0)))] [])
def s_fewest_copies_3 : MS := (.ite (.cmp .eq (.v 0) (.c (.int 1))) [(.ret (.c .none))] [])
def s_fewest_copies_4 : MS := (.ret (.neg (.bin .fdiv (.neg (.bin .sub (.v 1) (.v 0))) (.bin .sub (.v 0) (.c (.int 1))))))
def b_fewest_copies : List MS := [s_fewest_copies_0, s_fewest_copies_1, s_fewest_copies_2, s_fewest_copies_3, s_fewest_copies_4]
def m_fewest_copies : Sem := runDef G22 2 2 b_fewest_copies
theorem h_fewest_copies : trS N_fewest_copies fs22 cs xs tw 60 (defScope (topS 17)) (fun _ => true) (defBody (topS 17)) = b_fewest_copies := by kernel_rfl
theorem c_fewest_copies : (∀ as env, ev G22 (.call 4 as) env = (evs G22 as env).bind (D.callC m_is_integer)) ∧ (∀ as env, ev G22 (.call 5 as) env = (evs G22 as env).bind (D.callC m_check_life)) :=
  ⟨fun _ _ => D.ev_call _ _ _ _ _ rfl, fun _ _ => D.ev_call _ _ _ _ _ rfl⟩
theorem r_fewest_copies (w0 w1 : W) : m_fewest_copies [w0, w1] = D.give 2 (exs G22 b_fewest_copies ([some w0, some w1])) := D.run_all rfl (by decide +kernel)
theorem sc_fewest_copies : FnScope N_fewest_copies ["life", "reads"] (defScope (topS 17)) := ⟨rfl, rfl, rfl, by decide +kernel, rfl, by decide +kernel, by decide +kernel⟩
abbrev fs23 : List (Str × Nat × Nat) := ("fewest_copies", 22, 2) :: fs22
def G23 : Tab := fun i => if i = 22 then some m_fewest_copies else G22 i
/-- 23 check_copies: 0=copies -/
def N_check_copies : List Str := ["copies"]
def s_check_copies_0 : MS := (.ite (.or (.not (.call 4 [(.v 0)])) (.not (.chn .le .le (.c (.int 0)) (.v 0) (.c (.int 1000000000000))))) [(.rai 2 (.c (.str (PySem.Str.ofString "copies"))))] [])
def b_check_copies : List MS := [s_check_copies_0]
def m_check_copies : Sem := runDef G23 1 1 b_check_copies
theorem h_check_copies : trS N_check_copies fs23 cs xs tw 60 (defScope (topS 15)) (fun _ => true) (defBody (topS 15)) = b_check_copies := by kernel_rfl
theorem c_check_copies : ∀ as env, ev G23 (.call 4 as) env = (evs G23 as env).bind (D.callC m_is_integer) := fun _ _ => D.ev_call _ _ _ _ _ rfl
theorem r_check_copies (w0 : W) : m_check_copies [w0] = D.give 1 (exs G23 b_check_copies ([some w0])) := D.run_all rfl (by decide +kernel)
theorem sc_check_copies : FnScope N_check_copies ["copies"] (defScope (topS 15)) := ⟨rfl, rfl, rfl, by decide +kernel, rfl, by decide +kernel, by decide +kernel⟩
abbrev fs24 : List (Str × Nat × Nat) := ("check_copies", 23, 1) :: fs23
def G24 : Tab := fun i => if i = 23 then some m_check_copies else G23 i
/-- 24 reads_with: 0=life 1=copies -/
def N_reads_with : List Str := ["life", "copies"]
def s_reads_with_0 : MS := (.exp (.call 5 [(.v 0)]))
def s_reads_with_1 : MS := (.exp (.call 23 [(.v 1)]))
def s_reads_with_2 : MS := (.ret (.bin .add (.v 0) (.bin .mul (.v 1) (.bin .sub (.v 0) (.c (.int 1))))))
def b_reads_with : List MS := [s_reads_with_0, s_reads_with_1, s_reads_with_2]
def m_reads_with : Sem := runDef G24 2 2 b_reads_with
theorem h_reads_with : trS N_reads_with fs24 cs xs tw 60 (defScope (topS 16)) (fun _ => true) (defBody (topS 16)) = b_reads_with := by kernel_rfl
theorem c_reads_with : (∀ as env, ev G24 (.call 5 as) env = (evs G24 as env).bind (D.callC m_check_life)) ∧ (∀ as env, ev G24 (.call 23 as) env = (evs G24 as env).bind (D.callC m_check_copies)) :=
  ⟨fun _ _ => D.ev_call _ _ _ _ _ rfl, fun _ _ => D.ev_call _ _ _ _ _ rfl⟩
theorem r_reads_with (w0 w1 : W) : m_reads_with [w0, w1] = D.give 2 (exs G24 b_reads_with ([some w0, some w1])) := D.run_all rfl (by decide +kernel)
theorem sc_reads_with : FnScope N_reads_with ["life", "copies"] (defScope (topS 16)) := ⟨rfl, rfl, rfl, by decide +kernel, rfl, by decide +kernel, by decide +kernel⟩
abbrev fs25 : List (Str × Nat × Nat) := ("reads_with", 24, 2) :: fs24
def G25 : Tab := fun i => if i = 24 then some m_reads_with else G24 i
/-- 25 _law_reads_hold: 0=cur 1=whole 2=reads 3=told 4=life 5=copies -/
def N_law_reads_hold : List Str := ["cur", "whole", "reads", "told", "life", "copies"]
def s_law_reads_hold_0 : MS := (.par [4, 5] [(.call 2 [(.v 0), (.lst [(.c (.int 1)), (.c (.int 2)), (.c (.int 1000)), (.bin .add (.c (.int 1)) (.call 1 [(.v 0), (.c (.int 1000))]))])]), (.call 2 [(.v 0), (.lst [(.c (.int 0)), (.c (.int 1)), (.c (.int 7)), (.call 1 [(.v 0), (.bin .pow (.c (.int 10)) (.c (.int 9)))]), (.bin .pow (.c (.int 10)) (.c (.int 12)))])])])
def s_law_reads_hold_1 : MS := (.par [1] [(.bin .sub (.bin .mul (.v 4) (.bin .add (.v 5) (.c (.int 1)))) (.v 5))])
def s_law_reads_hold_2 : MS := (.ite (.not (.call 8 [(.call 24 [(.v 4), (.v 5)]), (.v 1)])) [(.ret (.c (.bool false)))] [])
def s_law_reads_hold_3 : MS := (.par [2] [(.call 2 [(.v 0), (.lst [(.c (.int 0)), (.v 4), (.bin .add (.v 4) (.c (.int 1))), (.b1 .min (.lst [(.bin .pow (.c (.int 10)) (.c (.int 12))), (.v 1)])), (.b1 .min (.lst [(.bin .pow (.c (.int 10)) (.c (.int 12))), (.bin .add (.v 1) (.c (.int 1)))])), (.bin .pow (.c (.int 10)) (.c (.int 12))), (.call 1 [(.v 0), (.c (.int 5000))])])])])
def s_law_reads_hold_4 : MS := (.par [3] [(.call 22 [(.v 4), (.v 2)])])
def s_law_reads_hold_5 : MS := (.ite (.cmp .isN (.v 3) (.c .none)) [(.ret (.and (.cmp .eq (.v 4) (.c (.int 1))) (.cmp .gt (.v 2) (.c (.int 1)))))] [])
def s_law_reads_hold_6 : MS := (.ite (.or (.not (.isi (.v 3) .int)) (.or (.isi (.v 3) .bool) (.cmp .lt (.v 3) (.c (.int 0))))) [(.ret (.c (.bool false)))] [])
def s_law_reads_hold_7 : MS := (.ret (.and (.cmp .ge (.bin .sub (.bin .mul (.v 4) (.bin .add (.v 3) (.c (.int 1)))) (.v 3)) (.v 2)) (.or (.cmp .eq (.v 3) (.c (.int 0))) (.cmp .lt (.bin .add (.bin .sub (.bin .mul (.v 4) (.v 3)) (.v 3)) (.c (.int 1))) (.v 2)))))
def b_law_reads_hold : List MS := [s_law_reads_hold_0, s_law_reads_hold_1, s_law_reads_hold_2, s_law_reads_hold_3, s_law_reads_hold_4, s_law_reads_hold_5, s_law_reads_hold_6, s_law_reads_hold_7]
def m_law_reads_hold : Sem := runDef G25 1 6 b_law_reads_hold
theorem h_law_reads_hold : trS N_law_reads_hold fs25 cs xs tw 60 (defScope (topS 41)) (fun _ => true) (defBody (topS 41)) = b_law_reads_hold := by kernel_rfl
theorem c_law_reads_hold : (∀ as env, ev G25 (.call 1 as) env = (evs G25 as env).bind (D.callC m_law_draw)) ∧ (∀ as env, ev G25 (.call 2 as) env = (evs G25 as env).bind (D.callC m_law_pick)) ∧ (∀ as env, ev G25 (.call 8 as) env = (evs G25 as env).bind (D.callC m_law_same)) ∧ (∀ as env, ev G25 (.call 22 as) env = (evs G25 as env).bind (D.callC m_fewest_copies)) ∧ (∀ as env, ev G25 (.call 24 as) env = (evs G25 as env).bind (D.callC m_reads_with)) :=
  ⟨fun _ _ => D.ev_call _ _ _ _ _ rfl, fun _ _ => D.ev_call _ _ _ _ _ rfl, fun _ _ => D.ev_call _ _ _ _ _ rfl, fun _ _ => D.ev_call _ _ _ _ _ rfl, fun _ _ => D.ev_call _ _ _ _ _ rfl⟩
theorem r_law_reads_hold (w0 : W) : m_law_reads_hold [w0] = D.give 1 (exs G25 b_law_reads_hold ([some w0, none, none, none, none, none])) := D.run_all rfl (by decide +kernel)
theorem sc_law_reads_hold : FnScope N_law_reads_hold ["cur"] (defScope (topS 41)) := ⟨rfl, rfl, rfl, by decide +kernel, rfl, by decide +kernel, by decide +kernel⟩
abbrev fs26 : List (Str × Nat × Nat) := ("_law_reads_hold", 25, 1) :: fs25
def G26 : Tab := fun i => if i = 25 then some m_law_reads_hold else G25 i
/-- 26 check_uses: 0=uses 1=many 2=own -/
def N_check_uses : List Str := ["uses", "many", "own"]
def s_check_uses_0 : MS := (.ite (.or (.not (.isi (.v 0) .tuple)) (.cmp .gt (.b1 .len (.v 0)) (.bin .mul (.c (.int 60)) (.c (.int 40))))) [(.rai 2 (.c (.str (PySem.Str.ofString "uses"))))] [])
def s_check_uses_1 : MS := (.ite (.not (.b1 .all (.lc [2] (.n 2) 0 [(.v 0)] [] (.and (.call 4 [(.v 2)]) (.chn .le .lt (.c (.int 0)) (.v 2) (.v 1)))))) [(.rai 2 (.c (.str (PySem.Str.ofString "uses"))))] [])
def b_check_uses : List MS := [s_check_uses_0, s_check_uses_1]
def m_check_uses : Sem := runDef G26 2 3 b_check_uses
theorem h_check_uses : trS N_check_uses fs26 cs xs tw 60 (defScope (topS 18)) (fun _ => true) (defBody (topS 18)) = b_check_uses := by kernel_rfl
theorem c_check_uses : ∀ as env, ev G26 (.call 4 as) env = (evs G26 as env).bind (D.callC m_is_integer) := fun _ _ => D.ev_call _ _ _ _ _ rfl
theorem r_check_uses (w0 w1 : W) : m_check_uses [w0, w1] = D.give 2 (exs G26 b_check_uses ([some w0, some w1, none])) := D.run_all rfl (by decide +kernel)
theorem sc_check_uses : FnScope N_check_uses ["uses", "many"] (defScope (topS 18)) := ⟨rfl, rfl, rfl, by decide +kernel, rfl, by decide +kernel, by decide +kernel⟩
abbrev fs27 : List (Str × Nat × Nat) := ("check_uses", 26, 2) :: fs26
def G27 : Tab := fun i => if i = 26 then some m_check_uses else G26 i
/-- 27 left_behind: 0=lives 1=uses 2=rows 3=at 4=own -/
def N_left_behind : List Str := ["lives", "uses", "rows", "at", "own"]
def f_left_behind_0 : List MS := [(.ite (.cmp .eq (.sub (.v 2) (.v 4)) (.c (.int 0))) [(.ret (.tup [(.b1 .tuple (.v 2)), (.v 3)]))] []), (.augs 2 (.v 4) .sub (.c (.int 1)))]
def s_left_behind_0 : MS := (.par [2] [(.b1 .list (.v 0))])
def s_left_behind_1 : MS := (.for_ (.t [(.n 3), (.n 4)]) 4 [(.v 1)] f_left_behind_0)
def s_left_behind_2 : MS := (.ret (.tup [(.b1 .tuple (.v 2)), (.c .none)]))
def b_left_behind : List MS := [s_left_behind_0, s_left_behind_1, s_left_behind_2]
def m_left_behind : Sem := runDef G27 2 5 b_left_behind
theorem h_left_behind : trS N_left_behind fs27 cs xs tw 60 (defScope (topS 20)) (fun _ => true) (defBody (topS 20)) = b_left_behind := by kernel_rfl
theorem r_left_behind (w0 w1 : W) : m_left_behind [w0, w1] = D.give 2 (exs G27 b_left_behind ([some w0, some w1, none, none, none])) := D.run_all rfl (by decide +kernel)
theorem sc_left_behind : FnScope N_left_behind ["lives", "uses"] (defScope (topS 20)) := ⟨rfl, rfl, rfl, by decide +kernel, rfl, by decide +kernel, by decide +kernel⟩
abbrev fs28 : List (Str × Nat × Nat) := ("left_behind", 27, 2) :: fs27
def G28 : Tab := fun i => if i = 27 then some m_left_behind else G27 i
/-- 28 judge_uses: 0=lives 1=uses 2=rows 3=at -/
def N_judge_uses : List Str := ["lives", "uses", "rows", "at"]
def s_judge_uses_0 : MS := (.exp (.call 15 [(.v 0)]))
def s_judge_uses_1 : MS := (.exp (.call 26 [(.v 1), (.b1 .len (.v 0))]))
def s_judge_uses_2 : MS := (.asg (.t [(.n 2), (.n 3)]) (.call 27 [(.v 0), (.v 1)]))
def s_judge_uses_3 : MS := (.ret (.ife (.cmp .isN (.v 3) (.c .none)) (.tup [(.c (.str (PySem.Str.ofString "left"))), (.v 2)]) (.tup [(.c (.str (PySem.Str.ofString "worn"))), (.v 3), (.sub (.v 1) (.v 3))])))
def b_judge_uses : List MS := [s_judge_uses_0, s_judge_uses_1, s_judge_uses_2, s_judge_uses_3]
def m_judge_uses : Sem := runDef G28 2 4 b_judge_uses
theorem h_judge_uses : trS N_judge_uses fs28 cs xs tw 60 (defScope (topS 21)) (fun _ => true) (defBody (topS 21)) = b_judge_uses := by kernel_rfl
theorem c_judge_uses : (∀ as env, ev G28 (.call 15 as) env = (evs G28 as env).bind (D.callC m_check_lives)) ∧ (∀ as env, ev G28 (.call 26 as) env = (evs G28 as env).bind (D.callC m_check_uses)) ∧ (∀ as env, ev G28 (.call 27 as) env = (evs G28 as env).bind (D.callC m_left_behind)) :=
  ⟨fun _ _ => D.ev_call _ _ _ _ _ rfl, fun _ _ => D.ev_call _ _ _ _ _ rfl, fun _ _ => D.ev_call _ _ _ _ _ rfl⟩
theorem r_judge_uses (w0 w1 : W) : m_judge_uses [w0, w1] = D.give 2 (exs G28 b_judge_uses ([some w0, some w1, none, none])) := D.run_all rfl (by decide +kernel)
theorem sc_judge_uses : FnScope N_judge_uses ["lives", "uses"] (defScope (topS 21)) := ⟨rfl, rfl, rfl, by decide +kernel, rfl, by decide +kernel, by decide +kernel⟩
abbrev fs29 : List (Str × Nat × Nat) := ("judge_uses", 28, 2) :: fs28
def G29 : Tab := fun i => if i = 28 then some m_judge_uses else G28 i
/-- 29 even_uses: 0=lives 1=many 2=rows 3=level 4=taken 5=spare 6=at 7=own -/
def N_even_uses : List Str := ["lives", "many", "rows", "level", "taken", "spare", "at", "own"]
def f_even_uses_0 : List MS := [(.aug 3 .sub (.c (.int 1)))]
def f_even_uses_1 : List MS := [(.ite (.and (.cmp .gt (.v 5) (.c (.int 0))) (.cmp .gt (.sub (.v 4) (.v 6)) (.c (.int 0)))) [(.augs 4 (.v 6) .sub (.c (.int 1))), (.aug 5 .sub (.c (.int 1)))] [])]
def s_even_uses_0 : MS := (.exp (.call 15 [(.v 0)]))
def s_even_uses_1 : MS := (.ite (.or (.not (.call 4 [(.v 1)])) (.not (.chn .le .le (.c (.int 0)) (.v 1) (.bin .mul (.c (.int 40)) (.c (.int 1000)))))) [(.rai 2 (.c (.str (PySem.Str.ofString "many"))))] [])
def s_even_uses_2 : MS := (.ite (.cmp .lt (.b1 .sum (.v 0)) (.v 1)) [(.ret (.c .none))] [])
def s_even_uses_3 : MS := (.par [2] [(.b1 .list (.v 0))])
def s_even_uses_4 : MS := (.par [3] [(.b1 .max (.bin .add (.lst [(.c (.int 0))]) (.v 2)))])
def s_even_uses_5 : MS := (.whl (.cmp .lt (.b1 .sum (.lc [7] (.n 7) 0 [(.v 0)] [] (.b2 .max (.c (.int 0)) (.bin .sub (.v 7) (.v 3))))) (.v 1)) f_even_uses_0)
def s_even_uses_6 : MS := (.par [4] [(.lc [7] (.n 7) 0 [(.v 0)] [] (.b2 .max (.c (.int 0)) (.bin .sub (.v 7) (.v 3))))])
def s_even_uses_7 : MS := (.par [5] [(.bin .sub (.b1 .sum (.v 4)) (.v 1))])
def s_even_uses_8 : MS := (.for_ (.n 6) 1 [(.b1 .len (.v 0))] f_even_uses_1)
def s_even_uses_9 : MS := (.ret (.b1 .tuple (.v 4)))
def b_even_uses : List MS := [s_even_uses_0, s_even_uses_1, s_even_uses_2, s_even_uses_3, s_even_uses_4, s_even_uses_5, s_even_uses_6, s_even_uses_7, s_even_uses_8, s_even_uses_9]
def m_even_uses : Sem := runDef G29 2 8 b_even_uses
theorem h_even_uses : trS N_even_uses fs29 cs xs tw 60 (defScope (topS 22)) (fun _ => true) (defBody (topS 22)) = b_even_uses := by kernel_rfl
theorem c_even_uses : (∀ as env, ev G29 (.call 4 as) env = (evs G29 as env).bind (D.callC m_is_integer)) ∧ (∀ as env, ev G29 (.call 15 as) env = (evs G29 as env).bind (D.callC m_check_lives)) :=
  ⟨fun _ _ => D.ev_call _ _ _ _ _ rfl, fun _ _ => D.ev_call _ _ _ _ _ rfl⟩
theorem r_even_uses (w0 w1 : W) : m_even_uses [w0, w1] = D.give 2 (exs G29 b_even_uses ([some w0, some w1, none, none, none, none, none, none])) := D.run_all rfl (by decide +kernel)
theorem sc_even_uses : FnScope N_even_uses ["lives", "many"] (defScope (topS 22)) := ⟨rfl, rfl, rfl, by decide +kernel, rfl, by decide +kernel, by decide +kernel⟩
abbrev fs30 : List (Str × Nat × Nat) := ("even_uses", 29, 2) :: fs29
def G30 : Tab := fun i => if i = 29 then some m_even_uses else G29 i
/-- 30 _law_uses_hold: 0=cur 1=many 2=lives 3=uses 4=at 5=whole 6=goal 7=taken 8=spare 9=least_in 10=heard 11=left 12=due 13=level 14=high 15=middle 16=enough 17=own 18=k -/
def N_law_uses_hold : List Str := ["cur", "many", "lives", "uses", "at", "whole", "goal", "taken", "spare", "least_in", "heard", "left", "due", "level", "high", "middle", "enough", "own", "k"]
def f_law_uses_hold_0 : List MS := [(.ite (.and (.cmp .eq (.sub (.v 11) (.sub (.v 3) (.v 4))) (.c (.int 0))) (.cmp .isN (.v 12) (.c .none))) [(.par [12] [(.tup [(.c (.str (PySem.Str.ofString "worn"))), (.v 4), (.sub (.v 3) (.v 4))])])] []), (.sets [(11, (.sub (.v 3) (.v 4)))] [(.bin .sub (.sub (.v 11) (.sub (.v 3) (.v 4))) (.c (.int 1)))])]
def f_law_uses_hold_1 : List MS := [(.par [15] [(.bin .fdiv (.bin .add (.bin .add (.v 13) (.v 14)) (.c (.int 1))) (.c (.int 2)))]), (.par [16] [(.cmp .ge (.b1 .sum (.lc [17] (.n 17) 0 [(.v 2)] [] (.b1 .max (.lst [(.c (.int 0)), (.bin .sub (.v 17) (.v 15))])))) (.v 6))]), (.par [13, 14] [(.ife (.v 16) (.v 15) (.v 13)), (.ife (.v 16) (.v 14) (.bin .sub (.v 15) (.c (.int 1))))])]
def f_law_uses_hold_2 : List MS := [(.ite (.and (.cmp .gt (.sub (.v 7) (.v 4)) (.c (.int 0))) (.cmp .gt (.v 8) (.c (.int 0)))) [(.mix [(7, some (.v 4)), (8, none)] [(.bin .sub (.sub (.v 7) (.v 4)) (.c (.int 1))), (.bin .sub (.v 8) (.c (.int 1)))])] [])]
def s_law_uses_hold_0 : MS := (.par [1] [(.bin .add (.c (.int 1)) (.call 1 [(.v 0), (.call 2 [(.v 0), (.lst [(.c (.int 4)), (.c (.int 40))])])]))])
def s_law_uses_hold_1 : MS := (.par [2] [(.b1 .tuple (.lc [18] (.n 18) 1 [(.v 1)] [] (.call 2 [(.v 0), (.lst [(.c (.int 0)), (.c (.int 1)), (.call 1 [(.v 0), (.c (.int 9))]), (.call 2 [(.v 0), (.lst [(.c (.int 4)), (.c (.int 1000))])])])])))])
def s_law_uses_hold_2 : MS := (.par [3] [(.b1 .tuple (.lc [18] (.n 18) 1 [(.call 1 [(.v 0), (.call 2 [(.v 0), (.lst [(.c (.int 5)), (.c (.int 40)), (.c (.int 400))])])])] [] (.call 1 [(.v 0), (.v 1)])))])
def s_law_uses_hold_3 : MS := (.par [11, 12] [(.b1 .list (.v 2)), (.c .none)])
def s_law_uses_hold_4 : MS := (.for_ (.n 4) 1 [(.b1 .len (.v 3))] f_law_uses_hold_0)
def s_law_uses_hold_5 : MS := (.ite (.not (.call 8 [(.call 28 [(.v 2), (.v 3)]), (.ife (.cmp .isN (.v 12) (.c .none)) (.tup [(.c (.str (PySem.Str.ofString "left"))), (.b1 .tuple (.v 11))]) (.v 12))])) [(.ret (.c (.bool false)))] [])
def s_law_uses_hold_6 : MS := (.par [5] [(.b1 .sum (.v 2))])
def s_law_uses_hold_7 : MS := (.par [6] [(.call 2 [(.v 0), (.lst [(.c (.int 0)), (.v 5), (.b1 .min (.lst [(.c (.int 40000)), (.bin .add (.v 5) (.c (.int 1)))])), (.call 1 [(.v 0), (.bin .add (.v 5) (.c (.int 1)))]), (.bin .fdiv (.v 5) (.c (.int 2)))])])])
def s_law_uses_hold_8 : MS := (.ite (.cmp .gt (.v 6) (.v 5)) [(.ret (.cmp .isN (.call 29 [(.v 2), (.v 6)]) (.c .none)))] [])
def s_law_uses_hold_9 : MS := (.par [13, 14] [(.c (.int 0)), (.c (.int 1000))])
def s_law_uses_hold_10 : MS := (.whl (.cmp .lt (.v 13) (.v 14)) f_law_uses_hold_1)
def s_law_uses_hold_11 : MS := (.par [7] [(.lc [17] (.n 17) 0 [(.v 2)] [] (.b1 .max (.lst [(.c (.int 0)), (.bin .sub (.v 17) (.v 13))])))])
def s_law_uses_hold_12 : MS := (.par [8] [(.bin .sub (.b1 .sum (.v 7)) (.v 6))])
def s_law_uses_hold_13 : MS := (.for_ (.n 4) 1 [(.v 1)] f_law_uses_hold_2)
def s_law_uses_hold_14 : MS := (.par [7] [(.b1 .tuple (.v 7))])
def s_law_uses_hold_15 : MS := (.par [9] [(.b1 .min (.lc [4] (.n 4) 1 [(.v 1)] [] (.bin .sub (.sub (.v 2) (.v 4)) (.sub (.v 7) (.v 4)))))])
def s_law_uses_hold_16 : MS := (.ite (.or (.not (.call 8 [(.call 29 [(.v 2), (.v 6)]), (.v 7)])) (.cmp .notN (.call 16 [(.v 2), (.v 6), (.v 7), (.v 9)]) (.c .none))) [(.ret (.c (.bool false)))] [])
def s_law_uses_hold_17 : MS := (.par [10] [(.lst [(.call 18 [(.c (D.fnD "accept_uses")), (.lst [(.v 2), (.v 6), (.v 7), (.bin .add (.v 9) (.c (.int 1)))])]), (.call 18 [(.c (D.fnD "accept_uses")), (.lst [(.v 2), (.v 6), (.bin .add (.slc (.v 7) none (some (.neg (.c (.int 1))))) (.tup [(.bin .add (.sub (.v 7) (.neg (.c (.int 1)))) (.c (.int 1)))])), (.c (.int 0))])])])])
def s_law_uses_hold_18 : MS := (.ret (.call 8 [(.v 10), (.lst [(.c (.str (PySem.Str.ofString "paper left"))), (.c (.str (PySem.Str.ofString "paper many")))])]))
def b_law_uses_hold : List MS := [s_law_uses_hold_0, s_law_uses_hold_1, s_law_uses_hold_2, s_law_uses_hold_3, s_law_uses_hold_4, s_law_uses_hold_5, s_law_uses_hold_6, s_law_uses_hold_7, s_law_uses_hold_8, s_law_uses_hold_9, s_law_uses_hold_10, s_law_uses_hold_11, s_law_uses_hold_12, s_law_uses_hold_13, s_law_uses_hold_14, s_law_uses_hold_15, s_law_uses_hold_16, s_law_uses_hold_17, s_law_uses_hold_18]
def m_law_uses_hold : Sem := runDef G30 1 19 b_law_uses_hold
theorem h_law_uses_hold : trS N_law_uses_hold fs30 cs xs tw 60 (defScope (topS 42)) (fun _ => true) (defBody (topS 42)) = b_law_uses_hold := by kernel_rfl
theorem c_law_uses_hold : (∀ as env, ev G30 (.call 1 as) env = (evs G30 as env).bind (D.callC m_law_draw)) ∧ (∀ as env, ev G30 (.call 2 as) env = (evs G30 as env).bind (D.callC m_law_pick)) ∧ (∀ as env, ev G30 (.call 8 as) env = (evs G30 as env).bind (D.callC m_law_same)) ∧ (∀ as env, ev G30 (.call 16 as) env = (evs G30 as env).bind (D.callC m_accept_uses)) ∧ (∀ as env, ev G30 (.call 18 as) env = (evs G30 as env).bind (D.callC m_law_asked)) ∧ (∀ as env, ev G30 (.call 28 as) env = (evs G30 as env).bind (D.callC m_judge_uses)) ∧ (∀ as env, ev G30 (.call 29 as) env = (evs G30 as env).bind (D.callC m_even_uses)) :=
  ⟨fun _ _ => D.ev_call _ _ _ _ _ rfl, fun _ _ => D.ev_call _ _ _ _ _ rfl, fun _ _ => D.ev_call _ _ _ _ _ rfl, fun _ _ => D.ev_call _ _ _ _ _ rfl, fun _ _ => D.ev_call _ _ _ _ _ rfl, fun _ _ => D.ev_call _ _ _ _ _ rfl, fun _ _ => D.ev_call _ _ _ _ _ rfl⟩
theorem r_law_uses_hold (w0 : W) : m_law_uses_hold [w0] = D.give 1 (exs G30 b_law_uses_hold ([some w0, none, none, none, none, none, none, none, none, none, none, none, none, none, none, none, none, none, none])) := D.run_all rfl (by decide +kernel)
theorem sc_law_uses_hold : FnScope N_law_uses_hold ["cur"] (defScope (topS 42)) := ⟨rfl, rfl, rfl, by decide +kernel, rfl, by decide +kernel, by decide +kernel⟩
abbrev fs31 : List (Str × Nat × Nat) := ("_law_uses_hold", 30, 1) :: fs30
def G31 : Tab := fun i => if i = 30 then some m_law_uses_hold else G30 i
/-- 31 _law_done: 0=life 1=runs 2=ahead 3=left 4=at -/
def N_law_done : List Str := ["life", "runs", "ahead", "left", "at"]
def f_law_done_0 : List MS := [(.ite (.or (.and (.cmp .inn (.v 4) (.v 2)) (.cmp .lt (.v 3) (.c (.int 1)))) (.cmp .gt (.sub (.v 1) (.v 4)) (.ife (.cmp .inn (.v 4) (.v 2)) (.v 0) (.v 3)))) [(.ret (.tup [(.c (.str (PySem.Str.ofString "worn"))), (.v 4)]))] []), (.par [3] [(.bin .sub (.ife (.cmp .inn (.v 4) (.v 2)) (.v 0) (.v 3)) (.sub (.v 1) (.v 4)))])]
def s_law_done_0 : MS := (.par [3] [(.v 0)])
def s_law_done_1 : MS := (.for_ (.n 4) 1 [(.b1 .len (.v 1))] f_law_done_0)
def s_law_done_2 : MS := (.ret (.tup [(.c (.str (PySem.Str.ofString "enough"))), (.v 3)]))
def b_law_done : List MS := [s_law_done_0, s_law_done_1, s_law_done_2]
def m_law_done : Sem := runDef G31 3 5 b_law_done
theorem h_law_done : trS N_law_done fs31 cs xs tw 60 (defScope (topS 43)) (fun _ => true) (defBody (topS 43)) = b_law_done := by kernel_rfl
theorem r_law_done (w0 w1 w2 : W) : m_law_done [w0, w1, w2] = D.give 3 (exs G31 b_law_done ([some w0, some w1, some w2, none, none])) := D.run_all rfl (by decide +kernel)
theorem sc_law_done : FnScope N_law_done ["life", "runs", "ahead"] (defScope (topS 43)) := ⟨rfl, rfl, rfl, by decide +kernel, rfl, by decide +kernel, by decide +kernel⟩
abbrev fs32 : List (Str × Nat × Nat) := ("_law_done", 31, 3) :: fs31
def G32 : Tab := fun i => if i = 31 then some m_law_done else G31 i
/-- 32 _law_runs_hold: 0=cur 1=life 2=runs 3=rows 4=at 5=good 6=told 7=some 8=fewest 9=other 10=row 11=k -/
def N_law_runs_hold : List Str := ["cur", "life", "runs", "rows", "at", "good", "told", "some", "fewest", "other", "row", "k"]
def f_law_runs_hold_0 : List MS := [(.par [3] [(.bin .add (.v 3) (.lc [10] (.n 10) 0 [(.v 3)] [] (.bin .add (.v 10) (.tup [(.v 4)]))))])]
def s_law_runs_hold_0 : MS := (.par [1] [(.bin .add (.c (.int 1)) (.call 1 [(.v 0), (.call 2 [(.v 0), (.lst [(.c (.int 3)), (.c (.int 10))])])]))])
def s_law_runs_hold_1 : MS := (.par [2] [(.b1 .tuple (.lc [11] (.n 11) 1 [(.call 1 [(.v 0), (.c (.int 8))])] [] (.call 1 [(.v 0), (.call 2 [(.v 0), (.lst [(.bin .add (.v 1) (.c (.int 1))), (.bin .add (.v 1) (.c (.int 1))), (.bin .add (.v 1) (.c (.int 2))), (.c (.int 3))])])])))])
def s_law_runs_hold_2 : MS := (.par [3] [(.lst [(.tup [])])])
def s_law_runs_hold_3 : MS := (.for_ (.n 4) 1 [(.b1 .len (.v 2))] f_law_runs_hold_0)
def s_law_runs_hold_4 : MS := (.par [5] [(.lc [10] (.n 10) 0 [(.v 3)] [(.cmp .eq (.sub (.call 31 [(.v 1), (.v 2), (.v 10)]) (.c (.int 0))) (.c (.str (PySem.Str.ofString "enough"))))] (.v 10))])
def s_law_runs_hold_5 : MS := (.par [6] [(.call 7 [(.v 1), (.v 2)])])
def s_law_runs_hold_6 : MS := (.par [7] [(.call 2 [(.v 0), (.v 3)])])
def s_law_runs_hold_7 : MS := (.ite (.not (.call 8 [(.call 9 [(.v 1), (.v 2), (.v 7)]), (.call 31 [(.v 1), (.v 2), (.v 7)])])) [(.ret (.c (.bool false)))] [])
def s_law_runs_hold_8 : MS := (.ite (.or (.not (.v 5)) (.cmp .isN (.v 6) (.c .none))) [(.ret (.and (.cmp .isN (.v 6) (.c .none)) (.not (.v 5))))] [])
def s_law_runs_hold_9 : MS := (.par [8] [(.b1 .min (.lc [10] (.n 10) 0 [(.v 5)] [] (.b1 .len (.v 10))))])
def s_law_runs_hold_10 : MS := (.ite (.or (.cmp .nin (.v 6) (.v 5)) (.or (.cmp .ne (.b1 .len (.v 6)) (.v 8)) (.lc [10] (.n 10) 0 [(.v 5)] [(.lc [11] (.n 11) 1 [(.v 8)] [(.cmp .lt (.sub (.v 6) (.v 11)) (.sub (.v 10) (.v 11)))] (.v 11))] (.v 10)))) [(.ret (.c (.bool false)))] [])
def s_law_runs_hold_11 : MS := (.par [9] [(.call 2 [(.v 0), (.v 5)])])
def s_law_runs_hold_12 : MS := (.ret (.and (.cmp .isN (.call 10 [(.v 1), (.v 2), (.v 6), (.v 9)]) (.c .none)) (.cmp .isN (.call 10 [(.v 1), (.v 2), (.v 6), (.v 6)]) (.c .none))))
def b_law_runs_hold : List MS := [s_law_runs_hold_0, s_law_runs_hold_1, s_law_runs_hold_2, s_law_runs_hold_3, s_law_runs_hold_4, s_law_runs_hold_5, s_law_runs_hold_6, s_law_runs_hold_7, s_law_runs_hold_8, s_law_runs_hold_9, s_law_runs_hold_10, s_law_runs_hold_11, s_law_runs_hold_12]
def m_law_runs_hold : Sem := runDef G32 1 12 b_law_runs_hold
theorem h_law_runs_hold : trS N_law_runs_hold fs32 cs xs tw 60 (defScope (topS 44)) (fun _ => true) (defBody (topS 44)) = b_law_runs_hold := by kernel_rfl
theorem c_law_runs_hold : (∀ as env, ev G32 (.call 1 as) env = (evs G32 as env).bind (D.callC m_law_draw)) ∧ (∀ as env, ev G32 (.call 2 as) env = (evs G32 as env).bind (D.callC m_law_pick)) ∧ (∀ as env, ev G32 (.call 7 as) env = (evs G32 as env).bind (D.callC m_copies_ahead)) ∧ (∀ as env, ev G32 (.call 8 as) env = (evs G32 as env).bind (D.callC m_law_same)) ∧ (∀ as env, ev G32 (.call 9 as) env = (evs G32 as env).bind (D.callC m_judge_copies)) ∧ (∀ as env, ev G32 (.call 10 as) env = (evs G32 as env).bind (D.callC m_accept_late)) ∧ (∀ as env, ev G32 (.call 31 as) env = (evs G32 as env).bind (D.callC m_law_done)) :=
  ⟨fun _ _ => D.ev_call _ _ _ _ _ rfl, fun _ _ => D.ev_call _ _ _ _ _ rfl, fun _ _ => D.ev_call _ _ _ _ _ rfl, fun _ _ => D.ev_call _ _ _ _ _ rfl, fun _ _ => D.ev_call _ _ _ _ _ rfl, fun _ _ => D.ev_call _ _ _ _ _ rfl, fun _ _ => D.ev_call _ _ _ _ _ rfl⟩
theorem r_law_runs_hold (w0 : W) : m_law_runs_hold [w0] = D.give 1 (exs G32 b_law_runs_hold ([some w0, none, none, none, none, none, none, none, none, none, none, none])) := D.run_all rfl (by decide +kernel)
theorem sc_law_runs_hold : FnScope N_law_runs_hold ["cur"] (defScope (topS 44)) := ⟨rfl, rfl, rfl, by decide +kernel, rfl, by decide +kernel, by decide +kernel⟩
abbrev fs33 : List (Str × Nat × Nat) := ("_law_runs_hold", 32, 1) :: fs32
def G33 : Tab := fun i => if i = 32 then some m_law_runs_hold else G32 i
/-- 33 law: 0=script 1=cur 2=turn -/
def N_law : List Str := ["script", "cur", "turn"]
def f_law_0 : List MS := [(.ite (.or (.not (.call 25 [(.v 1)])) (.or (.not (.call 30 [(.v 1)])) (.not (.call 32 [(.v 1)])))) [(.ret (.c (.bool false)))] [])]
def s_law_0 : MS := (.par [1] [(.call 0 [(.v 0)])])
def s_law_1 : MS := (.for_ (.n 2) 1 [(.c (.int 3))] f_law_0)
def s_law_2 : MS := (.ret (.and (.call 11 [(.v 1)]) (.call 21 [(.v 1)])))
def b_law : List MS := [s_law_0, s_law_1, s_law_2]
def m_law : Sem := runDef G33 1 3 b_law
theorem h_law : trS N_law fs33 cs xs tw 60 (defScope (topS 48)) (fun _ => true) (defBody (topS 48)) = b_law := by kernel_rfl
theorem c_law : (∀ as env, ev G33 (.call 0 as) env = (evs G33 as env).bind (D.callC m_law_start)) ∧ (∀ as env, ev G33 (.call 11 as) env = (evs G33 as env).bind (D.callC m_law_great_runs_hold)) ∧ (∀ as env, ev G33 (.call 21 as) env = (evs G33 as env).bind (D.callC m_law_rounds_hold)) ∧ (∀ as env, ev G33 (.call 25 as) env = (evs G33 as env).bind (D.callC m_law_reads_hold)) ∧ (∀ as env, ev G33 (.call 30 as) env = (evs G33 as env).bind (D.callC m_law_uses_hold)) ∧ (∀ as env, ev G33 (.call 32 as) env = (evs G33 as env).bind (D.callC m_law_runs_hold)) :=
  ⟨fun _ _ => D.ev_call _ _ _ _ _ rfl, fun _ _ => D.ev_call _ _ _ _ _ rfl, fun _ _ => D.ev_call _ _ _ _ _ rfl, fun _ _ => D.ev_call _ _ _ _ _ rfl, fun _ _ => D.ev_call _ _ _ _ _ rfl, fun _ _ => D.ev_call _ _ _ _ _ rfl⟩
theorem r_law (w0 : W) : m_law [w0] = D.give 1 (exs G33 b_law ([some w0, none, none])) := D.run_all rfl (by decide +kernel)
theorem sc_law : FnScope N_law ["script"] (defScope (topS 48)) := ⟨rfl, rfl, rfl, by decide +kernel, rfl, by decide +kernel, by decide +kernel⟩
abbrev fs34 : List (Str × Nat × Nat) := ("law", 33, 1) :: fs33
def G34 : Tab := fun i => if i = 33 then some m_law else G33 i
end Ev.K48

set_option maxRecDepth 100000
/-! Ev, part DJ: walks over lists as they are. -/
namespace Ev
open PySem
namespace D
theorem lcm0 {turn : PyData → Env → Rs (Env × Option PyData)} {xs : List PyData} {env : Env} {acc : List PyData} {o : Rs (Env × List PyData)} (hg : lcGo turn xs env acc = o) (g : PyData → PyData)
    (h : ∀ x ∈ xs, turn x env = .ok (env, some (g x))) : o = .ok (env, acc ++ xs.map g) := lcm (f := id) (by rw [List.map_id]; exact hg) g h
theorem lcs0 {turn : PyData → Env → Rs (Env × Option PyData)} {xs : List PyData} {env : Env} {acc : List PyData} {o : Rs (Env × List PyData)} (hg : lcGo turn xs env acc = o) (p : PyData → Bool)
    (h : ∀ x ∈ xs, turn x env = .ok (env, if p x = true then some x else none)) : o = .ok (env, acc ++ xs.filter p) := by
  have h2 : lcGo turn (xs.map id) env acc = o := by rw [List.map_id]; exact hg
  have := lcs h2 p id h
  rwa [List.map_id] at this
theorem loop0 {turn : PyData → Env → Ou} {xs : List PyData} {env : Env} {o : Ou} (hg : forGo turn xs env = o) (I : Nat → Env → Prop) (h0 : I 0 env)
    (hs : ∀ i x e, xs[i]? = some x → I i e → ∀ (J : Env → Prop) (R : Ou → Prop), (∀ e', I (i + 1) e' → J e') → Step J R (turn x e)) : ∃ e', o = .nx e' ∧ I xs.length e' := loop (f := id) (by rw [List.map_id]; exact hg) I h0 hs
theorem loopF0 {turn : PyData → Env → Ou} {xs : List PyData} {env : Env} {o : Ou} (hg : forGo turn xs env = o) (p : PyData → Bool) (I : Env → Prop) (R : PyData → Ou → Prop) (h0 : I env)
    (hs : ∀ x ∈ xs, ∀ e, I e → ∀ (J : Env → Prop) (R' : Ou → Prop), (∀ e', p x = false → I e' → J e') → (∀ o, p x = true → R x o → R' o) → Step J R' (turn x e)) :
    (xs.find? p = none ∧ ∃ e', o = .nx e' ∧ I e') ∨ ∃ x ∈ xs, xs.find? p = some x ∧ R x o := loopF (f := id) (by rw [List.map_id]; exact hg) p I R h0 hs
theorem fil_nil {α : Type} {p : α → Bool} {xs : List α} : (xs.filter p).isEmpty = xs.all fun x => !p x := by
  induction xs with
  | nil => rfl
  | cons x xs ih =>
    rw [List.filter_cons, List.all_cons]
    cases p x
    · simpa using ih
    · rfl
/-! ### tuples of ints -/
theorem shp_tints (l : List Int) : shp (.tuple (l.map .int)) = true := by
  show ((PyData.tuple (l.map .int)).canLay0 && decide ((PyData.tuple (l.map .int)).depth ≤ 64)) = true
  have e : (PyData.tuple (l.map PyData.int)).depth = 1 := by
    show PyData.depthAll (l.map .int) + 1 = 1
    rw [ints_dep']
  rw [e]
  simp only [PyData.canLay0, ints_lay]
  rfl
theorem eqv_int (i j : Int) : PyData.eqv (.int i) (.int j) = decide (i = j) := by
  show (i == j) = _
  by_cases h : i = j <;> simp [h]
theorem eqvAll_ints : ∀ l m : List Int, PyData.eqvAll (l.map .int) (m.map .int) = decide (l = m)
  | [], [] => rfl
  | [], _ :: _ => rfl
  | _ :: _, [] => rfl
  | i :: l, j :: m => by
    show (PyData.eqv (.int i) (.int j) && PyData.eqvAll (l.map .int) (m.map .int)) = _
    rw [eqv_int, eqvAll_ints l m]
    by_cases h : i = j <;> by_cases h2 : l = m <;> simp [h, h2]
theorem eq_tints (l m : List Int) : opCmp .eq (.tuple (l.map .int)) (.tuple (m.map .int)) = some (decide (l = m)) := by
  show (if (shp _ && shp _) = true then _ else _) = _
  rw [shp_tints, shp_tints, if_pos (show (true && true) = true from rfl)]
  show some (PyData.eqvAll _ _) = _
  rw [eqvAll_ints]
theorem ne_tints (l m : List Int) : opCmp .ne (.tuple (l.map .int)) (.tuple (m.map .int)) = some (!decide (l = m)) := by
  show (if (shp _ && shp _) = true then _ else _) = _
  rw [shp_tints, shp_tints, if_pos (show (true && true) = true from rfl)]
  show some (!PyData.eqvAll _ _) = _
  rw [eqvAll_ints]
theorem any_ints (k : Int) (l : List Int) : ((l.map PyData.int).any fun z => PyData.eqv z (.int k)) = decide (k ∈ l) := by
  induction l with
  | nil => rfl
  | cons i l ih =>
    rw [List.map_cons, List.any_cons, ih, eqv_int]
    by_cases h : i = k
    · simp [h]
    · have : ¬ k = i := fun z => h z.symm
      simp [h, this]
theorem in_tints (k : Int) (l : List Int) : opCmp .inn (.int k) (.tuple (l.map .int)) = some (decide (k ∈ l)) := by
  show (if (shp _ && shp _) = true then _ else _) = _
  rw [shp_tints, if_pos (show (shp (.int k) && true) = true from rfl)]
  rw [any_ints]
theorem ints_of {xs : List PyData} (h : ∀ x ∈ xs, ∃ i : Int, x = .int i) : ∃ l : List Int, xs = l.map .int := by
  induction xs with
  | nil => exact ⟨[], rfl⟩
  | cons x xs ih =>
    obtain ⟨i, rfl⟩ := h x (by simp)
    obtain ⟨l, rfl⟩ := ih fun y hy => h y (by simp [hy])
    exact ⟨i :: l, rfl⟩
theorem eq_nil {xs : List PyData} (h : shp (.list xs) = true) : opCmp .eq (.list xs) (.list []) = some xs.isEmpty := by
  rw [cmp_eq h (show shp (.list []) = true from rfl)]
  cases xs <;> rfl
theorem eq_nil_ints {α : Type} (f : α → Int) (xs : List α) : opCmp .eq (.list (xs.map fun x => .int (f x))) (.list []) = some xs.isEmpty := by
  have e : (xs.map fun x => PyData.int (f x)) = (xs.map f).map .int := by rw [List.map_map]; rfl
  rw [e, eq_nil (shp_ints _)]
  cases xs <;> rfl
section
variable {α : Type}
def Ly (J : Env → List PyData → Prop) (ys : List PyData) : Rs (Env × Option PyData) → Prop
  | .ok (e, some y) => J e (ys ++ [y])
  | .ok (e, none) => J e ys
  | _ => False
theorem ly_s (J : Env → List PyData → Prop) (ys : List PyData) (e : Env) (y : PyData) : Ly J ys (.ok (e, some y)) = J e (ys ++ [y]) := rfl
theorem ly_n (J : Env → List PyData → Prop) (ys : List PyData) (e : Env) : Ly J ys (.ok (e, none)) = J e ys := rfl
/-- a comprehension with a choice, whose turns change what they see -/
theorem lcf {turn : PyData → Env → Rs (Env × Option PyData)} {f : α → PyData} {xs : List α} {env : Env} {o : Rs (Env × List PyData)} (hg : lcGo turn (xs.map f) env [] = o) (I : Nat → Env → List PyData → Prop) (h0 : I 0 env [])
    (hs : ∀ i x e ys, xs[i]? = some x → I i e ys → ∀ J : Env → List PyData → Prop, (∀ e' zs, I (i + 1) e' zs → J e' zs) → Ly J ys (turn (f x) e)) : ∃ e' ys, o = .ok (e', ys) ∧ I xs.length e' ys := by
  subst hg
  have key : ∀ (zs : List α) (k : Nat) (e : Env) (acc : List PyData), I k e acc → (∀ i x e ys, zs[i]? = some x → I (k + i) e ys → Ly (fun e' zs => I (k + i + 1) e' zs) ys (turn (f x) e)) → ∃ e' ys, lcGo turn (zs.map f) e acc = .ok (e', ys) ∧ I (k + zs.length) e' ys := by
    intro zs
    induction zs with
    | nil => intro k e acc i _; exact ⟨e, acc, rfl, i⟩
    | cons z zs ih =>
      intro k e acc ik st
      have h2 := st 0 z e acc rfl ik
      have go : lcGo turn ((z :: zs).map f) e acc = match turn (f z) e with | .ok (env', some y) => lcGo turn (zs.map f) env' (acc ++ [y]) | .ok (env', none) => lcGo turn (zs.map f) env' acc | _ => .bad := rfl
      have rest : ∀ e' acc', I (k + 0 + 1) e' acc' → ∃ e2 ys, lcGo turn (zs.map f) e' acc' = .ok (e2, ys) ∧ I (k + (z :: zs).length) e2 ys := by
        intro e' acc' h2
        obtain ⟨e2, ys, h3, h4⟩ := ih (k + 1) e' acc' h2 fun i x e ys hx hi => by
          have := st (i + 1) x e ys (by simpa using hx) (by rw [show k + (i + 1) = k + 1 + i by omega]; exact hi)
          rw [show k + (i + 1) + 1 = k + 1 + i + 1 by omega] at this
          exact this
        exact ⟨e2, ys, h3, by rw [List.length_cons, show k + (zs.length + 1) = k + 1 + zs.length by omega]; exact h4⟩
      cases ho : turn (f z) e with
      | ok p =>
        obtain ⟨e', q⟩ := p
        rw [go, ho]
        cases q with
        | none => rw [ho] at h2; exact rest e' acc h2
        | some y => rw [ho] at h2; exact rest e' (acc ++ [y]) h2
      | ex _ _ => rw [ho] at h2; exact h2.elim
      | bad => rw [ho] at h2; exact h2.elim
  have := key xs 0 env [] h0 fun i x e ys hx hi => by rw [Nat.zero_add] at hi ⊢; exact hs i x e ys hx hi _ fun _ _ h => h
  rw [Nat.zero_add] at this
  exact this
end
theorem exs_appD (G : Tab) : ∀ (l : List MS) {r : List MS} {e e' : Env}, exs G l e = .nx e' → exs G (l ++ r) e = exs G r e'
  | [], r, e, e', h => by cases h; rfl
  | x :: l, r, e, e', h => by
    rw [List.cons_append, exs_cons]
    rw [exs_cons] at h
    cases hx : exs1 G x e with
    | nx e1 => rw [hx] at h; exact exs_appD G l h
    | rt _ _ => rw [hx] at h; cases h
    | bk _ => rw [hx] at h; cases h
    | ct _ => rw [hx] at h; cases h
    | ex _ _ => rw [hx] at h; cases h
    | bad => rw [hx] at h; cases h
theorem sIx_m1 (n d : Nat) : HT.sIx n d (some (-1)) = n - 1 := by
  unfold HT.sIx
  simp
  try omega
theorem cut_m1 {α : Type} (xs : List α) : cut xs none (some (-1)) = xs.take (xs.length - 1) := by
  unfold cut; rw [sIx_m1, HT.sIx_none]
  simp only [List.drop_zero, Nat.sub_zero]
theorem cut_l1 {α : Type} (xs : List α) : cut xs (some (-1)) none = xs.drop (xs.length - 1) := by
  unfold cut; rw [sIx_m1, HT.sIx_none, List.take_of_length_le (by simp)]
end D
end Ev

set_option maxRecDepth 100000
namespace Ev
open PySem
namespace K48
open D (line4 lt4)
/-- what is drawn from -/
structure DS where
  s : List Int
  p : Int
  c : Nat
  d : Int
def DS.enc (x : DS) : List PyData := [.list (x.s.map .int), .int x.p, .int x.c, .int x.d]
def DS.ok (x : DS) : Prop := x.c ≤ x.s.length
def absI (i : Int) : Int := if i < 0 then -i else i
def fed (x : DS) : DS := if x.p = 0 then ⟨x.s, absI (x.s.getD x.c 0), x.c + 1, x.d⟩ else x
def drawR (x : DS) (n : Int) : Int × DS :=
  if x.p = 0 ∧ x.s.length ≤ x.c then ((((x.d * 48271 + 69621).fmod 2147483629).fdiv 13).fmod n, ⟨x.s, x.p, x.c, (x.d * 48271 + 69621).fmod 2147483629⟩)
  else ((fed x).p.fmod n, ⟨(fed x).s, (fed x).p.fdiv n, (fed x).c, (fed x).d⟩)
theorem td (s : DS) (h : s.ok) (n : Int) (hn : 0 < n) (hn2 : n < 2 ^ 64) : m_law_draw [.l s.enc, .d (.int n)] = .ok (.v (.int (drawR s n).1), [some (.l (drawR s n).2.enc), some (.d (.int n))]) := by
  refine D.go _ rfl rfl ?_
  obtain ⟨s, p, c, d⟩ := s
  have hn1 : ¬ n = 0 := by omega
  have hl := D.fin_lit hn hn2
  have hs : sml 48271 = true := rfl
  by_cases hp : p = 0
  · by_cases hc : s.length ≤ c
    · simp_arith! [b_law_draw, s_law_draw_0, s_law_draw_1, s_law_draw_2, s_law_draw_3, s_law_draw_4, DS.enc, hp, hc, hn1, hl, hs, drawR]
    · have ha : L2.atI (s.map PyData.int) (c : Int) = some (.int (s.getD c 0)) := by
        rw [D.atI_n]; simp [List.getElem?_eq_getElem (show c < s.length by omega)]
      simp_arith! [b_law_draw, s_law_draw_0, s_law_draw_1, s_law_draw_2, s_law_draw_3, s_law_draw_4, DS.enc, hp, hc, hn1, hl, hs, ha, drawR, fed, absI]
      rfl
  · simp_arith! [b_law_draw, s_law_draw_0, s_law_draw_1, s_law_draw_2, s_law_draw_3, s_law_draw_4, DS.enc, hp, hn1, hl, hs, drawR, fed]
theorem drawR_bd (s : DS) (h : s.ok) (n : Int) (hn : 0 < n) : 0 ≤ (drawR s n).1 ∧ (drawR s n).1 < n ∧ (drawR s n).2.ok := by
  obtain ⟨s, p, c, d⟩ := s
  have h : c ≤ s.length := h
  unfold drawR fed
  by_cases hp : p = 0
  · by_cases hc : s.length ≤ c
    · simp only [hp, hc, and_self, if_true]
      exact ⟨Int.fmod_nonneg_of_pos _ hn, Int.fmod_lt_of_pos _ hn, h⟩
    · simp only [hp, hc, and_false, if_true, if_false]
      exact ⟨Int.fmod_nonneg_of_pos _ hn, Int.fmod_lt_of_pos _ hn, by show c + 1 ≤ s.length; omega⟩
  · simp only [hp, false_and, if_false]
    exact ⟨Int.fmod_nonneg_of_pos _ hn, Int.fmod_lt_of_pos _ hn, h⟩
theorem tde (s : DS) (h : s.ok) (n : Nat) (hn : 0 < n) (hn2 : n ≤ 1000000000001) : ∃ (i : Nat) (s' : DS), i < n ∧ s'.ok ∧ m_law_draw [.l s.enc, .d (.int n)] = .ok (.v (.int i), [some (.l s'.enc), some (.d (.int n))]) := by
  obtain ⟨q1, q2, q3⟩ := drawR_bd s h n (by omega)
  have e := td s h n (by omega) (by omega)
  refine ⟨(drawR s n).1.toNat, (drawR s n).2, by omega, q3, ?_⟩
  rw [e, show (((drawR s n).1.toNat : Nat) : Int) = (drawR s n).1 by omega]
theorem tdc (s : DS) (h : s.ok) (n : Int) (hn : 0 < n) (hn2 : n ≤ 1000000000001) : ∃ (i : Nat) (s' : DS), (i : Int) < n ∧ s'.ok ∧ m_law_draw [.l s.enc, .d (.int n)] = .ok (.v (.int i), [some (.l s'.enc), some (.d (.int n))]) := by
  obtain ⟨q1, q2, q3⟩ := drawR_bd s h n (by omega)
  have e := td s h n (by omega) (by omega)
  refine ⟨(drawR s n).1.toNat, (drawR s n).2, by omega, q3, ?_⟩
  rw [e, show (((drawR s n).1.toNat : Nat) : Int) = (drawR s n).1 by omega]
/-- the law's begin -/
theorem t0 (ns : List Int) : ∃ s : DS, s.ok ∧ m_law_start [.r (ns.map .int)] = .ok (.n s.enc, [some (.r (ns.map .int))]) := by
  have go : ∀ (xs : List Int) (sd : Int) (x : Option W), ∃ (sd' : Int) (x' : Option W), forGo (D.forT G0 (.n 2) [(.par [1] [(.bin .add (.bin .mod (.b1 .int (.bin .add (.bin .mul (.v 1) (.c (.int 48271))) (.v 2))) (.c (.int 2147483629))) (.c (.int 1)))])]) (xs.map .int) [some (.r (ns.map .int)), some (.d (.int sd)), x] = .nx [some (.r (ns.map .int)), some (.d (.int sd')), x'] := by
    intro xs
    induction xs with
    | nil => intro sd x; exact ⟨sd, x, rfl⟩
    | cons y xs ih =>
      intro sd x
      have hs : sml 48271 = true := rfl
      obtain ⟨sd', x', e⟩ := ih ((sd * 48271 + y).fmod 2147483629 + 1) (some (.d (.int y)))
      refine ⟨sd', x', ?_⟩
      rw [← e]
      simp_arith! [D.forGo_cons, D.forS_nx, D.forT_p, hs]
  obtain ⟨sd, x, e⟩ := go ns 7 none
  refine ⟨⟨ns, 0, 0, sd⟩, Nat.zero_le _, D.go _ rfl rfl ?_⟩
  simp_arith! [b_law_start, s_law_start_0, s_law_start_1, s_law_start_2, f_law_start_0, e, D.op_nx, DS.enc]
  rfl
theorem ints_of {P : Int → Prop} : ∀ {ys : List PyData}, (∀ y ∈ ys, ∃ i, y = .int i ∧ P i) → ∃ b : List Int, ys = b.map .int ∧ ∀ r ∈ b, P r
  | [], _ => ⟨[], rfl, by simp⟩
  | y :: ys, h => by
    obtain ⟨r, rfl, hr⟩ := h y (by simp)
    obtain ⟨b, rfl, hb⟩ := ints_of (ys := ys) fun z hz => h z (by simp [hz])
    exact ⟨r :: b, rfl, by simpa using ⟨hr, hb⟩⟩
theorem t6l {xs : List PyData} (h : D.Fit 60 400000 (.list xs)) : m_law_same [.d (.list xs), .d (.list xs)] = .ok (.v (.bool true), [some (.d (.list xs)), some (.d (.list xs))]) := by
  refine D.go _ rfl rfl ?_
  have a := h.shp (by decide)
  have e := D.cmp_eq a a
  rw [D.eqv_self _ h.nic] at e
  have b := D.cmp_eq h.shs h.shs
  rw [D.eqv_str] at b
  simp_arith! [b_law_same, s_law_same_0, e, b, h.shw (by decide) (by decide)]
theorem t6t {xs : List PyData} (h : D.Fit 60 400000 (.tuple xs)) : m_law_same [.d (.tuple xs), .d (.tuple xs)] = .ok (.v (.bool true), [some (.d (.tuple xs)), some (.d (.tuple xs))]) := by
  refine D.go _ rfl rfl ?_
  have a := h.shp (by decide)
  have e := D.cmp_eq a a
  rw [D.eqv_self _ h.nic] at e
  have b := D.cmp_eq h.shs h.shs
  rw [D.eqv_str] at b
  simp_arith! [b_law_same, s_law_same_0, e, b, h.shw (by decide) (by decide)]
theorem t6p {xs : List PyData} (h : D.Fit 60 400000 (.list xs)) : m_law_same [.l xs, .d (.list xs)] = .ok (.v (.bool true), [some (.l xs), some (.d (.list xs))]) := by
  refine D.go _ rfl rfl ?_
  have a := h.shp (by decide)
  have e := D.cmp_eq a a
  rw [D.eqv_self _ h.nic] at e
  have b := D.cmp_eq h.shs h.shs
  rw [D.eqv_str] at b
  simp_arith! [b_law_same, s_law_same_0, e, b, h.shw (by decide) (by decide)]
end K48
end Ev

set_option maxRecDepth 100000
namespace Ev
open PySem
namespace K48
theorem t_pick (s : DS) (h : s.ok) {xs : List PyData} (hn : 0 < xs.length) (hn2 : xs.length ≤ 100000) : ∃ (x : PyData) (s' : DS), x ∈ xs ∧ s'.ok ∧ m_law_pick [.l s.enc, .d (.list xs)] = .ok (.v x, [some (.l s'.enc), some (.d (.list xs))]) := by
  obtain ⟨i, s', hi, hs, e⟩ := tde s h xs.length hn (by omega)
  refine ⟨xs[i], s', List.getElem_mem hi, hs, ?_⟩
  have ha : L2.atI xs (i : Int) = some xs[i] := by rw [D.atI_n]; simp [List.getElem?_eq_getElem hi]
  rw [r_law_pick]
  simp_arith [b_law_pick, s_law_pick_0, c_law_pick, e, ha]
/-- no dict -/
def nd : PyData → Bool
  | .dict _ => false
  | _ => true
def isI : PyData → Bool
  | .int _ => true
  | _ => false
def wh (lo hi : Int) : PyData → Bool
  | .int i => decide (lo ≤ i) && decide (i ≤ hi)
  | _ => false
theorem t_isint (x : PyData) (h : nd x = true) : m_is_integer [.d x] = .ok (.v (.bool (isI x)), [some (.d x)]) := by
  rw [r_is_integer]
  cases x with
  | dict _ => cases h
  | _ => simp_arith [b_is_integer, s_is_integer_0, isI]
end K48
end Ev

set_option maxRecDepth 100000
namespace Ev
open PySem
namespace K48
abbrev er (c : Nat) (s : String) : Rs (Rv × List (Option W)) := .ex c (.str (Str.ofString s))
abbrev S (s : String) : PyData := .str (Str.ofString s)
abbrev T (l : List Int) : PyData := .tuple (l.map .int)
theorem same_d {y : PyData} (h : D.Fit 60 400000 y) : m_law_same [.d y, .d y] = .ok (.v (.bool true), [some (.d y), some (.d y)]) := by
  rw [r_law_same]
  have a := h.shp (by decide)
  have e := D.cmp_eq a a
  rw [D.eqv_self _ h.nic] at e
  have b := D.cmp_eq h.shs h.shs
  rw [D.eqv_str] at b
  simp_arith [b_law_same, s_law_same_0, e, b, h.shw (by decide) (by decide)]
theorem fit_i {i : Int} (h : i.natAbs < 10 ^ 30) {k n : Nat} : D.Fit k n (.int i) := D.Fit.int h
theorem same_i {i : Int} (h : i.natAbs < 10 ^ 30) : m_law_same [.d (.int i), .d (.int i)] = .ok (.v (.bool true), [some (.d (.int i)), some (.d (.int i))]) := same_d (fit_i h)
theorem fit_T {l : List Int} (h : l.length ≤ 2000) (h2 : ∀ i ∈ l, i.natAbs < 10 ^ 30) : D.Fit 1 2000 (T l) := D.Fit.tup (n := 0) (fun x hx => by
  obtain ⟨i, hi, rfl⟩ := List.mem_map.mp hx
  exact fit_i (h2 i hi)) (by simp; omega)
theorem same_T {l : List Int} (h : l.length ≤ 2000) (h2 : ∀ i ∈ l, i.natAbs < 10 ^ 30) : m_law_same [.d (T l), .d (T l)] = .ok (.v (.bool true), [some (.d (T l)), some (.d (T l))]) := same_d ((fit_T h h2).up (by decide) (by decide))
theorem int_i (i : Int) : m_is_integer [.d (.int i)] = .ok (.v (.bool true), [some (.d (.int i))]) := t_isint (.int i) rfl
theorem life_i {i : Int} (h : 1 ≤ i ∧ i ≤ 1000) : m_check_life [.d (.int i)] = .ok (.v .none, [some (.d (.int i))]) := by
  rw [r_check_life]
  simp_arith [b_check_life, s_check_life_0, c_check_life, int_i, decide_eq_true h.1, decide_eq_true h.2]
theorem rounds_i {i : Int} (h : 0 ≤ i ∧ i ≤ 60) : m_check_rounds [.d (.int i)] = .ok (.v .none, [some (.d (.int i))]) := by
  rw [r_check_rounds]
  simp_arith [b_check_rounds, s_check_rounds_0, c_check_rounds, int_i, decide_eq_true h.1, decide_eq_true h.2]
theorem copies_i {i : Int} (h : 0 ≤ i ∧ i ≤ 1000000000000) : m_check_copies [.d (.int i)] = .ok (.v .none, [some (.d (.int i))]) := by
  rw [r_check_copies]
  simp_arith [b_check_copies, s_check_copies_0, c_check_copies, int_i, decide_eq_true h.1, decide_eq_true h.2]
theorem all_t {α : Type} (xs : List α) : (xs.all fun _ => true) = true := by simp
theorem runs_T {l : List Int} (h : l.length ≤ 60) (h2 : ∀ i ∈ l, 0 ≤ i ∧ i ≤ 1000) : m_check_runs [.d (T l)] = .ok (.v .none, [some (.d (T l))]) := by
  rw [r_check_runs]
  simp_arith [b_check_runs, s_check_runs_0, s_check_runs_1, c_check_runs, decide_eq_false (show ¬ ((60 : Int) < l.length) by omega)]
  generalize hg : lcGo _ _ _ _ = o
  have ho := D.lcm hg (fun _ : Int => .bool true) fun x hm => by
    simp_arith [c_check_runs, int_i, decide_eq_true (h2 x hm).1, decide_eq_true (h2 x hm).2]
  subst ho
  simp_arith [all_t]
theorem lives_T {l : List Int} (h : l.length ≤ 40) (h2 : ∀ i ∈ l, 0 ≤ i ∧ i ≤ 1000) : m_check_lives [.d (T l)] = .ok (.v .none, [some (.d (T l))]) := by
  rw [r_check_lives]
  simp_arith [b_check_lives, s_check_lives_0, s_check_lives_1, c_check_lives, decide_eq_false (show ¬ ((40 : Int) < l.length) by omega)]
  generalize hg : lcGo _ _ _ _ = o
  have ho := D.lcm hg (fun _ : Int => .bool true) fun x hm => by
    simp_arith [c_check_lives, int_i, decide_eq_true (h2 x hm).1, decide_eq_true (h2 x hm).2]
  subst ho
  simp_arith [all_t]
theorem uses_T {l : List Int} {m : Nat} (h : l.length ≤ 2400) (h2 : ∀ i ∈ l, 0 ≤ i ∧ i < (m : Int)) : m_check_uses [.d (T l), .d (.int m)] = .ok (.v .none, [some (.d (T l)), some (.d (.int m))]) := by
  rw [r_check_uses]
  simp_arith [b_check_uses, s_check_uses_0, s_check_uses_1, c_check_uses, decide_eq_false (show ¬ ((2400 : Int) < l.length) by omega)]
  generalize hg : lcGo _ _ _ _ = o
  have ho := D.lcm hg (fun _ : Int => .bool true) fun x hm => by
    simp_arith [c_check_uses, int_i, decide_eq_true (h2 x hm).1, decide_eq_true (h2 x hm).2]
  subst ho
  simp_arith [all_t]
/-! ### reads -/
theorem t_rw {i j : Int} (hi : 1 ≤ i ∧ i ≤ 1000) (hj : 0 ≤ j ∧ j ≤ 1000000000000) : m_reads_with [.d (.int i), .d (.int j)] = .ok (.v (.int (i * (j + 1) - j)), [some (.d (.int i)), some (.d (.int j))]) := by
  have e1 := life_i hi
  have e2 := copies_i hj
  rw [r_reads_with]
  have e : i + j * (i - 1) = i * (j + 1) - j := by rw [Int.mul_sub, Int.mul_add, Int.mul_one, Int.mul_one, Int.mul_comm j i]; omega
  simp_arith [b_reads_with, s_reads_with_0, s_reads_with_1, s_reads_with_2, c_reads_with, e1, e2, e]
/-- the fewest copies -/
def few (i j : Int) : Int := -(-(j - i) / (i - 1))
theorem t_few {i j : Int} (hi : 1 ≤ i ∧ i ≤ 1000) (hj : 0 ≤ j ∧ j ≤ 1000000000000) : m_fewest_copies [.d (.int i), .d (.int j)] = .ok (.v (if j ≤ i then .int 0 else if i = 1 then .none else .int (few i j)), [some (.d (.int i)), some (.d (.int j))]) := by
  have e1 := life_i hi
  rw [r_fewest_copies]
  by_cases c3 : j ≤ i
  · rw [if_pos c3]
    simp_arith [b_fewest_copies, s_fewest_copies_0, s_fewest_copies_1, s_fewest_copies_2, c_fewest_copies, e1, int_i, decide_eq_true hj.1, decide_eq_true hj.2, decide_eq_true c3]
  · rw [if_neg c3]
    by_cases c4 : i = 1
    · rw [if_pos c4]
      simp_arith [b_fewest_copies, s_fewest_copies_0, s_fewest_copies_1, s_fewest_copies_2, s_fewest_copies_3, c_fewest_copies, e1, int_i, decide_eq_true hj.1, decide_eq_true hj.2, decide_eq_false c3, decide_eq_true c4]
    · rw [if_neg c4]
      simp_arith [b_fewest_copies, s_fewest_copies_0, s_fewest_copies_1, s_fewest_copies_2, s_fewest_copies_3, s_fewest_copies_4, c_fewest_copies, e1, int_i, decide_eq_true hj.1, decide_eq_true hj.2, decide_eq_false c3, decide_eq_false c4, few]
theorem few_sp {i j : Int} (hi : 2 ≤ i) (hj : i < j) : 0 < few i j ∧ j ≤ i * (few i j + 1) - few i j ∧ i * few i j - few i j + 1 < j := by
  have h1 := Int.mul_ediv_self_le (x := -(j - i)) (k := i - 1) (by omega)
  have h2 := Int.lt_mul_ediv_self_add (x := -(j - i)) (k := i - 1) (by omega)
  unfold few
  generalize hq : -(j - i) / (i - 1) = q at *
  have e : (i - 1) * q = i * q - q := by rw [Int.sub_mul, Int.one_mul]
  rw [e] at h1 h2
  have e1 : i * (-q + 1) = -(i * q) + i := by rw [Int.mul_add, Int.mul_neg, Int.mul_one]
  have e2 : i * -q = -(i * q) := Int.mul_neg _ _
  rw [e1, e2]
  refine ⟨?_, by omega, by omega⟩
  have h3 : q < 0 := by
    by_cases h : q < 0
    · exact h
    · have : 0 ≤ (i - 1) * q := Int.mul_nonneg (by omega) (by omega)
      omega
  omega
theorem min2 (a b : Int) : ∃ m, opB1 .min (.list [.int a, .int b]) = some (.v (.int m)) ∧ (m = a ∨ m = b) ∧ m ≤ a ∧ m ≤ b := by
  obtain ⟨m, h, h1, h2⟩ := D.min_ints (l := [a, b]) (by simp)
  exact ⟨m, h, by simpa using h1, h2 a (by simp), h2 b (by simp)⟩
set_option maxHeartbeats 2000000 in
theorem t_reads {s : DS} (os : s.ok) : ∃ s' : DS, s'.ok ∧ m_law_reads_hold [.l s.enc] = .ok (.v (.bool true), [some (.l s'.enc)]) := by
  obtain ⟨d1, s1, h1, o1, e1⟩ := tdc s os 1000 (by decide) (by decide)
  obtain ⟨x, s2, hx, o2, e2⟩ := t_pick s1 o1 (xs := [.int 1, .int 2, .int 1000, .int (1 + (d1 : Int))]) (by simp) (by simp)
  obtain ⟨i, rfl, hi⟩ : ∃ i : Int, x = .int i ∧ 1 ≤ i ∧ i ≤ 1000 := by
    simp only [List.mem_cons, List.not_mem_nil, or_false] at hx
    rcases hx with rfl | rfl | rfl | rfl <;> exact ⟨_, rfl, by omega, by omega⟩
  have p9 : (10 : Int) ^ 9 = 1000000000 := by decide
  have p12 : (10 : Int) ^ 12 = 1000000000000 := by decide
  obtain ⟨d2, s3, h3, o3, e3⟩ := tdc s2 o2 1000000000 (by decide) (by decide)
  obtain ⟨x, s4, hx, o4, e4⟩ := t_pick s3 o3 (xs := [.int 0, .int 1, .int 7, .int d2, .int 1000000000000]) (by simp) (by simp)
  obtain ⟨j, rfl, hj⟩ : ∃ i : Int, x = .int i ∧ 0 ≤ i ∧ i ≤ 1000000000000 := by
    simp only [List.mem_cons, List.not_mem_nil, or_false] at hx
    rcases hx with rfl | rfl | rfl | rfl | rfl <;> exact ⟨_, rfl, by omega, by omega⟩
  have ew := t_rw hi hj
  have hw0 : 0 ≤ i * (j + 1) - j := by
    have : 1 * j ≤ i * j := Int.mul_le_mul_of_nonneg_right hi.1 hj.1
    rw [Int.mul_add, Int.mul_one]; omega
  have hw1 : i * (j + 1) - j ≤ 1000 * 1000000000001 := by
    have : i * (j + 1) ≤ 1000 * (j + 1) := Int.mul_le_mul_of_nonneg_right hi.2 (by omega)
    omega
  generalize hwh : i * (j + 1) - j = wh at *
  have es := same_i (i := wh) (by omega)
  obtain ⟨d3, s5, h5, o5, e5⟩ := tdc s4 o4 5000 (by decide) (by decide)
  obtain ⟨m1, em1, hm1, _, _⟩ := min2 1000000000000 wh
  obtain ⟨m2, em2, hm2, _, _⟩ := min2 1000000000000 (wh + 1)
  obtain ⟨x, s6, hx, o6, e6⟩ := t_pick s5 o5 (xs := [.int 0, .int i, .int (i + 1), .int m1, .int m2, .int 1000000000000, .int d3]) (by simp) (by simp)
  obtain ⟨r, rfl, hr⟩ : ∃ i : Int, x = .int i ∧ 0 ≤ i ∧ i ≤ 1000000000000 := by
    simp only [List.mem_cons, List.not_mem_nil, or_false] at hx
    rcases hx with rfl | rfl | rfl | rfl | rfl | rfl | rfl <;> exact ⟨_, rfl, by omega, by omega⟩
  have ef := t_few hi hr
  refine ⟨s6, o6, ?_⟩
  rw [r_law_reads_hold]
  simp_arith [b_law_reads_hold, s_law_reads_hold_0, s_law_reads_hold_1, s_law_reads_hold_2, c_law_reads_hold, p9, p12, e1, e2, e3, e4, hwh, ew, es]
  simp_arith [s_law_reads_hold_3, s_law_reads_hold_4, c_law_reads_hold, p12, e5, em1, em2, e6, ef]
  by_cases c3 : r ≤ i
  · simp_arith [s_law_reads_hold_5, s_law_reads_hold_6, s_law_reads_hold_7, if_pos c3, decide_eq_true (show r ≤ i * (0 + 1) - 0 by omega), Int.mul_zero, Int.mul_one, Int.sub_zero, decide_eq_true c3]
  · by_cases c4 : i = 1
    · subst c4
      simp_arith [s_law_reads_hold_5, if_neg c3, decide_eq_true (show (1 : Int) < r by omega)]
    · obtain ⟨f0, f1, f2⟩ := few_sp (i := i) (j := r) (by omega) (by omega)
      generalize few i r = f at *
      simp_arith [s_law_reads_hold_5, s_law_reads_hold_6, s_law_reads_hold_7, if_neg c3, if_neg c4, decide_eq_false (show ¬ f < 0 by omega), decide_eq_true f1, decide_eq_false (show ¬ f = 0 by omega), decide_eq_true f2]
end K48
end Ev

set_option maxRecDepth 100000
namespace Ev
open PySem
namespace K48
/-- reading runs, the card copied ahead of some: the end, or the run that can't be -/
def jd (life : Int) (u : List Int) : List Int → Nat → Int → Bool × Int
  | [], _, left => (true, left)
  | o :: r, k, left => if (k : Int) ∈ u then if left < 1 then (false, k) else if life < o then (false, k) else jd life u r (k + 1) (life - o) else if left < o then (false, k) else jd life u r (k + 1) (left - o)
theorem jd_c {life o left : Int} {u r : List Int} {k : Nat} : jd life u (o :: r) k left = if (k : Int) ∈ u then if left < 1 then (false, (k : Int)) else if life < o then (false, (k : Int)) else jd life u r (k + 1) (life - o) else if left < o then (false, (k : Int)) else jd life u r (k + 1) (left - o) := rfl
/-- as late as can be -/
def gr (life : Int) : List Int → Nat → Int → Option (List Int)
  | [], _, _ => some []
  | o :: r, k, left => if left < o ∨ (o = left ∧ 0 < r.sum) then if left < 1 ∨ life < o ∨ (o = life ∧ 0 < r.sum) then none else (gr life r (k + 1) (life - o)).map (List.cons (k : Int)) else gr life r (k + 1) (left - o)
theorem gr_c {life o left : Int} {r : List Int} {k : Nat} : gr life (o :: r) k left = if left < o ∨ (o = left ∧ 0 < r.sum) then if left < 1 ∨ life < o ∨ (o = life ∧ 0 < r.sum) then none else (gr life r (k + 1) (life - o)).map (List.cons (k : Int)) else gr life r (k + 1) (left - o) := rfl
theorem gr_ge {life : Int} : ∀ {l : List Int} {k : Nat} {left : Int} {u : List Int}, gr life l k left = some u → ∀ i ∈ u, (k : Int) ≤ i ∧ i < k + l.length
  | [], k, left, u, h => by
    cases h; simp
  | o :: r, k, left, u, h => by
    rw [gr_c] at h
    split at h
    · split at h
      · cases h
      · obtain ⟨u', h', rfl⟩ := Option.map_eq_some_iff.mp h
        intro i hi
        rcases List.mem_cons.mp hi with rfl | hi
        · simp only [List.length_cons]; omega
        · have := gr_ge h' i hi
          simp only [List.length_cons]; omega
    · intro i hi
      have := gr_ge h i hi
      simp only [List.length_cons]; omega
theorem gr_up {life : Int} : ∀ {l : List Int} {k : Nat} {left : Int} {u : List Int}, gr life l k left = some u → u.Pairwise (· < ·)
  | [], k, left, u, h => by
    cases h; exact List.Pairwise.nil
  | o :: r, k, left, u, h => by
    rw [gr_c] at h
    split at h
    · split at h
      · cases h
      · obtain ⟨u', h', rfl⟩ := Option.map_eq_some_iff.mp h
        refine List.pairwise_cons.mpr ⟨fun i hi => ?_, gr_up h'⟩
        have := gr_ge h' i hi
        omega
    · exact gr_up h
/-- what stands ahead isn't asked again -/
theorem jd_drop {life a : Int} {u : List Int} : ∀ {l : List Int} {k : Nat} {left : Int}, a < k → jd life (a :: u) l k left = jd life u l k left
  | [], _, _, _ => rfl
  | o :: r, k, left, h => by
    rw [jd_c, jd_c, jd_drop (l := r) (k := k + 1) (by omega), jd_drop (l := r) (k := k + 1) (by omega)]
    have : ((k : Int) ∈ a :: u) ↔ (k : Int) ∈ u := by
      rw [List.mem_cons]
      exact ⟨fun h2 => h2.resolve_left (by omega), .inr⟩
    simp only [this]
/-- the greedy one is enough -/
theorem gr_good {life : Int} : ∀ {l : List Int} {k : Nat} {left : Int} {u : List Int}, gr life l k left = some u → (jd life u l k left).1 = true
  | [], _, _, _, _ => rfl
  | o :: r, k, left, u, h => by
    have h0 := h
    rw [gr_c] at h
    split at h
    · split at h
      · cases h
      · rename_i c1 c2
        obtain ⟨u', h', rfl⟩ := Option.map_eq_some_iff.mp h
        rw [jd_c, if_pos (by simp), if_neg (by omega), if_neg (by omega), jd_drop (by omega)]
        exact gr_good h'
    · rename_i c1
      have : ¬ (k : Int) ∈ u := fun hm => by have := gr_ge h _ hm; omega
      rw [jd_c, if_neg this, if_neg (by omega)]
      exact gr_good h
theorem sum_nn : ∀ {l : List Int}, (∀ i ∈ l, 0 ≤ i) → 0 ≤ l.sum
  | [], _ => by simp
  | i :: l, h => by
    have h1 := h i (by simp)
    have h2 := sum_nn (l := l) fun j hj => h j (by simp [hj])
    simp only [List.sum_cons]; omega
/-- a worn card with more to read -/
theorem dead {life : Int} {v : List Int} : ∀ {l : List Int} {k : Nat} {left : Int}, (∀ i ∈ l, 0 ≤ i) → left ≤ 0 → 0 < l.sum → (jd life v l k left).1 = false
  | [], _, _, _, _, h => by simp at h
  | o :: r, k, left, hn, hl, hs => by
    have h0 := hn o (by simp)
    rw [jd_c]
    by_cases c : (k : Int) ∈ v
    · rw [if_pos c, if_pos (by omega)]
    · rw [if_neg c]
      by_cases c2 : left < o
      · rw [if_pos c2]
      · rw [if_neg c2]
        rw [List.sum_cons] at hs
        exact dead (fun i hi => hn i (by simp [hi])) (by omega) (by omega)
/-- the rising ones from k on: the first is k, or all are beyond -/
theorem up_cases {v : List Int} {k : Int} (hu : v.Pairwise (· < ·)) (hk : ∀ i ∈ v, k ≤ i) : (∃ v', v = k :: v' ∧ v'.Pairwise (· < ·) ∧ ∀ i ∈ v', k + 1 ≤ i) ∨ (¬ k ∈ v ∧ ∀ i ∈ v, k + 1 ≤ i) := by
  cases v with
  | nil => exact .inr ⟨by simp, by simp⟩
  | cons a v' =>
    obtain ⟨h1, h2⟩ := List.pairwise_cons.mp hu
    have ha := hk a (by simp)
    by_cases c : a = k
    · subst c
      exact .inl ⟨v', rfl, h2, fun i hi => h1 i hi⟩
    · right
      have : ∀ i ∈ a :: v', k + 1 ≤ i := fun i hi => by
        rcases List.mem_cons.mp hi with rfl | hi
        · omega
        · have := h1 i hi; omega
      exact ⟨fun hm => by have := this k hm; omega, this⟩
theorem best {life : Int} : ∀ {l : List Int} {k : Nat} {lg lv : Int} {d : Nat} {v : List Int}, (∀ i ∈ l, 0 ≤ i) → v.Pairwise (· < ·) → (∀ i ∈ v, (k : Int) ≤ i) → (jd life v l k lv).1 = true → lv ≤ life → (d = 0 → lv ≤ lg) → 0 ≤ lg → (1 ≤ lg ∨ l.sum = 0) →
    ∃ u, gr life l k lg = some u ∧ u.length ≤ v.length + d ∧ ∀ i, d ≤ i → i < u.length → v.getD (i - d) 0 ≤ u.getD i 0
  | [], k, lg, lv, d, v, _, _, _, _, _, _, _, _ => ⟨[], rfl, by simp, by simp⟩
  | o :: r, k, lg, lv, d, v, hn, hu, hk, hj, hlv, hd, h0, h1 => by
    have ho := hn o (by simp)
    have hr : ∀ i ∈ r, 0 ≤ i := fun i hi => hn i (by simp [hi])
    have hrs := sum_nn hr
    rw [List.sum_cons] at h1
    rw [jd_c] at hj
    by_cases c : lg < o ∨ (o = lg ∧ 0 < r.sum)
    · -- the greedy one copies
      have hl1 : 1 ≤ lg := by omega
      rcases up_cases hu hk with ⟨v', rfl, hu', hk'⟩ | ⟨hnm, hk'⟩
      · rw [if_pos (by simp)] at hj
        by_cases a1 : lv < 1
        · rw [if_pos a1] at hj; cases hj
        rw [if_neg a1] at hj
        by_cases a2 : life < o
        · rw [if_pos a2] at hj; cases hj
        rw [if_neg a2, jd_drop (by omega)] at hj
        have a3 : ¬ (o = life ∧ 0 < r.sum) := fun h => by
          rw [dead hr (by omega) h.2] at hj; cases hj
        obtain ⟨u, e, hl, hp⟩ := best (l := r) (k := k + 1) (lg := life - o) (lv := life - o) (d := d) (v := v') hr hu' (fun i hi => by have := hk' i hi; omega) hj (by omega) (fun _ => Int.le_refl _) (by omega) (by omega)
        refine ⟨(k : Int) :: u, by rw [gr_c, if_pos c, if_neg (by omega), e]; rfl, by simp only [List.length_cons]; omega, fun i hi hi2 => ?_⟩
        simp only [List.length_cons] at hi2
        have hge := gr_ge e
        cases i with
        | zero =>
          have : d = 0 := by omega
          subst this
          simp
        | succ i =>
          rw [List.getD_cons_succ]
          by_cases q : d ≤ i
          · rw [show i + 1 - d = (i - d) + 1 by omega, List.getD_cons_succ]
            exact hp i q (by omega)
          · rw [show i + 1 - d = 0 by omega, List.getD_cons_zero]
            have : u.getD i 0 ∈ u := by
              rw [List.getD_eq_getElem?_getD, List.getElem?_eq_getElem (by omega)]; exact List.getElem_mem _
            have := hge _ this
            omega
      · rw [if_neg hnm] at hj
        by_cases a1 : lv < o
        · rw [if_pos a1] at hj; cases hj
        rw [if_neg a1] at hj
        have hdp : 1 ≤ d := by
          rcases Nat.eq_zero_or_pos d with h | h
          · have := hd h
            rcases c with c | c
            · omega
            · rw [dead hr (by omega) c.2] at hj; cases hj
          · exact h
        have a3 : ¬ (o = life ∧ 0 < r.sum) := fun h => by
          rw [dead hr (by omega) h.2] at hj; cases hj
        obtain ⟨u, e, hl, hp⟩ := best (l := r) (k := k + 1) (lg := life - o) (lv := lv - o) (d := d - 1) (v := v) hr hu (fun i hi => by have := hk' i hi; omega) hj (by omega) (fun _ => by omega) (by omega) (by omega)
        refine ⟨(k : Int) :: u, by rw [gr_c, if_pos c, if_neg (by omega), e]; rfl, by simp only [List.length_cons]; omega, fun i hi hi2 => ?_⟩
        simp only [List.length_cons] at hi2
        cases i with
        | zero => omega
        | succ i =>
          rw [List.getD_cons_succ]
          have := hp i (by omega) (by omega)
          rwa [show i - (d - 1) = i + 1 - d by omega] at this
    · have c2 : ¬ lg < o := fun h => c (.inl h)
      rcases up_cases hu hk with ⟨v', rfl, hu', hk'⟩ | ⟨hnm, hk'⟩
      · rw [if_pos (by simp)] at hj
        by_cases a1 : lv < 1
        · rw [if_pos a1] at hj; cases hj
        rw [if_neg a1] at hj
        by_cases a2 : life < o
        · rw [if_pos a2] at hj; cases hj
        rw [if_neg a2, jd_drop (by omega)] at hj
        obtain ⟨u, e, hl, hp⟩ := best (l := r) (k := k + 1) (lg := lg - o) (lv := life - o) (d := d + 1) (v := v') hr hu' (fun i hi => by have := hk' i hi; omega) hj (by omega) (fun h => by omega) (by omega) (by omega)
        refine ⟨u, by rw [gr_c, if_neg c, e], by simp only [List.length_cons]; omega, fun i hi hi2 => ?_⟩
        have hge := gr_ge e
        by_cases q : i = d
        · subst q
          rw [Nat.sub_self, List.getD_cons_zero]
          have : u.getD i 0 ∈ u := by
            rw [List.getD_eq_getElem?_getD, List.getElem?_eq_getElem (by omega)]; exact List.getElem_mem _
          have := hge _ this
          omega
        · have := hp i (by omega) hi2
          rw [show i - d = (i - (d + 1)) + 1 by omega, List.getD_cons_succ]
          exact this
      · rw [if_neg hnm] at hj
        by_cases a1 : lv < o
        · rw [if_pos a1] at hj; cases hj
        rw [if_neg a1] at hj
        obtain ⟨u, e, hl, hp⟩ := best (l := r) (k := k + 1) (lg := lg - o) (lv := lv - o) (d := d) (v := v) hr hu (fun i hi => by have := hk' i hi; omega) hj (by omega) (fun h => by have := hd h; omega) (by omega) (by omega)
        exact ⟨u, by rw [gr_c, if_neg c, e], hl, hp⟩
end K48
end Ev

set_option maxRecDepth 100000
namespace Ev
open PySem
namespace K48
theorem at_D {l : List Int} {k : Nat} (h : k < l.length) : L2.atI (l.map PyData.int) (k : Int) = some (.int (l.getD k 0)) := by
  rw [D.atI_map]; simp [List.getElem?_eq_getElem h, List.getD_eq_getElem?_getD]
theorem zip_get {u : List Int} {i : Nat} {p : Int × Nat} (h : u.zipIdx[i]? = some p) : p.1 ∈ u ∧ p.2 = i ∧ i < u.length := by
  have h2 := (List.getElem?_eq_some_iff.mp h)
  obtain ⟨hl, e⟩ := h2
  rw [List.length_zipIdx] at hl
  rw [List.getElem_zipIdx] at e
  subst e
  exact ⟨List.getElem_mem _, by simp, hl⟩
def jdP (p : Bool × Int) : PyData := .tuple [if p.1 = true then S "enough" else S "worn", .int p.2]
theorem up_next {u : List Int} (h : u.Pairwise (· < ·)) {k : Nat} (hk : k < u.length - 1) : u.getD k 0 < u.getD (k + 1) 0 := by
  rw [List.getD_eq_getElem?_getD, List.getD_eq_getElem?_getD, List.getElem?_eq_getElem (by omega), List.getElem?_eq_getElem (by omega)]
  exact List.pairwise_iff_getElem.mp h _ _ _ _ (by omega)
set_option maxHeartbeats 2000000 in
theorem t_judge {l u : List Int} {i : Int} (h : l.length ≤ 60) (h2 : ∀ i ∈ l, 0 ≤ i ∧ i ≤ 1000) (hi : 1 ≤ i ∧ i ≤ 1000) (hu : ∀ i ∈ u, 0 ≤ i ∧ i < l.length) (hL : u.length ≤ 100000) (hup : u.Pairwise (· < ·)) :
    m_judge_copies [.d (.int i), .d (T l), .d (T u)] = .ok (.v (jdP (jd i u l 0 i)), [some (.d (.int i)), some (.d (T l)), some (.d (T u))]) := by
  have e1 := life_i hi
  have e2 := runs_T h h2
  rw [r_judge_copies]
  simp_arith [b_judge_copies, s_judge_copies_0, s_judge_copies_1, s_judge_copies_2, s_judge_copies_3, s_judge_copies_4, s_judge_copies_5, s_judge_copies_6, c_judge_copies, e1, e2]
  generalize hg : lcGo _ _ _ _ = o
  have ho := D.lcm hg (fun _ : Int => .bool true) fun x hm => by
    simp_arith [c_judge_copies, int_i, decide_eq_true (hu x hm).1, decide_eq_true (hu x hm).2]
  subst ho
  simp_arith [all_t]
  generalize hg : lcGo _ _ _ _ = o
  have ho := D.lcs hg (fun _ : Nat => false) (fun _ => .int 1) fun x hm => by
    have hx := List.mem_range.mp hm
    have a1 := at_D (l := u) (k := x) (by omega)
    have a2 := at_D (l := u) (k := x + 1) (by omega)
    rw [show ((x + 1 : Nat) : Int) = (x : Int) + 1 by omega] at a2
    simp_arith [a1, a2, decide_eq_false (show ¬ u.getD (x + 1) 0 ≤ u.getD x 0 by have := up_next hup hx; omega)]
  subst ho
  simp_arith [D.fil_false]
  generalize hg : forGo _ _ _ = o
  rcases D.loopX hg (fun k e => ∃ (left : Int) (z1 z2 : Option W), jd i u l 0 i = jd i u (l.drop k) k left ∧ e = [some (.d (.int i)), some (.d (T l)), some (.d (T u)), some (.d (.int left)), z1, z2]) (fun o => ∃ (left : Int) (z1 z2 : Option W) (k : Nat), jd i u l 0 i = (false, (k : Int)) ∧ o = .rt [some (.d (.int i)), some (.d (T l)), some (.d (T u)), some (.d (.int left)), z1, z2] (.v (.tuple [S "worn", .int k]))) ⟨i, none, none, rfl, rfl⟩ (by
    rintro k ⟨own, at_⟩ _ hp ⟨left, z1, z2, hen, rfl⟩ J R hJ hR
    obtain ⟨h1, h2, h3⟩ := zip_get hp
    have h2 : at_ = k := h2
    subst h2
    have hown : l[at_] = own := by
      rw [List.getElem?_zipIdx, List.getElem?_eq_getElem h3] at hp
      simpa using hp
    rw [List.drop_eq_getElem_cons h3, hown] at hen
    rw [jd_c] at hen
    by_cases qA : (at_ : Int) ∈ u
    · rw [if_pos qA] at hen
      by_cases qB : left < 1
      · rw [if_pos qB] at hen
        simp_arith [f_judge_copies_0, D.in_tints, decide_eq_true qA, decide_eq_true qB]
        exact hR _ ⟨_, _, _, at_, hen, rfl⟩
      · rw [if_neg qB] at hen
        by_cases qC : i < own
        · rw [if_pos qC] at hen
          simp_arith [f_judge_copies_0, D.in_tints, decide_eq_true qA, decide_eq_false qB, decide_eq_true qC]
          exact hR _ ⟨_, _, _, at_, hen, rfl⟩
        · rw [if_neg qC] at hen
          simp_arith [f_judge_copies_0, D.in_tints, decide_eq_true qA, decide_eq_false qB, decide_eq_false qC]
          exact hJ _ ⟨_, _, _, hen, rfl⟩
    · rw [if_neg qA] at hen
      by_cases qC : left < own
      · rw [if_pos qC] at hen
        simp_arith [f_judge_copies_0, D.in_tints, decide_eq_false qA, decide_eq_true qC]
        exact hR _ ⟨_, _, _, at_, hen, rfl⟩
      · rw [if_neg qC] at hen
        simp_arith [f_judge_copies_0, D.in_tints, decide_eq_false qA, decide_eq_false qC]
        exact hJ _ ⟨_, _, _, hen, rfl⟩) with ⟨_, rfl, left, z1, z2, hen, rfl⟩ | ⟨left, z1, z2, k, hen, rfl⟩
  · rw [List.length_zipIdx, List.drop_length] at hen
    have hen : jd i u l 0 i = (true, left) := hen
    simp_arith [hen, jdP]
  · simp_arith [hen, jdP]
/-- the law's own -/
theorem t_done {l u : List Int} {i : Int} (h : l.length ≤ 60) : m_law_done [.d (.int i), .d (T l), .d (T u)] = .ok (.v (jdP (jd i u l 0 i)), [some (.d (.int i)), some (.d (T l)), some (.d (T u))]) := by
  rw [r_law_done]
  simp_arith [b_law_done, s_law_done_0, s_law_done_1]
  generalize hg : forGo _ _ _ = o
  rcases D.loopXR hg (fun k e => ∃ (left : Int) (z : Option W), jd i u l 0 i = jd i u (l.drop k) k left ∧ e = [some (.d (.int i)), some (.d (T l)), some (.d (T u)), some (.d (.int left)), z]) (fun o => ∃ (left : Int) (z : Option W) (k : Nat), jd i u l 0 i = (false, (k : Int)) ∧ o = .rt [some (.d (.int i)), some (.d (T l)), some (.d (T u)), some (.d (.int left)), z] (.v (.tuple [S "worn", .int k]))) ⟨i, none, rfl, rfl⟩ (by
    rintro k _ hk ⟨left, z, hen, rfl⟩ J R hJ hR
    have a1 := at_D hk
    rw [List.drop_eq_getElem_cons hk] at hen
    have hge : l.getD k 0 = l[k] := by simp [List.getD_eq_getElem?_getD, List.getElem?_eq_getElem hk]
    rw [hge] at a1
    generalize l[k] = own at *
    rw [jd_c] at hen
    by_cases qA : (k : Int) ∈ u
    · rw [if_pos qA] at hen
      by_cases qB : left < 1
      · rw [if_pos qB] at hen
        simp_arith [f_law_done_0, D.in_tints, decide_eq_true qA, decide_eq_true qB]
        exact hR _ ⟨_, _, k, hen, rfl⟩
      · rw [if_neg qB] at hen
        by_cases qC : i < own
        · rw [if_pos qC] at hen
          simp_arith [f_law_done_0, D.in_tints, decide_eq_true qA, decide_eq_false qB, a1, decide_eq_true qC]
          exact hR _ ⟨_, _, k, hen, rfl⟩
        · rw [if_neg qC] at hen
          simp_arith [f_law_done_0, D.in_tints, decide_eq_true qA, decide_eq_false qB, a1, decide_eq_false qC]
          exact hJ _ ⟨_, _, hen, rfl⟩
    · rw [if_neg qA] at hen
      by_cases qC : left < own
      · rw [if_pos qC] at hen
        simp_arith [f_law_done_0, D.in_tints, decide_eq_false qA, a1, decide_eq_true qC]
        exact hR _ ⟨_, _, k, hen, rfl⟩
      · rw [if_neg qC] at hen
        simp_arith [f_law_done_0, D.in_tints, decide_eq_false qA, a1, decide_eq_false qC]
        exact hJ _ ⟨_, _, hen, rfl⟩) with ⟨_, rfl, left, z, hen, rfl⟩ | ⟨left, z, k, hen, rfl⟩
  · rw [List.drop_length] at hen
    have hen : jd i u l 0 i = (true, left) := hen
    simp_arith [s_law_done_2, hen, jdP]
  · simp_arith [hen, jdP]
def grP : Option (List Int) → PyData
  | none => .none
  | some u => T u
theorem grP_none : grP none = .none := rfl
theorem grP_some (u : List Int) : grP (some u) = T u := rfl
theorem map_app (f : List Int) (k : Int) (o : Option (List Int)) : (o.map (List.cons k)).map (f ++ ·) = o.map ((f ++ [k]) ++ ·) := by
  cases o <;> simp
theorem map_nil (o : Option (List Int)) : o.map (([] : List Int) ++ ·) = o := by
  cases o <;> simp
set_option maxHeartbeats 2000000 in
theorem t_ahead {l : List Int} {i : Int} (h : l.length ≤ 60) (h2 : ∀ i ∈ l, 0 ≤ i ∧ i ≤ 1000) (hi : 1 ≤ i ∧ i ≤ 1000) :
    m_copies_ahead [.d (.int i), .d (T l)] = .ok (.v (grP (gr i l 0 i)), [some (.d (.int i)), some (.d (T l))]) := by
  have e1 := life_i hi
  have e2 := runs_T h h2
  rw [r_copies_ahead]
  simp_arith [b_copies_ahead, s_copies_ahead_0, s_copies_ahead_1, s_copies_ahead_2, s_copies_ahead_3, s_copies_ahead_4, c_copies_ahead, e1, e2]
  generalize hg : forGo _ _ _ = o
  rcases D.loopX hg (fun k e => ∃ (left : Int) (f : List Int) (z1 z2 z3 : Option W), f.length ≤ k ∧ gr i l 0 i = (gr i (l.drop k) k left).map (f ++ ·) ∧ e = [some (.d (.int i)), some (.d (T l)), some (.l (f.map .int)), some (.d (.int left)), z1, z2, z3]) (fun o => gr i l 0 i = none ∧ ∃ (left : Int) (f : List PyData) (z1 z2 z3 : Option W), o = .rt [some (.d (.int i)), some (.d (T l)), some (.l f), some (.d (.int left)), z1, z2, z3] (.v .none)) ⟨i, [], none, none, none, Nat.le_refl _, (map_nil _).symm, rfl⟩ (by
    rintro k ⟨own, at_⟩ _ hp ⟨left, f, z1, z2, z3, hfl, hen, rfl⟩ J R hJ hR
    obtain ⟨h1, h2, h3⟩ := zip_get hp
    have h2 : at_ = k := h2
    subst h2
    have hown : l[at_] = own := by
      rw [List.getElem?_zipIdx, List.getElem?_eq_getElem h3] at hp
      simpa using hp
    rw [List.drop_eq_getElem_cons h3, hown] at hen
    rw [gr_c] at hen
    have hcut : cut l (some ((at_ : Int) + 1)) none = l.drop (at_ + 1) := by
      rw [show (at_ : Int) + 1 = ((at_ + 1 : Nat) : Int) by omega, D.cut_drop]
    generalize hm : (l.drop (at_ + 1)).sum = more at *
    by_cases qA : left < own
    · rw [if_pos (.inl qA)] at hen
      by_cases s1 : left < 1
      · rw [if_pos (.inl s1)] at hen
        simp_arith [f_copies_ahead_0, hcut, hm, decide_eq_true qA, decide_eq_true s1]
        exact hR _ ⟨hen, _, _, _, _, _, rfl⟩
      by_cases s2 : i < own
      · rw [if_pos (.inr (.inl s2))] at hen
        simp_arith [f_copies_ahead_0, hcut, hm, decide_eq_true qA, decide_eq_false s1, decide_eq_true s2]
        exact hR _ ⟨hen, _, _, _, _, _, rfl⟩
      by_cases s3 : own = i
      · by_cases s4 : 0 < more
        · rw [if_pos (.inr (.inr ⟨s3, s4⟩))] at hen
          simp_arith [f_copies_ahead_0, hcut, hm, decide_eq_true qA, decide_eq_false s1, decide_eq_false s2, decide_eq_true s3, decide_eq_true s4]
          exact hR _ ⟨hen, _, _, _, _, _, rfl⟩
        · rw [if_neg (by omega), map_app] at hen
          simp_arith [f_copies_ahead_0, hcut, hm, decide_eq_true qA, decide_eq_false s1, decide_eq_false s2, decide_eq_true s3, decide_eq_false s4]
          exact hJ _ ⟨_, f ++ [(at_ : Int)], some (.d (.int at_)), some (.d (.int own)), some (.d (.int more)), by rw [List.length_append]; simp; omega, hen, by simp⟩
      · rw [if_neg (by omega), map_app] at hen
        simp_arith [f_copies_ahead_0, hcut, hm, decide_eq_true qA, decide_eq_false s1, decide_eq_false s2, decide_eq_false s3]
        exact hJ _ ⟨_, f ++ [(at_ : Int)], some (.d (.int at_)), some (.d (.int own)), some (.d (.int more)), by rw [List.length_append]; simp; omega, hen, by simp⟩
    · by_cases qB : own = left
      · by_cases qC : 0 < more
        · rw [if_pos (.inr ⟨qB, qC⟩)] at hen
          by_cases s1 : left < 1
          · rw [if_pos (.inl s1)] at hen
            simp_arith [f_copies_ahead_0, hcut, hm, decide_eq_false qA, decide_eq_true qB, decide_eq_true qC, decide_eq_true s1]
            exact hR _ ⟨hen, _, _, _, _, _, rfl⟩
          by_cases s2 : i < own
          · rw [if_pos (.inr (.inl s2))] at hen
            simp_arith [f_copies_ahead_0, hcut, hm, decide_eq_false qA, decide_eq_true qB, decide_eq_true qC, decide_eq_false s1, decide_eq_true s2]
            exact hR _ ⟨hen, _, _, _, _, _, rfl⟩
          by_cases s3 : own = i
          · rw [if_pos (.inr (.inr ⟨s3, qC⟩))] at hen
            simp_arith [f_copies_ahead_0, hcut, hm, decide_eq_false qA, decide_eq_true qB, decide_eq_true qC, decide_eq_false s1, decide_eq_false s2, decide_eq_true s3]
            exact hR _ ⟨hen, _, _, _, _, _, rfl⟩
          · rw [if_neg (by omega), map_app] at hen
            simp_arith [f_copies_ahead_0, hcut, hm, decide_eq_false qA, decide_eq_true qB, decide_eq_true qC, decide_eq_false s1, decide_eq_false s2, decide_eq_false s3]
            exact hJ _ ⟨_, f ++ [(at_ : Int)], some (.d (.int at_)), some (.d (.int own)), some (.d (.int more)), by rw [List.length_append]; simp; omega, hen, by simp⟩
        · rw [if_neg (by omega)] at hen
          simp_arith [f_copies_ahead_0, hcut, hm, decide_eq_false qA, decide_eq_true qB, decide_eq_false qC]
          exact hJ _ ⟨_, f, _, _, _, by omega, hen, rfl⟩
      · rw [if_neg (by omega)] at hen
        simp_arith [f_copies_ahead_0, hcut, hm, decide_eq_false qA, decide_eq_false qB]
        exact hJ _ ⟨_, f, _, _, _, by omega, hen, rfl⟩) with ⟨_, rfl, left, f, z1, z2, z3, hfl, hen, rfl⟩ | ⟨hen, left, f, z1, z2, z3, rfl⟩
  · rw [List.length_zipIdx, List.drop_length] at hen
    have hen : gr i l 0 i = some (f ++ []) := hen
    rw [List.append_nil] at hen
    rw [List.length_zipIdx] at hfl
    simp_arith [s_copies_ahead_5, hen, grP_some]
  · simp_arith [hen, grP_none]
end K48
end Ev

set_option maxRecDepth 100000
namespace Ev
open PySem
namespace K48
theorem ne_ee : opCmp .ne (S "enough") (S "enough") = some false := by decide +kernel
theorem t_acc_late {l u v : List Int} {i : Int} (h : l.length ≤ 60) (h2 : ∀ i ∈ l, 0 ≤ i ∧ i ≤ 1000) (hi : 1 ≤ i ∧ i ≤ 1000) (hu : ∀ i ∈ u, 0 ≤ i ∧ i < l.length) (hup : u.Pairwise (· < ·)) (hv : ∀ i ∈ v, 0 ≤ i ∧ i < l.length) (hvp : v.Pairwise (· < ·)) (lu : u.length ≤ 100000) (lv : v.length ≤ 100000)
    (gu : (jd i u l 0 i).1 = true) (gv : (jd i v l 0 i).1 = true) (hl : u.length ≤ v.length) (hp : ∀ k, k < u.length → v.getD k 0 ≤ u.getD k 0) :
    m_accept_late [.d (.int i), .d (T l), .d (T u), .d (T v)] = .ok (.v .none, [some (.d (.int i)), some (.d (T l)), some (.d (T u)), some (.d (T v))]) := by
  have j1 := t_judge h h2 hi hu lu hup
  have j2 := t_judge h h2 hi hv lv hvp
  simp only [jdP, gu, if_true] at j1
  simp only [jdP, gv, if_true] at j2
  rw [r_accept_late]
  simp_arith [b_accept_late, s_accept_late_0, s_accept_late_1, s_accept_late_2, f_accept_late_0, c_accept_late, j1, j2, ne_ee, D.forGo_cons, decide_eq_false (show ¬ v.length < u.length by omega)]
  generalize hg : lcGo _ _ _ _ = o
  have ho := D.lcs hg (fun _ : Int × Int => false) (fun _ => .int 1) fun p hm => by
    obtain ⟨k, hk, e⟩ := List.mem_iff_getElem.mp hm
    rw [List.length_zip] at hk
    rw [List.getElem_zip] at e
    have := hp k (by omega)
    rw [List.getD_eq_getElem?_getD, List.getD_eq_getElem?_getD, List.getElem?_eq_getElem (by omega), List.getElem?_eq_getElem (by omega)] at this
    have h3 : ¬ p.1 < p.2 := by
      rw [← e]
      show ¬ u[k] < v[k]
      simp only [Option.getD_some] at this
      omega
    simp_arith [decide_eq_false h3]
  subst ho
  simp_arith [D.fil_false]
set_option maxHeartbeats 2000000 in
theorem t_late {l : List Int} {i : Int} (h : l.length ≤ 60) (h2 : ∀ i ∈ l, 0 ≤ i ∧ i ≤ 1001) (hi : 1 ≤ i ∧ i ≤ 1000) :
    m_law_late [.d (.int i), .d (T l)] = .ok (.v (grP (gr i l 0 i)), [some (.d (.int i)), some (.d (T l))]) := by
  rw [r_law_late]
  simp_arith [b_law_late, s_law_late_0, s_law_late_1]
  generalize hg : forGo _ _ _ = o
  rcases D.loopXR hg (fun k e => ∃ (left : Int) (f : List Int) (z : Option W), 0 ≤ left ∧ f.length ≤ k ∧ gr i l 0 i = (gr i (l.drop k) k left).map (f ++ ·) ∧ e = [some (.d (.int i)), some (.d (T l)), z, some (.l (f.map .int)), some (.d (.int left)), some (.d (.int (l.drop k).sum))]) (fun o => gr i l 0 i = none ∧ ∃ (left : PyData) (f : List PyData) (z z5 : Option W), o = .rt [some (.d (.int i)), some (.d (T l)), z, some (.l f), some (.d left), z5] (.v .none)) ⟨i, [], none, by omega, Nat.le_refl _, (map_nil _).symm, rfl⟩ (by
    rintro k _ hk ⟨left, f, z, hl0, hfl, hen, rfl⟩ J R hJ hR
    have a1 := at_D hk
    have hge : l.getD k 0 = l[k] := by simp [List.getD_eq_getElem?_getD, List.getElem?_eq_getElem hk]
    rw [hge] at a1
    have hd := List.drop_eq_getElem_cons hk
    have hmm : (l.drop k).sum - l[k] = (l.drop (k + 1)).sum := by rw [hd, List.sum_cons]; omega
    rw [hd] at hen
    generalize l[k] = own at *
    rw [gr_c] at hen
    obtain ⟨more, hm1⟩ : ∃ m, (l.drop (k + 1)).sum = m := ⟨_, rfl⟩
    rw [hm1] at hmm hen
    by_cases qA : left < own
    · rw [if_pos (.inl qA)] at hen
      by_cases s1 : left = 0
      · rw [if_pos (.inl (by omega))] at hen
        simp_arith [f_law_late_0, a1, hmm, decide_eq_true qA, decide_eq_true s1]
        exact hR _ ⟨hen, _, _, _, _, rfl⟩
      by_cases s2 : i < own
      · rw [if_pos (.inr (.inl s2))] at hen
        simp_arith [f_law_late_0, a1, hmm, decide_eq_true qA, decide_eq_false s1, decide_eq_true s2]
        exact hR _ ⟨hen, _, _, _, _, rfl⟩
      by_cases s3 : i = own
      · by_cases s4 : 0 < more
        · rw [if_pos (.inr (.inr ⟨s3.symm, s4⟩))] at hen
          simp_arith [f_law_late_0, a1, hmm, decide_eq_true qA, decide_eq_false s1, decide_eq_false s2, decide_eq_true s3, decide_eq_true s4]
          exact hR _ ⟨hen, _, _, _, _, rfl⟩
        · rw [if_neg (by omega), map_app] at hen
          simp_arith [f_law_late_0, a1, hmm, decide_eq_true qA, decide_eq_false s1, decide_eq_false s2, decide_eq_true s3, decide_eq_false s4]
          exact hJ _ ⟨_, f ++ [(k : Int)], some (.d (.int k)), by omega, by rw [List.length_append]; simp; omega, hen, by rw [hm1, List.map_append]; rfl⟩
      · rw [if_neg (by omega), map_app] at hen
        simp_arith [f_law_late_0, a1, hmm, decide_eq_true qA, decide_eq_false s1, decide_eq_false s2, decide_eq_false s3]
        exact hJ _ ⟨_, f ++ [(k : Int)], some (.d (.int k)), by omega, by rw [List.length_append]; simp; omega, hen, by rw [hm1, List.map_append]; rfl⟩
    · by_cases qB : left = own
      · by_cases qC : 0 < more
        · rw [if_pos (.inr ⟨qB.symm, qC⟩)] at hen
          by_cases s1 : left = 0
          · rw [if_pos (.inl (by omega))] at hen
            simp_arith [f_law_late_0, a1, hmm, decide_eq_false qA, decide_eq_true qB, decide_eq_true qC, decide_eq_true s1]
            exact hR _ ⟨hen, _, _, _, _, rfl⟩
          by_cases s2 : i < own
          · rw [if_pos (.inr (.inl s2))] at hen
            simp_arith [f_law_late_0, a1, hmm, decide_eq_false qA, decide_eq_true qB, decide_eq_true qC, decide_eq_false s1, decide_eq_true s2]
            exact hR _ ⟨hen, _, _, _, _, rfl⟩
          by_cases s3 : i = own
          · rw [if_pos (.inr (.inr ⟨s3.symm, qC⟩))] at hen
            simp_arith [f_law_late_0, a1, hmm, decide_eq_false qA, decide_eq_true qB, decide_eq_true qC, decide_eq_false s1, decide_eq_false s2, decide_eq_true s3]
            exact hR _ ⟨hen, _, _, _, _, rfl⟩
          · rw [if_neg (by omega), map_app] at hen
            simp_arith [f_law_late_0, a1, hmm, decide_eq_false qA, decide_eq_true qB, decide_eq_true qC, decide_eq_false s1, decide_eq_false s2, decide_eq_false s3]
            exact hJ _ ⟨_, f ++ [(k : Int)], some (.d (.int k)), by omega, by rw [List.length_append]; simp; omega, hen, by rw [hm1, List.map_append]; rfl⟩
        · rw [if_neg (by omega)] at hen
          simp_arith [f_law_late_0, a1, hmm, decide_eq_false qA, decide_eq_true qB, decide_eq_false qC]
          exact hJ _ ⟨_, f, some (.d (.int k)), by omega, by omega, hen, by rw [hm1]⟩
      · rw [if_neg (by omega)] at hen
        simp_arith [f_law_late_0, a1, hmm, decide_eq_false qA, decide_eq_false qB]
        exact hJ _ ⟨_, f, some (.d (.int k)), by omega, by omega, hen, by rw [hm1]⟩) with ⟨_, rfl, left, f, z, hl0, hfl, hen, rfl⟩ | ⟨hen, left, f, z, z5, rfl⟩
  · rw [List.drop_length] at hen
    have hen : gr i l 0 i = some (f ++ []) := hen
    rw [List.append_nil] at hen
    simp_arith [s_law_late_2, hen, grP_some]
  · simp_arith [hen, grP_none]
end K48
end Ev

set_option maxRecDepth 100000
namespace Ev
open PySem
namespace K48
def subs : Nat → List (List Int)
  | 0 => [[]]
  | n + 1 => subs n ++ (subs n).map (· ++ [(n : Int)])
theorem subs_len : ∀ n, (subs n).length = 2 ^ n
  | 0 => rfl
  | n + 1 => by
    show (subs n ++ (subs n).map (· ++ [(n : Int)])).length = _
    rw [List.length_append, List.length_map, subs_len n, Nat.pow_succ]; omega
theorem subs_of : ∀ {n : Nat} {u : List Int}, u ∈ subs n → u.Pairwise (· < ·) ∧ (∀ i ∈ u, 0 ≤ i ∧ i < n) ∧ u.length ≤ n
  | 0, u, h => by
    obtain rfl := List.mem_singleton.mp (show u ∈ [[]] from h)
    exact ⟨List.Pairwise.nil, by simp, by simp⟩
  | n + 1, u, h => by
    rcases List.mem_append.mp (show u ∈ subs n ++ (subs n).map (· ++ [(n : Int)]) from h) with h | h
    · obtain ⟨h1, h2, h3⟩ := subs_of h
      exact ⟨h1, fun i hi => by have := h2 i hi; omega, by omega⟩
    · obtain ⟨v, hv, rfl⟩ := List.mem_map.mp h
      obtain ⟨h1, h2, h3⟩ := subs_of hv
      refine ⟨List.pairwise_append.mpr ⟨h1, List.pairwise_singleton _ _, fun a ha b hb => ?_⟩, fun i hi => ?_, by simp; omega⟩
      · rw [List.mem_singleton.mp hb]; exact (h2 a ha).2
      · rcases List.mem_append.mp hi with hi | hi
        · have := h2 i hi; omega
        · rw [List.mem_singleton.mp hi]; omega
theorem subs_mem : ∀ {n : Nat} {u : List Int}, u.Pairwise (· < ·) → (∀ i ∈ u, 0 ≤ i ∧ i < n) → u ∈ subs n
  | 0, u, _, h => by
    cases u with
    | nil => exact List.mem_singleton.mpr rfl
    | cons a u => have := h a (by simp); omega
  | n + 1, u, hp, h => by
    show u ∈ subs n ++ (subs n).map (· ++ [(n : Int)])
    rcases List.eq_nil_or_concat u with rfl | ⟨v, a, rfl⟩
    · exact List.mem_append_left _ (subs_mem List.Pairwise.nil (by simp))
    · rw [List.concat_eq_append] at *
      obtain ⟨h1, _, h3⟩ := List.pairwise_append.mp hp
      have ha := h a (by simp)
      have hv : ∀ i ∈ v, 0 ≤ i ∧ i < a := fun i hi => ⟨(h i (by simp [hi])).1, h3 i hi a (by simp)⟩
      by_cases c : a = n
      · subst c
        exact List.mem_append_right _ (List.mem_map.mpr ⟨v, subs_mem h1 fun i hi => hv i hi, rfl⟩)
      · refine List.mem_append_left _ (subs_mem hp fun i hi => ?_)
        rcases List.mem_append.mp hi with hi | hi
        · have := hv i hi; omega
        · rw [List.mem_singleton.mp hi]; omega
def goods (i : Int) (l : List Int) : List (List Int) := (subs l.length).filter fun u => (jd i u l 0 i).1
theorem goods_of {i : Int} {l u : List Int} (h : u ∈ goods i l) : u ∈ subs l.length ∧ (jd i u l 0 i).1 = true := List.mem_filter.mp h
/-- what the greedy one is among all -/
theorem gr_best {i : Int} {l : List Int} (h2 : ∀ i ∈ l, 0 ≤ i) (hi : 1 ≤ i) {v : List Int} (hv : v ∈ goods i l) : ∃ u, gr i l 0 i = some u ∧ u.length ≤ v.length ∧ ∀ k, k < u.length → v.getD k 0 ≤ u.getD k 0 := by
  obtain ⟨h, hj⟩ := goods_of hv
  obtain ⟨p1, p2, p3⟩ := subs_of h
  obtain ⟨u, e, a1, a2⟩ := best (life := i) (l := l) (k := 0) (lg := i) (lv := i) (d := 0) (v := v) h2 p1 (fun i hi => by have := p2 i hi; omega) hj (Int.le_refl _) (fun _ => Int.le_refl _) (by omega) (.inl hi)
  exact ⟨u, e, a1, fun k hk => a2 k (Nat.zero_le _) hk⟩
theorem gr_in {i : Int} {l u : List Int} (h : gr i l 0 i = some u) : u ∈ goods i l := by
  refine List.mem_filter.mpr ⟨subs_mem (gr_up h) fun i hi => ?_, gr_good h⟩
  have := gr_ge h i hi
  omega
theorem gr_nil {i : Int} {l : List Int} (h2 : ∀ i ∈ l, 0 ≤ i) (hi : 1 ≤ i) : (gr i l 0 i = none ∧ goods i l = []) ∨ ∃ u v r, gr i l 0 i = some u ∧ goods i l = v :: r := by
  cases hg : goods i l with
  | nil =>
    left
    cases h : gr i l 0 i with
    | none => exact ⟨rfl, rfl⟩
    | some u => have := gr_in h; rw [hg] at this; cases this
  | cons v r =>
    right
    obtain ⟨u, e, _⟩ := gr_best (v := v) h2 hi (by rw [hg]; simp)
    exact ⟨u, v, r, e, rfl⟩
theorem t_pickL (s : DS) (h : s.ok) {xs : List PyData} (hn : 0 < xs.length) (hn2 : xs.length ≤ 100000) : ∃ (x : PyData) (s' : DS), x ∈ xs ∧ s'.ok ∧ m_law_pick [.l s.enc, .l xs] = .ok (.v x, [some (.l s'.enc), some (.l xs)]) := by
  obtain ⟨i, s', hi, hs, e⟩ := tde s h xs.length hn (by omega)
  refine ⟨xs[i], s', List.getElem_mem hi, hs, ?_⟩
  have ha : L2.atI xs (i : Int) = some xs[i] := by rw [D.atI_n]; simp [List.getElem?_eq_getElem hi]
  rw [r_law_pick]
  simp_arith [b_law_pick, s_law_pick_0, c_law_pick, e, ha]
theorem eqv_T (a b : List Int) : PyData.eqv (T a) (T b) = decide (a = b) := by
  have := D.eqvAll_ints a b
  simpa [PyData.eqv] using this
theorem fit_G {G : List (List Int)} (h : G.length ≤ 128) (h2 : ∀ u ∈ G, u.length ≤ 7 ∧ ∀ i ∈ u, i.natAbs < 10 ^ 30) : D.Fit 2 300000 (.list (G.map T)) := D.Fit.lst (n := 2000) (fun x hx => by
  obtain ⟨u, hu, rfl⟩ := List.mem_map.mp hx
  exact fit_T (by have := (h2 u hu).1; omega) (h2 u hu).2) (by simp; omega)
theorem nin_T {u : List Int} {G : List (List Int)} (hf : D.Fit 2 300000 (.list (G.map T))) (hu : u ∈ G) : opCmp .nin (T u) (.list (G.map T)) = some false := by
  show (if (shp _ && shp _) = true then _ else _) = _
  rw [D.shp_tints, hf.shp (by decide), if_pos (show (true && true) = true from rfl)]
  have : ((G.map T).any fun z => PyData.eqv z (T u)) = true := by
    rw [List.any_eq_true]
    exact ⟨T u, List.mem_map.mpr ⟨u, hu, rfl⟩, by rw [eqv_T]; exact decide_eq_true rfl⟩
  rw [this]; rfl
theorem fit_jdP (p : Bool × Int) (h : p.2.natAbs < 10 ^ 30) : D.Fit 60 400000 (jdP p) := by
  refine (D.Fit.tup (k := 0) (n := 100) (m := 1000) (fun x hx => ?_) (by simp)).up (by decide) (by decide)
  rcases List.mem_cons.mp hx with rfl | hx
  · cases p.1 <;> exact D.Fit.str (by decide +kernel) (by decide +kernel)
  · rw [List.mem_singleton.mp hx]; exact fit_i h
theorem jd_bd {life : Int} {u : List Int} : ∀ {l : List Int} {k : Nat} {left : Int}, (∀ i ∈ l, 0 ≤ i) → 0 ≤ left → left ≤ life → life ≤ 1000 → k + l.length ≤ 1000 → (jd life u l k left).2.natAbs < 10 ^ 30
  | [], _, left, _, h0, h1, h2, _ => by
    show left.natAbs < 10 ^ 30
    omega
  | o :: r, k, left, hn, h0, h1, h2, h3 => by
    have ho := hn o (by simp)
    have hr : ∀ i ∈ r, 0 ≤ i := fun i hi => hn i (by simp [hi])
    simp only [List.length_cons] at h3
    rw [jd_c]
    have hk : ((k : Nat) : Int).natAbs < 10 ^ 30 := by omega
    split
    · split
      · exact hk
      · split
        · exact hk
        · exact jd_bd hr (by omega) (by omega) h2 (by omega)
    · split
      · exact hk
      · exact jd_bd hr (by omega) (by omega) h2 (by omega)
end K48
end Ev

set_option maxRecDepth 100000
namespace Ev
open PySem
namespace K48
theorem eq_ee : opCmp .eq (S "enough") (S "enough") = some true := by decide +kernel
theorem eq_we : opCmp .eq (S "worn") (S "enough") = some false := by decide +kernel
theorem isN_T (u : List Int) : opCmp .isN (T u) .none = some false := rfl
abbrev rE (s : DS) (life : Int) (l : List Int) (z3 z4 z5 z6 z7 z8 z9 : Option W) : Env := [some (.l s.enc), some (.d (.int life)), some (.d (T l)), z3, z4, z5, z6, z7, z8, z9, none, none]
theorem ru0 {s : DS} (os : s.ok) : ∃ (s' : DS) (i : Int) (l : List Int), s'.ok ∧ (1 ≤ i ∧ i ≤ 10) ∧ l.length ≤ 7 ∧ (∀ j ∈ l, 0 ≤ j ∧ j ≤ 12) ∧ ∀ r, exs G32 (s_law_runs_hold_0 :: s_law_runs_hold_1 :: r) [some (.l s.enc), none, none, none, none, none, none, none, none, none, none, none] = exs G32 r (rE s' i l none none none none none none none) := by
  suffices h : ∃ (s' : DS) (i : Int) (l : List Int), s'.ok ∧ (1 ≤ i ∧ i ≤ 10) ∧ l.length ≤ 7 ∧ (∀ j ∈ l, 0 ≤ j ∧ j ≤ 12) ∧ exs G32 [s_law_runs_hold_0, s_law_runs_hold_1] [some (.l s.enc), none, none, none, none, none, none, none, none, none, none, none] = .nx (rE s' i l none none none none none none none) by
    obtain ⟨s', i, l, a, b, c, d, h⟩ := h
    exact ⟨s', i, l, a, b, c, d, fun r => D.exs_appD G32 [_, _] h⟩
  obtain ⟨x, s1, hx, o1, e1⟩ := t_pick s os (xs := [.int 3, .int 10]) (by simp) (by simp)
  obtain ⟨n, rfl, hn⟩ : ∃ n : Int, x = .int n ∧ 1 ≤ n ∧ n ≤ 10 := by
    simp only [List.mem_cons, List.not_mem_nil, or_false] at hx
    rcases hx with rfl | rfl <;> exact ⟨_, rfl, by omega, by omega⟩
  obtain ⟨d1, s2, h2, o2, e2⟩ := tdc s1 o1 n (by omega) (by omega)
  obtain ⟨d2, s3, h3, o3, e3⟩ := tdc s2 o2 8 (by decide) (by decide)
  simp_arith [s_law_runs_hold_0, s_law_runs_hold_1, c_law_runs_hold, e1, e2, e3]
  obtain ⟨i, hi⟩ : ∃ i : Int, 1 + (d1 : Int) = i := ⟨_, rfl⟩
  rw [hi]
  generalize hg : lcGo _ _ _ _ = o
  obtain ⟨_, _, rfl, s4, l, o4, hl1, hl2, rfl, rfl⟩ := D.lciR hg (fun q e ys => ∃ (s : DS) (r : List Int), s.ok ∧ r.length = q ∧ (∀ j ∈ r, 0 ≤ j ∧ j ≤ 12) ∧ ys = r.map .int ∧ e = [some (.l s.enc), some (.d (.int i)), none, none, none, none, none, none, none, none, none, none]) ⟨s3, [], o3, rfl, by simp, rfl, rfl⟩ (by
    rintro q _ _ hq ⟨s, r, os, hr1, hr2, rfl, rfl⟩ J hJ
    obtain ⟨x, s1, hx, o1, e1⟩ := t_pick s os (xs := [.int (i + 1), .int (i + 1), .int (i + 2), .int 3]) (by simp) (by simp)
    obtain ⟨n, rfl, hn⟩ : ∃ n : Int, x = .int n ∧ 1 ≤ n ∧ n ≤ 12 := by
      simp only [List.mem_cons, List.not_mem_nil, or_false] at hx
      rcases hx with rfl | rfl | rfl | rfl <;> exact ⟨_, rfl, by omega, by omega⟩
    obtain ⟨d, s2, h2, o2, e2⟩ := tdc s1 o1 n (by omega) (by omega)
    simp_arith [c_law_runs_hold, e1, e2]
    refine hJ _ _ ⟨s2, r ++ [(d : Int)], o2, by simp [hr1], fun j hj => ?_, by simp, rfl⟩
    rcases List.mem_append.mp hj with h | h
    · exact hr2 j h
    · rw [List.mem_singleton.mp h]; omega)
  refine ⟨s4, i, l, o4, by omega, by omega, hl2, ?_⟩
  simp_arith [Ev.D.bind_ok]
theorem ru1 {s : DS} {i : Int} {l : List Int} (hl : l.length ≤ 7) : ∃ z4, ∀ r, exs G32 (s_law_runs_hold_2 :: s_law_runs_hold_3 :: r) (rE s i l none none none none none none none) = exs G32 r (rE s i l (some (.l ((subs l.length).map T))) z4 none none none none none) := by
  suffices h : ∃ z4, exs G32 [s_law_runs_hold_2, s_law_runs_hold_3] (rE s i l none none none none none none none) = .nx (rE s i l (some (.l ((subs l.length).map T))) z4 none none none none none) by
    obtain ⟨z4, h⟩ := h
    exact ⟨z4, fun r => D.exs_appD G32 [_, _] h⟩
  simp_arith [s_law_runs_hold_2, s_law_runs_hold_3]
  generalize hg : forGo _ _ _ = o
  obtain ⟨_, rfl, z4, rfl⟩ := D.loopR hg (fun k e => ∃ z4, e = rE s i l (some (.l ((subs k).map T))) z4 none none none none none) ⟨none, rfl⟩ (by
    rintro k _ hk ⟨z4, rfl⟩ J R hJ
    have hs := subs_len k
    have hp : 2 ^ k ≤ 2 ^ 7 := Nat.pow_le_pow_right (by decide) (by omega)
    simp_arith [f_law_runs_hold_0]
    generalize hg : lcGo _ _ _ _ = o
    have ho := D.lcm hg (fun u : List Int => T (u ++ [(k : Int)])) fun u hu => by
      have := (subs_of hu).2.2
      simp_arith [Ev.D.bind_ok]
      simp [T]
    subst ho
    simp_arith [Ev.D.bind_ok]
    refine hJ _ ⟨some (.d (.int k)), ?_⟩
    show _ = rE s i l (some (.l ((subs k ++ (subs k).map (· ++ [(k : Int)])).map T))) _ none none none none none
    simp)
  refine ⟨z4, ?_⟩
  simp_arith [Ev.D.bind_ok]
set_option maxHeartbeats 4000000 in
theorem t_runs {s : DS} (os : s.ok) : ∃ s' : DS, s'.ok ∧ m_law_runs_hold [.l s.enc] = .ok (.v (.bool true), [some (.l s'.enc)]) := by
  obtain ⟨s1, i, l, o1, hi, hl, hl2, e0⟩ := ru0 os
  obtain ⟨z4, e1⟩ := ru1 (s := s1) (i := i) hl
  have h60 : l.length ≤ 60 := by omega
  have h1000 : ∀ j ∈ l, 0 ≤ j ∧ j ≤ 1000 := fun j hj => by have := hl2 j hj; omega
  have hn0 : ∀ j ∈ l, 0 ≤ j := fun j hj => (hl2 j hj).1
  have hslen := subs_len l.length
  have hp7 : 2 ^ l.length ≤ 2 ^ 7 := Nat.pow_le_pow_right (by decide) hl
  have hp0 : 0 < 2 ^ l.length := Nat.pow_pos (by decide)
  obtain ⟨x, s2, hx, o2, e2⟩ := t_pickL s1 o1 (xs := (subs l.length).map T) (by rw [List.length_map]; omega) (by rw [List.length_map]; omega)
  obtain ⟨w, hw, rfl⟩ := List.mem_map.mp hx
  obtain ⟨w1, w2, w3⟩ := subs_of hw
  have ea := t_ahead h60 h1000 (i := i) (by omega)
  have ej := t_judge h60 h1000 (i := i) (by omega) w2 (by omega) w1
  have ed := t_done (u := w) (i := i) h60
  have es := same_d (fit_jdP (jd i w l 0 i) (jd_bd hn0 (by omega) (by omega) (by omega) (by omega)))
  rw [r_law_runs_hold, b_law_runs_hold, e0, e1]
  simp_arith [s_law_runs_hold_4]
  generalize hg : lcGo _ _ _ _ = o
  have ho := D.lcs hg (fun u : List Int => (jd i u l 0 i).1) (fun u => T u) fun u hu => by
    have e := t_done (u := u) (i := i) h60
    cases hq : (jd i u l 0 i).1 <;> simp_arith [c_law_runs_hold, e, jdP, hq, eq_ee, eq_we]
  subst ho
  have hG : (subs l.length).filter (fun u : List Int => (jd i u l 0 i).1) = goods i l := rfl
  have hGl : (goods i l).length ≤ 128 := Nat.le_trans (List.length_filter_le _ _) (by omega)
  rw [hG]
  simp_arith [s_law_runs_hold_5, s_law_runs_hold_6, s_law_runs_hold_7, c_law_runs_hold, ea, e2, ej, ed, es]
  rcases gr_nil (l := l) (i := i) hn0 (by omega) with ⟨g1, g2⟩ | ⟨u, v0, r0, g1, g2⟩
  · refine ⟨s2, o2, ?_⟩
    simp_arith [s_law_runs_hold_8, g1, g2, grP_none]
  · have hu := gr_in g1
    have hub : ∀ v ∈ goods i l, u.length ≤ v.length ∧ ∀ k, k < u.length → v.getD k 0 ≤ u.getD k 0 := fun v hv => by
      obtain ⟨u', e, a, b⟩ := gr_best hn0 (by omega) hv
      rw [g1] at e
      cases e
      exact ⟨a, b⟩
    have hne : (goods i l).isEmpty = false := by rw [g2]; rfl
    have hGpos : 0 < (goods i l).length := by rw [g2]; simp
    have hfit := fit_G (G := goods i l) hGl fun v hv => by
      obtain ⟨p1, p2, p3⟩ := subs_of (goods_of hv).1
      exact ⟨by omega, fun j hj => by have := p2 j hj; omega⟩
    have hnin := nin_T hfit hu
    obtain ⟨hu1, hu2, hu3⟩ := subs_of (goods_of hu).1
    obtain ⟨x, s3, hx, o3, e3⟩ := t_pickL s2 o2 (xs := (goods i l).map T) (by rw [List.length_map]; omega) (by rw [List.length_map]; omega)
    obtain ⟨v, hv, rfl⟩ := List.mem_map.mp hx
    obtain ⟨hv1, hv2, hv3⟩ := subs_of (goods_of hv).1
    have k1 := t_acc_late h60 h1000 (i := i) (by omega) hu2 hu1 hv2 hv1 (by omega) (by omega) (goods_of hu).2 (goods_of hv).2 (hub v hv).1 (hub v hv).2
    have k2 := t_acc_late h60 h1000 (i := i) (by omega) hu2 hu1 hu2 hu1 (by omega) (by omega) (goods_of hu).2 (goods_of hu).2 (Nat.le_refl _) (fun _ _ => Int.le_refl _)
    generalize goods i l = G at *
    simp_arith [s_law_runs_hold_8, s_law_runs_hold_9, g1, grP_some, hne]
    generalize hg : lcGo _ _ _ _ = o
    have ho := D.lcm hg (fun v : List Int => .int v.length) fun v hv => by simp_arith [Ev.D.bind_ok]
    subst ho
    have hmin : opB1 .min (.list (G.map fun v : List Int => .int v.length)) = some (.v (.int u.length)) := by
      obtain ⟨m, hm, hm1, hm2⟩ := D.min_ints (l := G.map fun v : List Int => (v.length : Int)) (by intro h; rw [List.map_eq_nil_iff] at h; rw [h] at hGpos; simp at hGpos)
      have hm : minX (G.map fun v : List Int => PyData.int v.length) = some (.v (.int m)) := by rw [← hm, List.map_map]; rfl
      obtain ⟨v, hv, hve⟩ := List.mem_map.mp hm1
      have h1 := (hub v hv).1
      have h2 := hm2 _ (List.mem_map.mpr ⟨u, hu, rfl⟩)
      have : m = (u.length : Int) := by omega
      rw [← this]
      exact hm
    simp_arith [hmin, s_law_runs_hold_10, hnin, decide_eq_false (show ¬ ¬ (u.length : Int) = u.length from fun h => h rfl)]
    generalize hg : lcGo _ _ _ _ = o
    have ho := D.lcs hg (fun _ : List Int => false) (fun v => T v) fun v hv => by
      obtain ⟨b1, b2⟩ := hub v hv
      simp_arith [Ev.D.bind_ok]
      generalize hg : lcGo _ _ _ _ = o
      have ho := D.lcs hg (fun _ : Nat => false) (fun k => .int k) fun k hk => by
        have hk := List.mem_range.mp hk
        have := b2 k hk
        simp_arith [at_D (l := u) hk, at_D (l := v) (k := k) (by omega), decide_eq_false (show ¬ u.getD k 0 < v.getD k 0 by omega)]
      subst ho
      simp_arith [D.fil_false]
    subst ho
    refine ⟨s3, o3, ?_⟩
    simp_arith [D.fil_false, s_law_runs_hold_11, s_law_runs_hold_12, c_law_runs_hold, e3, k1, k2]
end K48
end Ev

set_option maxRecDepth 100000
namespace Ev
open PySem
namespace K48
/-! ### equal runs -/
/-- the multiples -/
def mul_ (z : Nat) : Nat → Nat → Nat → List Int
  | 0, _, _ => []
  | n + 1, k, m => if m = z then (k : Int) :: mul_ z n (k + 1) 1 else mul_ z n (k + 1) (m + 1)
theorem mul_c {z n k m : Nat} : mul_ z (n + 1) k m = if m = z then (k : Int) :: mul_ z n (k + 1) 1 else mul_ z n (k + 1) (m + 1) := rfl
theorem mul_rng {z : Nat} (hz : 1 ≤ z) : ∀ {n k m N : Nat}, m ≤ z → (∀ t < N, z - m + t * z < n) → n ≤ z - m + N * z → mul_ z n k m = (List.range N).map fun t : Nat => ((k + (z - m) + t * z : Nat) : Int)
  | 0, k, m, N, hm, h1, h2 => by
    have : N = 0 := by
      rcases Nat.eq_zero_or_pos N with h | h
      · exact h
      · have := h1 0 h; omega
    subst this; rfl
  | n + 1, k, m, N, hm, h1, h2 => by
    rw [mul_c]
    by_cases c : m = z
    · rw [if_pos c]
      cases N with
      | zero => omega
      | succ N =>
        rw [mul_rng hz (n := n) (k := k + 1) (m := 1) (N := N) hz (fun t ht => by
          have := h1 (t + 1) (by omega)
          rw [Nat.add_mul, Nat.one_mul] at this
          omega) (by rw [Nat.add_mul, Nat.one_mul] at h2; omega), List.range_succ_eq_map, List.map_cons, List.map_map]
        congr 1
        · congr 1; omega
        · refine List.map_congr_left fun t _ => ?_
          show ((k + 1 + (z - 1) + t * z : Nat) : Int) = ((k + (z - m) + (t + 1) * z : Nat) : Int)
          congr 1
          rw [Nat.add_mul, Nat.one_mul]; omega
    · rw [if_neg c, mul_rng hz (n := n) (k := k + 1) (m := m + 1) (N := N) (by omega) (fun t ht => by have := h1 t ht; omega) (by omega)]
      refine List.map_congr_left fun t _ => ?_
      congr 1; omega
section
variable {life a : Int} {z : Nat} (ha : 1 ≤ a) (hal : a < life) (h1 : (z : Int) * a < life) (h2 : life ≤ (z : Int) * a + a) (hz : 1 ≤ z)
include ha hal h1 h2 hz
theorem rep_sum (n : Nat) : (List.replicate n a).sum = n * a := by
  induction n with
  | zero => simp
  | succ n ih => rw [List.replicate_succ, List.sum_cons, ih, Int.natCast_add, Int.add_mul]; omega
theorem ml {m : Nat} (h : m < z) : (m : Int) * a + a ≤ (z : Int) * a := by
  have : ((m + 1 : Nat) : Int) * a ≤ (z : Int) * a := Int.mul_le_mul_of_nonneg_right (by omega) (by omega)
  rw [Int.natCast_add, Int.add_mul] at this
  omega
theorem gr_rep : ∀ {n k m : Nat}, m ≤ z → ∃ u, gr life (List.replicate n a) k (life - m * a) = some u ∧ (mul_ z n k m = u ∨ ∃ x, mul_ z n k m = u ++ [x])
  | 0, _, _, _ => ⟨[], rfl, .inl rfl⟩
  | n + 1, k, m, hm => by
    rw [List.replicate_succ, gr_c, rep_sum ha hal h1 h2 hz, mul_c]
    have hn : 0 ≤ (n : Int) * a := Int.mul_nonneg (by omega) (by omega)
    by_cases c : m = z
    · rw [if_pos c]
      have hmz : (m : Int) * a = (z : Int) * a := by rw [c]
      by_cases q : life - m * a < a ∨ (a = life - m * a ∧ 0 < (n : Int) * a)
      · rw [if_pos q, if_neg (by omega)]
        obtain ⟨u, e, h⟩ := gr_rep (n := n) (k := k + 1) (m := 1) hz
        rw [show life - ((1 : Nat) : Int) * a = life - a by rw [Int.natCast_one, Int.one_mul]] at e
        refine ⟨(k : Int) :: u, by rw [e]; rfl, ?_⟩
        rcases h with h | ⟨x, h⟩
        · exact .inl (by rw [h])
        · exact .inr ⟨x, by rw [h]; rfl⟩
      · rw [if_neg q]
        have hn0 : n = 0 := by
          rcases Nat.eq_zero_or_pos n with h | h
          · exact h
          · have : 1 * a ≤ (n : Int) * a := Int.mul_le_mul_of_nonneg_right (by omega) (by omega)
            omega
        subst hn0
        exact ⟨[], rfl, .inr ⟨k, rfl⟩⟩
    · rw [if_neg c]
      have := ml ha hal h1 h2 hz (m := m) (by omega)
      rw [if_neg (by omega)]
      obtain ⟨u, e, h⟩ := gr_rep (n := n) (k := k + 1) (m := m + 1) (by omega)
      rw [show life - ((m + 1 : Nat) : Int) * a = life - m * a - a by rw [Int.natCast_add, Int.add_mul]; omega] at e
      exact ⟨u, e, h⟩
theorem sum_end (n : Nat) (x : Int) : (List.replicate n a ++ [x]).sum = n * a + x := by
  rw [List.sum_append, rep_sum ha hal h1 h2 hz]; simp
theorem gr_wide : ∀ {n k m : Nat}, m ≤ z → 1 ≤ n + m → ∃ u, gr life (List.replicate n a ++ [life]) k (life - m * a) = some (u ++ [((k + n : Nat) : Int)])
  | 0, k, m, hm, hnm => by
    have h3 : 1 * a ≤ (m : Int) * a := Int.mul_le_mul_of_nonneg_right (by omega) (by omega)
    have h4 : (m : Int) * a ≤ (z : Int) * a := Int.mul_le_mul_of_nonneg_right (by omega) (by omega)
    refine ⟨[], ?_⟩
    show gr life [life] k (life - m * a) = some [((k : Nat) : Int)]
    rw [gr_c, if_pos (.inl (by omega)), if_neg (by simp; omega)]
    rfl
  | n + 1, k, m, hm, _ => by
    rw [List.replicate_succ, List.cons_append, gr_c, sum_end ha hal h1 h2 hz]
    have hn : 0 ≤ (n : Int) * a := Int.mul_nonneg (by omega) (by omega)
    by_cases c : m = z
    · have hmz : (m : Int) * a = (z : Int) * a := by rw [c]
      rw [if_pos (by omega), if_neg (by omega)]
      obtain ⟨u, e⟩ := gr_wide (n := n) (k := k + 1) (m := 1) hz (by omega)
      rw [show life - ((1 : Nat) : Int) * a = life - a by rw [Int.natCast_one, Int.one_mul]] at e
      exact ⟨(k : Int) :: u, by rw [e]; show some ((k : Int) :: (u ++ [((k + 1 + n : Nat) : Int)])) = _; rw [show k + 1 + n = k + (n + 1) by omega]; rfl⟩
    · have := ml ha hal h1 h2 hz (m := m) (by omega)
      rw [if_neg (by omega)]
      obtain ⟨u, e⟩ := gr_wide (n := n) (k := k + 1) (m := m + 1) (by omega) (by omega)
      rw [show life - ((m + 1 : Nat) : Int) * a = life - m * a - a by rw [Int.natCast_add, Int.add_mul]; omega] at e
      exact ⟨u, by rw [e, show k + 1 + n = k + (n + 1) by omega]⟩
theorem gr_over : ∀ {n k m : Nat}, m ≤ z → gr life (List.replicate n a ++ [life + 1]) k (life - m * a) = none
  | 0, k, m, hm => by
    have h3 : 0 ≤ (m : Int) * a := Int.mul_nonneg (by omega) (by omega)
    show gr life [life + 1] k (life - m * a) = none
    rw [gr_c, if_pos (.inl (by omega)), if_pos (by omega)]
  | n + 1, k, m, hm => by
    rw [List.replicate_succ, List.cons_append, gr_c, sum_end ha hal h1 h2 hz]
    have hn : 0 ≤ (n : Int) * a := Int.mul_nonneg (by omega) (by omega)
    by_cases c : m = z
    · have hmz : (m : Int) * a = (z : Int) * a := by rw [c]
      rw [if_pos (by omega), if_neg (by omega)]
      have e := gr_over (n := n) (k := k + 1) (m := 1) hz
      rw [show life - ((1 : Nat) : Int) * a = life - a by rw [Int.natCast_one, Int.one_mul]] at e
      rw [e]; rfl
    · have := ml ha hal h1 h2 hz (m := m) (by omega)
      rw [if_neg (by omega)]
      have e := gr_over (n := n) (k := k + 1) (m := m + 1) (by omega)
      rw [show life - ((m + 1 : Nat) : Int) * a = life - m * a - a by rw [Int.natCast_add, Int.add_mul]; omega] at e
      exact e
end
theorem gr_two {life a : Int} (h : 1 ≤ life) (ha : 0 < a) : gr life [life, a] 0 life = none := by
  have : 0 < ([a] : List Int).sum := by simp [ha]
  rw [gr_c, if_pos (.inr ⟨rfl, this⟩), if_pos (.inr (.inr ⟨rfl, this⟩))]
theorem gr_some {life : Int} : ∀ {l : List Int} {k : Nat} {left : Int}, (∀ i ∈ l, 0 ≤ i ∧ i < life) → 0 ≤ left → (1 ≤ left ∨ l.sum = 0) → ∃ u, gr life l k left = some u
  | [], _, _, _, _, _ => ⟨[], rfl⟩
  | o :: r, k, left, hn, h0, h1 => by
    obtain ⟨ho, ho2⟩ := hn o (by simp)
    have hr : ∀ i ∈ r, 0 ≤ i ∧ i < life := fun i hi => hn i (by simp [hi])
    have hs := sum_nn fun i hi => (hr i hi).1
    rw [List.sum_cons] at h1
    rw [gr_c]
    by_cases c : left < o ∨ (o = left ∧ 0 < r.sum)
    · rw [if_pos c, if_neg (by omega)]
      obtain ⟨u, e⟩ := gr_some (l := r) (k := k + 1) (left := life - o) hr (by omega) (by omega)
      exact ⟨_, by rw [e]; rfl⟩
    · rw [if_neg c]
      exact gr_some hr (by omega) (by omega)
theorem fits_of {i : Int} (h1 : -1000000 ≤ i) (h2 : i ≤ 1000000) : Builtin.Range.rangeFitsLong i = true := by
  unfold Builtin.Range.rangeFitsLong
  simp only [Bool.and_eq_true, decide_eq_true_eq]
  omega
theorem steps {z : Nat} (hz : 1 ≤ z) (hz2 : z ≤ 1000) : ∃ N : Nat, (Builtin.Range.rangeSize z 60 z).toNat = N ∧ (∀ t < N, z + t * z < 60) ∧ 60 ≤ z + N * z ∧ N ≤ 60 ∧ Builtin.Range.small z 60 z = true := by
  have hb : 0 ≤ Builtin.Range.rangeSize z 60 z ∧ Builtin.Range.rangeSize z 60 z ≤ 60 := by
    unfold Builtin.Range.rangeSize
    rw [if_pos (by omega)]
    split
    · have : ((60 : Int) - z - 1) / z ≤ (60 : Int) - z - 1 := Int.ediv_le_self _ (by omega)
      have : 0 ≤ ((60 : Int) - z - 1) / z := Int.ediv_nonneg (by omega) (by omega)
      omega
    · omega
  refine ⟨_, rfl, ?_, ?_, by omega, ?_⟩
  · intro k hk
    unfold Builtin.Range.rangeSize at hk
    rw [if_pos (by omega)] at hk
    split at hk
    · rename_i h0
      have h1 : (k : Int) ≤ ((60 : Int) - z - 1) / z := by omega
      have h2 := Int.mul_le_of_le_ediv (by omega) h1
      have : ((k * z : Nat) : Int) = (k : Int) * z := Int.natCast_mul k z
      omega
    · simp at hk
  · unfold Builtin.Range.rangeSize
    rw [if_pos (by omega)]
    split
    · have h1 := Int.lt_mul_ediv_self_add (x := (60 : Int) - z - 1) (k := z) (by omega)
      have h0 : 0 ≤ ((60 : Int) - z - 1) / z := Int.ediv_nonneg (by omega) (by omega)
      generalize hq : ((60 : Int) - z - 1) / z = q at *
      have e : ((q + 1).toNat : Int) = q + 1 := by omega
      have : (((q + 1).toNat * z : Nat) : Int) = (q + 1) * z := by rw [Int.natCast_mul, e]
      have e2 : (q + 1) * (z : Int) = z * q + z := by rw [Int.add_mul, Int.mul_comm, Int.one_mul]
      omega
    · omega
  · unfold Builtin.Range.small
    rw [fits_of (by omega) (by omega), fits_of (i := 60) (by omega) (by omega), fits_of (i := Builtin.Range.rangeSize z 60 z) (by omega) (by omega)]
    rw [if_pos (by omega), fits_of (by omega) (by omega)]
    simp
end K48
end Ev

set_option maxRecDepth 100000
namespace Ev
open PySem
namespace K48
theorem size_sp {i a : Int} (ha : 1 ≤ a) (hai : a < i) : ∃ z : Nat, (i - 1) / a = z ∧ 1 ≤ z ∧ (z : Int) * a < i ∧ i ≤ (z : Int) * a + a ∧ (z : Int) ≤ i := by
  have h1 := Int.mul_ediv_self_le (x := i - 1) (k := a) (by omega)
  have h2 := Int.lt_mul_ediv_self_add (x := i - 1) (k := a) (by omega)
  have h0 : 1 ≤ (i - 1) / a := (Int.le_ediv_iff_mul_le (by omega)).mpr (by omega)
  have h3 : (i - 1) / a ≤ i - 1 := Int.ediv_le_self _ (by omega)
  refine ⟨((i - 1) / a).toNat, by omega, by omega, ?_⟩
  rw [Int.toNat_of_nonneg (by omega), Int.mul_comm]
  omega
theorem mulA (c : Int) : opBin .mul (.tuple [.int c]) (.int 60) = some (.v (T (List.replicate 60 c))) := by
  rw [D.mul_ti, if_pos ⟨by decide, by decide, by simp⟩]
  show some (Rv.v (.tuple (rep 60 [.int c]))) = _
  rw [D.rep1]
  show _ = some (Rv.v (.tuple ((List.replicate 60 c).map .int)))
  rw [List.map_replicate]
def R59 (a : Int) : List Int := List.replicate 59 a
def R60 (a : Int) : List Int := List.replicate 60 a
theorem c59 (a : Int) : cut (R60 a) none (some 59) = R59 a := by
  have := D.cut_take (R60 a) 59
  rw [show ((59 : Nat) : Int) = 59 from rfl] at this
  rw [this]; unfold R60 R59; rw [List.take_replicate]; rfl
theorem c1 (a : Int) : cut (R60 a) none (some 1) = [a] := by
  have := D.cut_take (R60 a) 1
  rw [show ((1 : Nat) : Int) = 1 from rfl] at this
  rw [this]; unfold R60; rw [List.take_replicate]; rfl
theorem lastR (u : List Int) (x : Int) : L2.atI ((u ++ [x]).map PyData.int) (-1) = some (.int x) := by
  rw [List.map_append]; exact D.atI_last _ _
theorem cutN {u v : List Int} (h : v = u ∨ ∃ x, v = u ++ [x]) : ∃ X : List Int, cut u none (some ((v.length : Int) - 1)) = X ∧ cut v none (some ((v.length : Int) - 1)) = X ∧ X.length ≤ v.length ∧ ∀ i ∈ X, i ∈ v := by
  refine ⟨_, rfl, ?_, ?_⟩
  · by_cases h0 : v.length = 0
    · have hv : v = [] := List.length_eq_zero_iff.mp h0
      subst hv
      rcases h with rfl | ⟨x, h⟩
      · rfl
      · exact absurd h.symm (by simp)
    · rw [show (v.length : Int) - 1 = ((v.length - 1 : Nat) : Int) by omega, D.cut_take, D.cut_take]
      rcases h with rfl | ⟨x, rfl⟩
      · rfl
      · simp
  · by_cases h0 : v.length = 0
    · have hv : v = [] := List.length_eq_zero_iff.mp h0
      subst hv
      rcases h with rfl | ⟨x, h⟩
      · exact ⟨Nat.le_refl _, fun i hi => hi⟩
      · exact absurd h.symm (by simp)
    · rw [show (v.length : Int) - 1 = ((v.length - 1 : Nat) : Int) by omega, D.cut_take]
      rcases h with rfl | ⟨x, rfl⟩
      · exact ⟨by rw [List.length_take]; omega, fun i hi => List.mem_of_mem_take hi⟩
      · exact ⟨by rw [List.length_take, List.length_append]; omega, fun i hi => List.mem_append_left _ (List.mem_of_mem_take hi)⟩
theorem fitT {l : List Int} (h : l.length ≤ 70) (h2 : ∀ i ∈ l, 0 ≤ i ∧ i ≤ 1000) : D.Fit 3 3000 (T l) := (fit_T (by omega) fun i hi => by have := h2 i hi; omega).up (by decide) (by decide)
theorem gr_fit {life : Int} {l u : List Int} (hl : l.length ≤ 60) (h : gr life l 0 life = some u) : D.Fit 3 3000 (T u) := by
  have h1 := gr_ge h
  have h2 := gr_up h
  refine fitT ?_ fun i hi => by have := h1 i hi; omega
  have := (subs_of (subs_mem (n := l.length) h2 fun i hi => by have := h1 i hi; omega)).2.2
  omega
theorem grP_fit {life : Int} {l : List Int} (hl : l.length ≤ 60) : D.Fit 3 3000 (grP (gr life l 0 life)) := by
  cases h : gr life l 0 life with
  | none => exact D.Fit.none
  | some u => exact gr_fit hl h
theorem fit_lst {xs : List PyData} (hl : xs.length ≤ 100) (h : ∀ x ∈ xs, D.Fit 3 3000 x) : D.Fit 60 400000 (.list xs) :=
  (D.Fit.lst (k := 3) (n := 3000) (m := 400000) h (by omega)).up (by decide) (Nat.le_refl _)
set_option maxHeartbeats 8000000 in
theorem t_great {s : DS} (os : s.ok) : ∃ s' : DS, s'.ok ∧ m_law_great_runs_hold [.l s.enc] = .ok (.v (.bool true), [some (.l s'.enc)]) := by
  obtain ⟨d1, s1, h1, o1, e1⟩ := tdc s os 999 (by decide) (by decide)
  obtain ⟨x, s2, hx, o2, e2⟩ := t_pick s1 o1 (xs := [.int 1000, .int (2 + (d1 : Int))]) (by simp) (by simp)
  obtain ⟨i, rfl, hi⟩ : ∃ i : Int, x = .int i ∧ 2 ≤ i ∧ i ≤ 1000 := by
    simp only [List.mem_cons, List.not_mem_nil, or_false] at hx
    rcases hx with rfl | rfl <;> exact ⟨_, rfl, by omega, by omega⟩
  obtain ⟨d2, s3, h3, o3, e3⟩ := tdc s2 o2 (i - 1) (by omega) (by omega)
  obtain ⟨a, ha⟩ : ∃ a : Int, 1 + (d2 : Int) = a := ⟨_, rfl⟩
  have ha1 : 1 ≤ a := by omega
  have hai : a < i := by omega
  obtain ⟨z, hz, hz1, hz2, hz3, hz4⟩ := size_sp ha1 hai
  obtain ⟨N, hN, hN1, hN2, hN3, hsm⟩ := steps hz1 (by omega)
  have z3 : ¬ (z : Int) = 0 := by omega
  have z4 : (z : Int).natAbs < 1073741824 := by omega
  -- the rows
  obtain ⟨u0, g0, hu0⟩ := gr_rep ha1 hai hz2 hz3 hz1 (n := 60) (k := 0) (m := 0) (Nat.zero_le _)
  rw [show i - ((0 : Nat) : Int) * a = i by simp] at g0
  obtain ⟨uw, gw⟩ := gr_wide ha1 hai hz2 hz3 hz1 (n := 59) (k := 0) (m := 0) (Nat.zero_le _) (by omega)
  rw [show i - ((0 : Nat) : Int) * a = i by simp] at gw
  have go := gr_over ha1 hai hz2 hz3 hz1 (n := 59) (k := 0) (m := 0) (Nat.zero_le _)
  rw [show i - ((0 : Nat) : Int) * a = i by simp] at go
  have gt := gr_two (life := i) (a := a) (by omega) (by omega)
  have hmul := mul_rng hz1 (n := 60) (k := 0) (m := 0) (N := N) (Nat.zero_le _) (fun t ht => by have := hN1 t ht; omega) (by omega)
  rw [hmul] at hu0
  obtain ⟨Dl, hDl⟩ : ∃ Dl : List Int, ((List.range N).map fun t : Nat => ((0 + (z - 0) + t * z : Nat) : Int)) = Dl := ⟨_, rfl⟩
  rw [hDl] at hu0
  have hDN : Dl.length = N := by rw [← hDl]; simp
  obtain ⟨X, x1, x2, x3, x4⟩ := cutN hu0
  have hDb : ∀ j ∈ Dl, 0 ≤ j ∧ j ≤ 1000 := fun j hj => by
    rw [← hDl] at hj
    obtain ⟨t, ht, rfl⟩ := List.mem_map.mp hj
    have := hN1 t (List.mem_range.mp ht)
    omega
  have m60 := mulA a
  have r60 : List.replicate 60 a = R60 a := rfl
  rw [r60] at m60 g0
  have r59 : List.replicate 59 a = R59 a := rfl
  rw [r59] at gw go
  have l60 : (R60 a).length = 60 := by simp [R60]
  have l59 : (R59 a).length = 59 := by simp [R59]
  have b60 : ∀ j ∈ R60 a, 0 ≤ j ∧ j ≤ 1000 := fun j hj => by obtain ⟨_, rfl⟩ := List.mem_replicate.mp (show j ∈ List.replicate 60 a from hj); omega
  have b59 : ∀ j ∈ R59 a, 0 ≤ j ∧ j ≤ 1000 := fun j hj => by obtain ⟨_, rfl⟩ := List.mem_replicate.mp (show j ∈ List.replicate 59 a from hj); omega
  have bW : ∀ x : Int, 0 ≤ x ∧ x ≤ 1000 → ∀ j ∈ R59 a ++ [x], 0 ≤ j ∧ j ≤ 1000 := fun x hx j hj => by
    rcases List.mem_append.mp hj with h | h
    · exact b59 j h
    · rw [List.mem_singleton.mp h]; exact hx
  have lW : ∀ x : Int, (R59 a ++ [x]).length = 60 := fun x => by simp [l59]
  have p0 := t_ahead (l := R60 a) (i := i) (by omega) b60 (by omega)
  rw [g0] at p0
  have pw := t_ahead (l := R59 a ++ [i]) (i := i) (by rw [lW]; decide) (bW i (by omega)) (by omega)
  rw [gw] at pw
  have pt := t_ahead (l := [i, a]) (i := i) (by simp) (by simp; omega) (by omega)
  rw [gt] at pt
  have pt : m_copies_ahead [.d (.int i), .d (.tuple [.int i, .int a])] = .ok (.v .none, [some (.d (.int i)), some (.d (.tuple [.int i, .int a]))]) := pt
  have q0 := t_late (l := R60 a) (i := i) (by omega) (fun j hj => by have := b60 j hj; omega) (by omega)
  rw [g0] at q0
  have qw := t_late (l := R59 a ++ [i]) (i := i) (by rw [lW]; decide) (fun j hj => by have := bW i (by omega) j hj; omega) (by omega)
  rw [gw] at qw
  have po : i < 1000 → m_copies_ahead [.d (.int i), .d (T (R59 a ++ [i + 1]))] = .ok (.v .none, [some (.d (.int i)), some (.d (T (R59 a ++ [i + 1])))]) := fun h => by
    have := t_ahead (l := R59 a ++ [i + 1]) (i := i) (by rw [lW]; decide) (bW (i + 1) (by omega)) (by omega)
    rw [go] at this
    exact this
  have hs1 := t6p (xs := [T u0, T (uw ++ [((0 + 59 : Nat) : Int)]), .none, .none]) (fit_lst (by simp) fun x hx => by
    simp only [List.mem_cons, List.not_mem_nil, or_false] at hx
    rcases hx with rfl | rfl | rfl | rfl
    · exact gr_fit (by omega) g0
    · exact gr_fit (by rw [lW]; decide) gw
    · exact D.Fit.none
    · exact D.Fit.none)
  have wW : (R59 a).map PyData.int ++ [.int i] = (R59 a ++ [i]).map .int := by simp
  have wO : (R59 a).map PyData.int ++ [.int (i + 1)] = (R59 a ++ [i + 1]).map .int := by simp
  have wT : PyData.int i :: [a].map PyData.int = [i, a].map .int := rfl
  have hlast := lastR uw ((0 + 59 : Nat) : Int)
  have e59 : ((0 + 59 : Nat) : Int) = 59 := rfl
  rw [e59] at hlast pw qw hs1
  have k59 := c59 a
  have k1 := c1 a
  have hsz : (z : Int) * a + a ≥ i := by omega
  rw [r_law_great_runs_hold]
  simp_arith [b_law_great_runs_hold, s_law_great_runs_hold_0, s_law_great_runs_hold_1, c_law_great_runs_hold, e1, e2, e3, ha]
  simp_arith [s_law_great_runs_hold_2, hz]
  have due : exs1 G11 s_law_great_runs_hold_3 [some (.l s3.enc), some (.d (.int i)), some (.d (.int a)), some (.d (.int z)), none, none, none, none, none, none, none, none, none] = .nx [some (.l s3.enc), some (.d (.int i)), some (.d (.int a)), some (.d (.int z)), some (.d (T Dl)), none, none, none, none, none, none, none, none] := by
    by_cases c : i < (z : Int) * a + a
    · simp_arith [s_law_great_runs_hold_3, decide_eq_true c, hsm, hN, z3, z4, D.stepto_eq]
      generalize hg : lcGo _ _ _ _ = o
      have ho := D.lcm hg (fun t : Nat => .int ((z : Int) + (t : Int) * z)) fun t ht => by simp_arith [Ev.D.bind_ok]
      subst ho
      simp_arith [Ev.D.bind_ok]
      rw [← hDl]
      simp [T]
    · simp_arith [s_law_great_runs_hold_3, decide_eq_false c, decide_eq_true (show (z : Int) * a + a = i by omega), hsm, hN, z3, z4, D.stepto_eq]
      generalize hg : lcGo _ _ _ _ = o
      have ho := D.lcm hg (fun t : Nat => .int ((z : Int) + (t : Int) * z)) fun t ht => by simp_arith [Ev.D.bind_ok]
      subst ho
      simp_arith [Ev.D.bind_ok]
      rw [← hDl]
      simp [T]
  simp_arith [due]
  simp_arith [s_law_great_runs_hold_4, m60]
  simp_arith [s_law_great_runs_hold_5, k59, l60, l59, wW]
  have st6 : exs1 G11 s_law_great_runs_hold_6 [some (.l s3.enc), some (.d (.int i)), some (.d (.int a)), some (.d (.int z)), some (.d (T Dl)), some (.d (T (R60 a))), some (.d (T (R59 a ++ [i]))), none, none, none, none, none, none] = .nx [some (.l s3.enc), some (.d (.int i)), some (.d (.int a)), some (.d (.int z)), some (.d (T Dl)), some (.d (T (R60 a))), some (.d (T (R59 a ++ [i]))), some (.l [T u0, T (uw ++ [59]), .none, .none]), none, none, none, none, none] := by
    by_cases c : i < 1000
    · have po := po c
      simp_arith [s_law_great_runs_hold_6, c_law_great_runs_hold, p0, pw, grP_some, decide_eq_true c, k59, wO, po, k1, wT, pt, grP_none, l59]
    · simp_arith [s_law_great_runs_hold_6, c_law_great_runs_hold, p0, pw, grP_some, decide_eq_false c, k1, wT, pt, grP_none]
  simp_arith [st6]
  simp_arith [s_law_great_runs_hold_7, s_law_great_runs_hold_8, c_law_great_runs_hold, q0, qw, grP_some, hs1]
  simp_arith [s_law_great_runs_hold_9, decide_eq_false (show ¬ (z : Int) * a + a < i by omega), hlast, isN_T]
  simp_arith [s_law_great_runs_hold_10]
  generalize hg : lcGo _ _ _ _ = o
  obtain ⟨_, _, rfl, s4, dr, o4, hd1, hd2, rfl, rfl⟩ := D.lciR hg (fun q e ys => ∃ (s : DS) (r : List Int), s.ok ∧ r.length = q ∧ (∀ j ∈ r, 0 ≤ j ∧ j < i) ∧ ys = r.map .int ∧ e = [some (.l s.enc), some (.d (.int i)), some (.d (.int a)), some (.d (.int z)), some (.d (T Dl)), some (.d (T (R60 a))), some (.d (T (R59 a ++ [i]))), some (.l [T u0, T (uw ++ [59]), .none, .none]), some (.d (T (uw ++ [59]))), none, none, none, none]) ⟨s3, [], o3, rfl, by simp, rfl, rfl⟩ (by
    rintro q _ _ hq ⟨s, r, os, hr1, hr2, rfl, rfl⟩ J hJ
    obtain ⟨d, s', hd, o', e⟩ := tdc s os i (by omega) (by omega)
    simp_arith [c_law_great_runs_hold, e]
    refine hJ _ _ ⟨s', r ++ [(d : Int)], o', by simp [hr1], fun j hj => ?_, by simp, rfl⟩
    rcases List.mem_append.mp hj with h | h
    · exact hr2 j h
    · rw [List.mem_singleton.mp h]; omega)
  have bD : ∀ j ∈ dr, 0 ≤ j ∧ j ≤ 1000 := fun j hj => by have := hd2 j hj; omega
  obtain ⟨ud, gd⟩ := gr_some (life := i) (l := dr) (k := 0) (left := i) hd2 (by omega) (.inl (by omega))
  have pd := t_ahead (l := dr) (i := i) (by omega) bD (by omega)
  rw [gd] at pd
  have qd := t_late (l := dr) (i := i) (by omega) (fun j hj => by have := bD j hj; omega) (by omega)
  rw [gd] at qd
  have hud := gr_ge gd
  have hup := gr_up gd
  have hul : ud.length ≤ 60 := by
    have := (subs_of (subs_mem (n := dr.length) hup fun j hj => by have := hud j hj; omega)).2.2
    omega
  have al := t_acc_late (l := dr) (u := ud) (v := ud) (i := i) (by omega) bD (by omega) (fun j hj => by have := hud j hj; omega) hup (fun j hj => by have := hud j hj; omega) hup (by omega) (by omega) (gr_good gd) (gr_good gd) (Nat.le_refl _) (fun _ _ => Int.le_refl _)
  have hs2 := t6l (xs := [T ud, T X]) (fit_lst (by simp) fun x hx => by
    simp only [List.mem_cons, List.not_mem_nil, or_false] at hx
    rcases hx with rfl | rfl
    · exact gr_fit (by omega) gd
    · exact fitT (by omega) fun j hj => hDb j (x4 j hj))
  refine ⟨s4, o4, ?_⟩
  simp_arith [s_law_great_runs_hold_11, s_law_great_runs_hold_12, c_law_great_runs_hold, pd, qd, grP_some, x1, x2, hs2, al]
end K48
end Ev

set_option maxRecDepth 100000
namespace Ev
open PySem
namespace K48
def stepL : List Int → List Int
  | a :: b :: r => (a + b) :: r ++ [b + r.sum]
  | l => l
theorem stepL_len : ∀ l : List Int, (stepL l).length = l.length
  | [] => rfl
  | [_] => rfl
  | a :: b :: r => by simp [stepL]
theorem two {l : List Int} (h : 2 ≤ l.length) : ∃ a b r, l = a :: b :: r := by
  match l, h with
  | a :: b :: r, _ => exact ⟨a, b, r, rfl⟩
theorem t_stepL {l : List Int} (h : 2 ≤ l.length) (h2 : l.length ≤ 100000) : m_step_of [.l (l.map .int)] = .ok (.n ((stepL l).map .int), [some (.l (l.map .int))]) := by
  obtain ⟨p, q, r, rfl⟩ := two h
  have hr : r.length ≤ 100000 := by simp at h2; omega
  have k1 : cut (PyData.int p :: PyData.int q :: r.map PyData.int) (some 1) none = PyData.int q :: r.map .int := D.cut_drop _ 1
  have k2 : cut (PyData.int p :: PyData.int q :: r.map PyData.int) (some 2) none = r.map .int := D.cut_drop _ 2
  have a1 : asInts (PyData.int q :: r.map .int) = some (q :: r) := D.asInts_int (q :: r)
  rw [r_step_of]
  simp_arith [b_step_of, s_step_of_0, s_step_of_1, k1, k2, a1, List.sum_cons, stepL, List.map_append]
theorem t_stepD {l : List Int} (h : 2 ≤ l.length) (h2 : l.length ≤ 100000) : m_step_of [.d (.list (l.map .int))] = .ok (.n ((stepL l).map .int), [some (.d (.list (l.map .int)))]) := by
  obtain ⟨p, q, r, rfl⟩ := two h
  have hr : r.length ≤ 100000 := by simp at h2; omega
  have k1 : cut (PyData.int p :: PyData.int q :: r.map PyData.int) (some 1) none = PyData.int q :: r.map .int := D.cut_drop _ 1
  have k2 : cut (PyData.int p :: PyData.int q :: r.map PyData.int) (some 2) none = r.map .int := D.cut_drop _ 2
  have a1 : asInts (PyData.int q :: r.map .int) = some (q :: r) := D.asInts_int (q :: r)
  rw [r_step_of]
  simp_arith [b_step_of, s_step_of_0, s_step_of_1, k1, k2, a1, List.sum_cons, stepL, List.map_append]
def row (life : Nat) : Nat → List Int
  | 0 => List.replicate life 0 ++ [1]
  | k + 1 => stepL (row life k)
theorem row_len (life : Nat) : ∀ k, (row life k).length = life + 1
  | 0 => by simp [row]
  | k + 1 => by rw [row, stepL_len, row_len life k]
theorem rep_one {α : Type} (x : α) : ∀ k, rep k [x] = List.replicate k x
  | 0 => rfl
  | k + 1 => by
    show [x] ++ rep k [x] = _
    rw [rep_one x k]; rfl
theorem row_bd (life : Nat) (hl : 1 ≤ life) : ∀ k, (∀ j ∈ row life k, 0 ≤ j) ∧ (row life k).sum ≤ 2 ^ k
  | 0 => by
    constructor
    · intro j hj
      rcases List.mem_append.mp (show j ∈ List.replicate life 0 ++ [1] from hj) with h | h
      · obtain ⟨_, rfl⟩ := List.mem_replicate.mp h; omega
      · rw [List.mem_singleton.mp h]; decide
    · show (List.replicate life (0 : Int) ++ [1]).sum ≤ 2 ^ 0
      have : ∀ n : Nat, (List.replicate n (0 : Int)).sum = 0 := fun n => by
        induction n with
        | zero => rfl
        | succ n ih => rw [List.replicate_succ, List.sum_cons, ih]; rfl
      rw [List.sum_append, this]; decide
  | k + 1 => by
    obtain ⟨h1, h2⟩ := row_bd life hl k
    obtain ⟨a, b, r, e⟩ := two (l := row life k) (by rw [row_len]; omega)
    rw [e] at h1 h2
    have ha := h1 a (by simp)
    have hb := h1 b (by simp)
    have hr := sum_nn (l := r) fun j hj => h1 j (by simp [hj])
    rw [List.sum_cons, List.sum_cons] at h2
    show (∀ j ∈ stepL (row life k), 0 ≤ j) ∧ (stepL (row life k)).sum ≤ 2 ^ (k + 1)
    rw [e]
    show (∀ j ∈ (a + b) :: r ++ [b + r.sum], 0 ≤ j) ∧ ((a + b) :: r ++ [b + r.sum]).sum ≤ 2 ^ (k + 1)
    constructor
    · intro j hj
      rcases List.mem_append.mp hj with h | h
      · rcases List.mem_cons.mp h with rfl | h
        · omega
        · exact h1 j (by simp [h])
      · rw [List.mem_singleton.mp h]; omega
    · rw [List.sum_append, List.sum_cons, List.sum_cons, List.sum_nil, Int.pow_succ]
      omega
theorem mem_le_sum : ∀ {l : List Int}, (∀ j ∈ l, 0 ≤ j) → ∀ j ∈ l, j ≤ l.sum
  | [], _, j, h => by cases h
  | i :: l, hn, j, h => by
    have h0 := hn i (by simp)
    have h1 := sum_nn (l := l) fun j hj => hn j (by simp [hj])
    rw [List.sum_cons]
    rcases List.mem_cons.mp h with rfl | h
    · omega
    · have := mem_le_sum (l := l) (fun j hj => hn j (by simp [hj])) j h; omega
theorem two60 {k : Nat} (hk : k ≤ 60) : (2 : Int) ^ k ≤ 2 ^ 60 := by
  have : (2 : Nat) ^ k ≤ 2 ^ 60 := Nat.pow_le_pow_right (by decide) hk
  have e : ((2 ^ k : Nat) : Int) = 2 ^ k := by rw [Int.natCast_pow]; rfl
  have e2 : ((2 ^ 60 : Nat) : Int) = 2 ^ 60 := by decide
  omega
theorem row_e {life k : Nat} (hl : 1 ≤ life) (hk : k ≤ 60) : ∀ j ∈ row life k, 0 ≤ j ∧ j ≤ 2 ^ 60 := fun j hj => by
  obtain ⟨h1, h2⟩ := row_bd life hl k
  have := mem_le_sum h1 j hj
  have := two60 hk
  exact ⟨h1 j hj, by omega⟩
theorem t_cards {i j : Nat} (hi : 1 ≤ i ∧ i ≤ 1000) (hj : j ≤ 60) : m_cards_behind [.d (.int i), .d (.int j)] = .ok (.v (T (row i j)), [some (.d (.int i)), some (.d (.int j))]) := by
  have e1 := life_i (i := (i : Int)) (by omega)
  have e2 := rounds_i (i := (j : Int)) (by omega)
  rw [r_cards_behind]
  have hc : (-2 ^ 63 ≤ (i : Int) ∧ (i : Int) < 2 ^ 63 ∧ 1 * i ≤ sizeLine) := ⟨by omega, by omega, D.szl (by omega)⟩
  have r0 : List.replicate i (PyData.int 0) ++ [PyData.int 1] = (row i 0).map .int := by simp [row]
  simp_arith [b_cards_behind, s_cards_behind_0, s_cards_behind_1, s_cards_behind_2, s_cards_behind_3, s_cards_behind_4, f_cards_behind_0, c_cards_behind, e1, e2, if_pos hc, rep_one, r0]
  generalize hg : forGo _ _ _ = o
  obtain ⟨_, rfl, z, rfl⟩ := D.loopR hg (fun k e => ∃ z : Option W, e = [some (.d (.int i)), some (.d (.int j)), some (.l ((row i k).map .int)), z]) ⟨none, rfl⟩ (by
    rintro k _ hk ⟨z, rfl⟩ J R hJ
    have hl := row_len i k
    simp_arith [c_cards_behind, t_stepL (l := row i k) (by omega) (by omega)]
    exact hJ _ ⟨_, rfl⟩)
  simp_arith [Ev.D.bind_ok]
theorem t_rfor {i : Nat} {j : Int} (hi : 1 ≤ i ∧ i ≤ 1000) (hj : 1 ≤ j ∧ j ≤ 1000000000000) : ∃ r, m_rounds_for [.d (.int i), .d (.int j)] = .ok (.v r, [some (.d (.int i)), some (.d (.int j))]) ∧ ((r = .none ∧ ∀ k < 61, (row i k).sum < j) ∨ ∃ k : Nat, k < 61 ∧ r = .int k ∧ j ≤ (row i k).sum ∧ ∀ q < k, (row i q).sum < j) := by
  have e1 := life_i (i := (i : Int)) (by omega)
  have hc : (-2 ^ 63 ≤ (i : Int) ∧ (i : Int) < 2 ^ 63 ∧ 1 * i ≤ sizeLine) := ⟨by omega, by omega, D.szl (by omega)⟩
  have r0 : List.replicate i (PyData.int 0) ++ [PyData.int 1] = (row i 0).map .int := by simp [row]
  rw [r_rounds_for]
  simp_arith [b_rounds_for, s_rounds_for_0, s_rounds_for_1, s_rounds_for_2, s_rounds_for_3, s_rounds_for_4, c_rounds_for, e1, int_i, decide_eq_true hj.1, decide_eq_true hj.2, if_pos hc, rep_one, r0]
  generalize hg : forGo _ _ _ = o
  rcases D.loopXR hg (fun k e => (∀ q < k, (row i q).sum < j) ∧ ∃ z : Option W, e = [some (.d (.int i)), some (.d (.int j)), some (.l ((row i k).map .int)), z]) (fun o => ∃ (k : Nat), k < 61 ∧ j ≤ (row i k).sum ∧ (∀ q < k, (row i q).sum < j) ∧ ∃ (l : List PyData) (z : Option W), o = .rt [some (.d (.int i)), some (.d (.int j)), some (.l l), z] (.v (.int k))) ⟨fun q hq => absurd hq (Nat.not_lt_zero _), none, rfl⟩ (by
    rintro k _ hk ⟨hq, z, rfl⟩ J R hJ hR
    have hl := row_len i k
    by_cases q : j ≤ (row i k).sum
    · simp_arith [f_rounds_for_0, decide_eq_true q]
      exact hR _ ⟨k, by simpa using hk, q, hq, _, _, rfl⟩
    · simp_arith [f_rounds_for_0, decide_eq_false q, c_rounds_for, t_stepL (l := row i k) (by omega) (by omega)]
      refine hJ _ ⟨fun q' h => ?_, _, rfl⟩
      rcases Nat.lt_succ_iff_lt_or_eq.mp h with h | rfl
      · exact hq q' h
      · omega) with ⟨_, rfl, hq, z, rfl⟩ | ⟨k, hk, h1, h2, l, z, rfl⟩
  · refine ⟨.none, ?_, .inl ⟨rfl, fun k hk => hq k (by simpa using hk)⟩⟩
    simp_arith [Ev.D.bind_ok]
  · refine ⟨.int k, ?_, .inr ⟨k, hk, rfl, h1, h2⟩⟩
    simp_arith [Ev.D.bind_ok]
/-! ### papers of rounds -/
theorem zip_rng3 {α β : Type} {u : List α} {l : List β} (da : α) (db : β) (h : l.length ≤ u.length) (P : α → β → Bool) : ((u.zip l).all fun p => P p.1 p.2) = (List.range l.length).all fun k => P (u.getD k da) (l.getD k db) := by
  rw [Bool.eq_iff_iff, List.all_eq_true, List.all_eq_true]
  constructor
  · intro q k hk
    have hk := List.mem_range.mp hk
    have h2 : k < u.length := by omega
    have := q (u[k], l[k]) (by
      rw [List.mem_iff_getElem]
      exact ⟨k, by rw [List.length_zip]; omega, by rw [List.getElem_zip]⟩)
    simpa [List.getD_eq_getElem?_getD, List.getElem?_eq_getElem h2, List.getElem?_eq_getElem hk] using this
  · intro q p hp
    obtain ⟨k, hk, rfl⟩ := List.mem_iff_getElem.mp hp
    rw [List.length_zip] at hk
    have h1 : k < u.length := by omega
    have h2 : k < l.length := by omega
    have := q k (List.mem_range.mpr h2)
    rw [List.getElem_zip]
    simpa [List.getD_eq_getElem?_getD, List.getElem?_eq_getElem h1, List.getElem?_eq_getElem h2] using this
theorem find_all {α : Type} {p : α → Bool} {xs : List α} (h : xs.find? p = none) : (xs.all fun x => !p x) = true := by
  rw [List.all_eq_true]
  intro x hx
  have := List.find?_eq_none.mp h x hx
  simpa using this
theorem find_not {α : Type} {p : α → Bool} {xs : List α} {x : α} (hx : x ∈ xs) (h : xs.find? p = some x) : (xs.all fun x => !p x) = false := by
  rw [List.all_eq_false]
  have := List.find?_some h
  exact ⟨x, hx, by simpa using this⟩
def goB (R : List (List Int)) : Bool := (R.zip (R.drop 1)).all fun p => decide (stepL p.1 = p.2)
theorem goB_rng (R : List (List Int)) : goB R = (List.range (R.length - 1)).all fun k => decide (stepL (R.getD k []) = R.getD (k + 1) []) := by
  unfold goB
  rw [zip_rng3 (u := R) (l := R.drop 1) [] [] (by simp) fun a b => decide (stepL a = b), List.length_drop]
  congr 1
  funext k
  rw [List.getD_eq_getElem?_getD, List.getD_eq_getElem?_getD, List.getD_eq_getElem?_getD, List.getElem?_drop, Nat.add_comm 1 k]
theorem one0 {i : Nat} : List.replicate i (PyData.int 0) ++ [PyData.int 1] = (row i 0).map .int := by simp [row]
theorem at_R {R : List (List Int)} {k : Nat} (h : k < R.length) : L2.atI (R.map T) (k : Int) = some (T (R.getD k [])) := by
  rw [D.atI_n]; simp [List.getD_eq_getElem?_getD, List.getElem?_eq_getElem h]
theorem len_R {i : Nat} {R : List (List Int)} (hR : ∀ a ∈ R, a.length = i + 1) {k : Nat} (h : k < R.length) : (R.getD k []).length = i + 1 := by
  rw [List.getD_eq_getElem?_getD, List.getElem?_eq_getElem h]
  exact hR _ (List.getElem_mem h)
theorem mul0 {i : Nat} (hi : 1 ≤ i ∧ i ≤ 1000) : opBin .mul (.tuple [.int 0]) (.int i) = some (.v (.tuple (List.replicate i (.int 0)))) := by
  show (if _ then _ else _) = _
  rw [if_pos ⟨by omega, by omega, by simp; omega⟩, Int.toNat_natCast, rep_one]
theorem acc_good {i : Nat} {R : List (List Int)} {z : Option W} (hi : 1 ≤ i ∧ i ≤ 1000) (hR : ∀ a ∈ R, a.length = i + 1) (h1 : 1 ≤ R.length) (h2 : R.length ≤ 61) :
    D.give 2 (exs G14 [s_accept_rounds_3, s_accept_rounds_4] [some (.d (.int i)), some (.d (.tuple (R.map T))), z, none, none, none]) = if R.getD 0 [] = row i 0 then if goB R = true then .ok (.v .none, [some (.d (.int i)), some (.d (.tuple (R.map T)))]) else er 3 "round" else er 3 "begin" := by
  have e0 := at_R (R := R) (k := 0) (by omega)
  have e0 : L2.atI (R.map T) 0 = some (T (R.getD 0 [])) := e0
  have em := mul0 hi
  by_cases c : R.getD 0 [] = row i 0
  · have cc : (!decide (R.getD 0 [] = row i 0)) = false := by rw [decide_eq_true c]; rfl
    rw [if_pos c]
    have k1 : cut (R.map T) (some 1) none = (R.drop 1).map T := by rw [D.cut_map]; exact congrArg (List.map T) (D.cut_drop _ 1)
    simp_arith [s_accept_rounds_3, s_accept_rounds_4, em, one0, D.ne_tints, cc, k1, e0]
    generalize hg : forGo _ _ _ = o
    rcases D.loopF hg (fun p => !decide (stepL p.1 = p.2)) (fun e => ∃ z3 z4, e = [some (.d (.int i)), some (.d (.tuple (R.map T))), z, z3, z4, none]) (fun _ o => o = .ex 3 (S "round")) ⟨none, none, rfl⟩ (by
      rintro ⟨a, d⟩ hm _ ⟨z3, z4, rfl⟩ J Q hJ hQ
      have la := hR a (List.of_mem_zip hm).1
      have e1 := t_stepD (l := a) (by omega) (by omega)
      by_cases q : stepL a = d
      · have qq : (!decide (stepL a = d)) = false := by rw [decide_eq_true q]; rfl
        simp_arith [f_accept_rounds_1, c_accept_rounds, e1, D.ne_tints, qq]
        exact hJ _ qq ⟨_, _, rfl⟩
      · have qq : (!decide (stepL a = d)) = true := by rw [decide_eq_false q]; rfl
        simp_arith [f_accept_rounds_1, c_accept_rounds, e1, D.ne_tints, qq]
        exact hQ _ qq rfl) with ⟨hf, _, rfl, z3, z4, rfl⟩ | ⟨x, hm, hf, rfl⟩
    · have := find_all hf
      simp only [Bool.not_not] at this
      rw [if_pos (show goB R = true from this)]
      simp_arith [Ev.D.bind_ok]
    · have := find_not hm hf
      simp only [Bool.not_not] at this
      rw [if_neg (show ¬ goB R = true by rw [show goB R = false from this]; decide)]
      simp_arith [Ev.D.bind_ok]
  · have cc : (!decide (R.getD 0 [] = row i 0)) = true := by rw [decide_eq_false c]; rfl
    rw [if_neg c]
    simp_arith [s_accept_rounds_3, em, one0, D.ne_tints, cc, e0]
theorem acc_R {R : List (List Int)} {i : Nat} (hi : 1 ≤ i ∧ i ≤ 1000) (hR : ∀ a ∈ R, a.length = i + 1) (h1 : 1 ≤ R.length) (h2 : R.length ≤ 61) :
    m_accept_rounds [.d (.int i), .d (.tuple (R.map T))] = if R.getD 0 [] = row i 0 then if goB R = true then .ok (.v .none, [some (.d (.int i)), some (.d (.tuple (R.map T)))]) else er 3 "round" else er 3 "begin" := by
  have e1 := life_i (i := (i : Int)) (by omega)
  rw [r_accept_rounds]
  have he : R.isEmpty = false := by cases R <;> first | rfl | simp at h1
  simp_arith [b_accept_rounds, s_accept_rounds_0, s_accept_rounds_1, s_accept_rounds_2, c_accept_rounds, e1, he, decide_eq_false (show ¬ ((61 : Int) < R.length) by omega)]
  generalize hg : forGo _ _ _ = o
  obtain ⟨_, rfl, z, rfl⟩ := D.loop hg (fun k e => ∃ z : Option W, e = [some (.d (.int i)), some (.d (.tuple (R.map T))), z, none, none, none]) ⟨none, rfl⟩ (by
    rintro k a _ hk ⟨z, rfl⟩ J Q hJ
    have la := hR a (List.mem_of_getElem? hk)
    simp_arith [f_accept_rounds_0, decide_eq_false (show ¬ ¬ (a.length : Int) = (i : Int) + 1 by omega)]
    generalize hg : lcGo _ _ _ _ = o
    have ho := D.lcm hg (fun _ : Int => .bool true) fun x hm => by simp_arith [c_accept_rounds, int_i]
    subst ho
    simp_arith [all_t]
    exact hJ _ ⟨_, rfl⟩)
  rw [← acc_good (z := z) hi hR h1 h2]
  simp_arith [Ev.D.bind_ok]
end K48
end Ev

set_option maxRecDepth 100000
namespace Ev
open PySem
namespace K48
def born (life : Nat) : Nat → List Int
  | 0 => [1]
  | t + 1 => born life t ++ [((born life t).drop (t + 1 - life)).sum]
theorem born_len (life : Nat) : ∀ t, (born life t).length = t + 1
  | 0 => rfl
  | t + 1 => by
    show (born life t ++ [_]).length = _
    rw [List.length_append, born_len life t]; rfl
theorem born_take {life : Nat} : ∀ {n t : Nat}, t ≤ n → (born life n).take (t + 1) = born life t
  | 0, t, h => by
    obtain rfl : t = 0 := by omega
    rfl
  | n + 1, t, h => by
    by_cases c : t = n + 1
    · subst c
      exact List.take_of_length_le (by rw [born_len]; exact Nat.le_refl _)
    · show (born life n ++ [_]).take (t + 1) = _
      rw [List.take_append_of_le_length (by rw [born_len]; omega)]
      exact born_take (by omega)
theorem born_get {life n t k : Nat} (h : t ≤ n) (hk : k ≤ t) : (born life n).getD k 0 = (born life t).getD k 0 := by
  rw [← born_take h, List.getD_eq_getElem?_getD, List.getD_eq_getElem?_getD, List.getElem?_take, if_pos (by omega)]
theorem born_new {life n t : Nat} (h : t + 1 ≤ n) : (born life n).getD (t + 1) 0 = ((born life t).drop (t + 1 - life)).sum := by
  rw [born_get h (Nat.le_refl _)]
  show (born life t ++ [_]).getD (t + 1) 0 = _
  rw [List.getD_eq_getElem?_getD, List.getElem?_append_right (by rw [born_len]; omega), born_len, Nat.sub_self]; rfl
theorem window (xs : List Int) {m : Nat} (hm : xs.length = m) : ∀ life : Nat, ((List.range life).map fun l => if life ≤ m + l then xs.getD (m + l - life) 0 else 0).sum = (xs.drop (m - life)).sum
  | 0 => by
    rw [List.drop_eq_nil_of_le (by omega)]; rfl
  | life + 1 => by
    rw [List.range_succ_eq_map, List.map_cons, List.map_map, List.sum_cons]
    have e : (List.range life).map ((fun l => if life + 1 ≤ m + l then xs.getD (m + l - (life + 1)) 0 else 0) ∘ Nat.succ) = (List.range life).map fun l => if life ≤ m + l then xs.getD (m + l - life) 0 else 0 := by
      refine List.map_congr_left fun l _ => ?_
      show (if life + 1 ≤ m + (l + 1) then xs.getD (m + (l + 1) - (life + 1)) 0 else 0) = _
      by_cases c : life ≤ m + l
      · rw [if_pos c, if_pos (by omega), show m + (l + 1) - (life + 1) = m + l - life by omega]
      · rw [if_neg c, if_neg (by omega)]
    rw [e, window xs hm life]
    by_cases c : life + 1 ≤ m
    · rw [if_pos (by omega), List.drop_eq_getElem_cons (show m - (life + 1) < xs.length by omega), List.sum_cons, show m - (life + 1) + 1 = m - life by omega, Nat.add_zero, List.getD_eq_getElem?_getD, List.getElem?_eq_getElem (by omega)]; rfl
    · rw [if_neg (by omega), show m - (life + 1) = m - life by omega]; omega
/-- as the law makes a row -/
def rowL (life n t : Nat) : List Int := ((born life n).take (t + 1 - life)).sum :: (List.range life).map fun l => if life ≤ t + 1 + l then (born life n).getD (t + 1 + l - life) 0 else 0
theorem rowL_eq {life n : Nat} (hl : 1 ≤ life) : ∀ {t : Nat}, t ≤ n → rowL life n t = row life t
  | 0, _ => by
    obtain ⟨m, rfl⟩ : ∃ m, life = m + 1 := ⟨life - 1, by omega⟩
    have b0 : (born (m + 1) n).getD 0 0 = 1 := by rw [born_get (Nat.zero_le n) (Nat.le_refl 0)]; rfl
    show ((born (m + 1) n).take (0 + 1 - (m + 1))).sum :: _ = List.replicate (m + 1) 0 ++ [1]
    rw [show 0 + 1 - (m + 1) = 0 by omega, List.range_succ, List.map_append, List.replicate_succ]
    show (0 : Int) :: _ = 0 :: (List.replicate m 0 ++ [1])
    congr 2
    · rw [show List.replicate m (0 : Int) = (List.range m).map fun _ => (0 : Int) by rw [List.map_const', List.length_range]]
      refine List.map_congr_left fun l hl => ?_
      have := List.mem_range.mp hl
      rw [if_neg (by omega)]
    · show [if m + 1 ≤ 0 + 1 + m then (born (m + 1) n).getD (0 + 1 + m - (m + 1)) 0 else 0] = [1]
      rw [if_pos (by omega), show 0 + 1 + m - (m + 1) = 0 by omega, b0]
  | t + 1, h => by
    obtain ⟨m, rfl⟩ : ∃ m, life = m + 1 := ⟨life - 1, by omega⟩
    show _ = stepL (row (m + 1) t)
    rw [← rowL_eq (n := n) hl (t := t) (by omega)]
    have hwin := window (born (m + 1) t) (born_len _ t) (m + 1)
    have hcon : (List.range (m + 1)).map (fun l => if m + 1 ≤ t + 1 + l then (born (m + 1) t).getD (t + 1 + l - (m + 1)) 0 else 0) = (List.range (m + 1)).map (fun l => if m + 1 ≤ t + 1 + l then (born (m + 1) n).getD (t + 1 + l - (m + 1)) 0 else 0) := by
      refine List.map_congr_left fun l hl => ?_
      have := List.mem_range.mp hl
      by_cases c : m + 1 ≤ t + 1 + l
      · rw [if_pos c, if_pos c, born_get (n := n) (t := t) (k := t + 1 + l - (m + 1)) (by omega) (by omega)]
      · rw [if_neg c, if_neg c]
    rw [hcon, ← born_new (by omega)] at hwin
    have htk : ((born (m + 1) n).take (t + 1 + 1 - (m + 1))).sum = ((born (m + 1) n).take (t + 1 - (m + 1))).sum + (if m + 1 ≤ t + 1 then (born (m + 1) n).getD (t + 1 - (m + 1)) 0 else 0) := by
      by_cases c : m + 1 ≤ t + 1
      · have hb := born_len (m + 1) n
        rw [if_pos c, show t + 1 + 1 - (m + 1) = (t + 1 - (m + 1)) + 1 by omega, List.take_add_one, List.sum_append, List.getElem?_eq_getElem (by omega), List.getD_eq_getElem?_getD, List.getElem?_eq_getElem (by omega)]
        simp
      · rw [if_neg c, show t + 1 + 1 - (m + 1) = t + 1 - (m + 1) by omega]; omega
    unfold rowL
    rw [List.range_succ_eq_map (n := m)] at hwin
    rw [List.map_cons, List.map_map, List.sum_cons] at hwin
    have hr : (List.range (m + 1)).map (fun l => if m + 1 ≤ t + 1 + 1 + l then (born (m + 1) n).getD (t + 1 + 1 + l - (m + 1)) 0 else 0) = (List.range m).map ((fun l => if m + 1 ≤ t + 1 + l then (born (m + 1) n).getD (t + 1 + l - (m + 1)) 0 else 0) ∘ Nat.succ) ++ [(born (m + 1) n).getD (t + 1) 0] := by
      rw [List.range_succ, List.map_append]
      congr 1
      · refine List.map_congr_left fun l hl => ?_
        show _ = if m + 1 ≤ t + 1 + (l + 1) then (born (m + 1) n).getD (t + 1 + (l + 1) - (m + 1)) 0 else 0
        rw [show t + 1 + 1 + l = t + 1 + (l + 1) by omega]
      · show [if m + 1 ≤ t + 1 + 1 + m then (born (m + 1) n).getD (t + 1 + 1 + m - (m + 1)) 0 else 0] = _
        rw [if_pos (by omega), show t + 1 + 1 + m - (m + 1) = t + 1 by omega]
    rw [hr, ← hwin]
    rw [List.range_succ_eq_map (n := m), List.map_cons, List.map_map, htk]
    rfl
end K48
end Ev

set_option maxRecDepth 100000
namespace Ev
open PySem
namespace K48
section
variable {f c : Nat} {q : Str} {sm : Sem} {x1 x2 x3 x4 x5 r a : PyData} {o1 o2 o3 o4 o5 : Option W} {w : Str}
theorem cl2 (hT : (tbl fs17).lookup q = some f) (hG : G17 f = some sm) (e : sm [.d x1, .d x2] = .ok (.v r, [o1, o2])) : m_law_called [.d (D.fnD q), .d (.list [x1, x2])] = .ok (.v r, [some (.d (D.fnD q)), some (.d (.list [x1, x2]))]) := by
  rw [r_law_called]
  simp_arith [b_law_called, s_law_called_0, s_law_called_1, s_law_called_2, hT, hG, e]
theorem cl2x (hT : (tbl fs17).lookup q = some f) (hG : G17 f = some sm) (e : sm [.d x1, .d x2] = .ex c a) : m_law_called [.d (D.fnD q), .d (.list [x1, x2])] = .ex c a := by
  rw [r_law_called]
  simp_arith [b_law_called, s_law_called_0, s_law_called_1, s_law_called_2, hT, hG, e]
theorem cl4x (hT : (tbl fs17).lookup q = some f) (hG : G17 f = some sm) (e : sm [.d x1, .d x2, .d x3, .d x4] = .ex c a) : m_law_called [.d (D.fnD q), .d (.list [x1, x2, x3, x4])] = .ex c a := by
  rw [r_law_called]
  simp_arith [b_law_called, s_law_called_0, s_law_called_1, s_law_called_2, hT, hG, e]
abbrev askR (q : Str) (xs : List PyData) : List (Option W) := [some (.d (D.fnD q)), some (.d (.list xs))]
theorem askx {xs : List PyData} (e : m_law_called [.d (D.fnD q), .d (.list xs)] = .ex c a) (hw : wordD c a = some w) : m_law_asked [.d (D.fnD q), .d (.list xs)] = .ok (.v (.str w), askR q xs) := by
  rw [r_law_asked]
  simp_arith [b_law_asked, s_law_asked_0, f_law_asked_0, c_law_asked, e, hw]
end
theorem max0 {y : Int} {p : Nat} (h : (p : Int) = if 0 < y then y else 0) : opB1 .max (.list [.int 0, .int y]) = some (.v (.int p)) := by
  rw [h]
  show (match asInts [PyData.int 0, .int y] with | some is => (match is with | [] => none | i :: r => some (Rv.v (.int (most i r)))) | none => none) = _
  show some (Rv.v (.int (most 0 [y]))) = _
  unfold most most
  split <;> simp_all
theorem max1 (y : Int) : ∃ m, opB1 .max (.list [.int 1, .int y]) = some (.v (.int m)) ∧ 1 ≤ m := by
  refine ⟨most 1 [y], rfl, ?_⟩
  unfold most most
  split <;> omega
/-- the rows up to n -/
def RR (L n : Nat) : List (List Int) := (List.range (n + 1)).map (row L)
theorem RR_len (L n : Nat) : (RR L n).length = n + 1 := by simp [RR]
theorem RR_snoc (L n : Nat) : RR L n = (List.range n).map (row L) ++ [row L n] := by
  unfold RR; rw [List.range_succ, List.map_append]; rfl
theorem RR_get {L n k : Nat} (h : k ≤ n) : (RR L n).getD k [] = row L k := by
  unfold RR
  rw [List.getD_eq_getElem?_getD, List.getElem?_map, List.getElem?_range (by omega)]; rfl
theorem RR_rows {L n : Nat} : ∀ a ∈ RR L n, a.length = L + 1 := by
  intro a ha
  obtain ⟨k, _, rfl⟩ := List.mem_map.mp ha
  exact row_len L k
theorem RR_go (L n : Nat) : goB (RR L n) = true := by
  rw [goB_rng, RR_len, List.all_eq_true]
  intro k hk
  have := List.mem_range.mp hk
  rw [RR_get (by omega), RR_get (by omega)]
  exact decide_eq_true rfl
theorem acc_RR {L n : Nat} (hL : 1 ≤ L ∧ L ≤ 1000) (hn : n ≤ 60) : m_accept_rounds [.d (.int L), .d (.tuple ((RR L n).map T))] = .ok (.v .none, [some (.d (.int L)), some (.d (.tuple ((RR L n).map T)))]) := by
  rw [acc_R hL RR_rows (by rw [RR_len]; omega) (by rw [RR_len]; omega), if_pos (RR_get (Nat.zero_le n)), if_pos (RR_go L n)]
/-- the last row spoiled -/
def SP (L n : Nat) (y : List Int) : List (List Int) := (List.range n).map (row L) ++ [y]
theorem acc_SP {L n : Nat} (hL : 1 ≤ L ∧ L ≤ 1000) (hn : n ≤ 60) {y : List Int} (hy : y.length = L + 1) (hne : row L n ≠ y) : m_accept_rounds [.d (.int L), .d (.tuple ((SP L n y).map T))] = er 3 (if decide ((n : Int) = 0) = true then "begin" else "round") := by
  have hlen : (SP L n y).length = n + 1 := by simp [SP]
  have hrows : ∀ a ∈ SP L n y, a.length = L + 1 := by
    intro a ha
    rcases List.mem_append.mp ha with h | h
    · obtain ⟨k, _, rfl⟩ := List.mem_map.mp h
      exact row_len L k
    · rw [List.mem_singleton.mp h]; exact hy
  have hend : (SP L n y).getD n [] = y := by
    unfold SP
    rw [List.getD_eq_getElem?_getD, List.getElem?_append_right (by simp)]; simp
  have hk : ∀ k < n, (SP L n y).getD k [] = row L k := fun k hk => by
    unfold SP
    rw [List.getD_eq_getElem?_getD, List.getElem?_append_left (by simpa using hk), List.getElem?_map, List.getElem?_range hk]; rfl
  rw [acc_R hL hrows (by omega) (by omega)]
  by_cases c : n = 0
  · subst c
    rw [hend, if_neg (fun h => hne h.symm)]; rfl
  · rw [hk 0 (by omega), if_pos rfl, decide_eq_false (by omega), if_neg]
    · rfl
    · rw [goB_rng, hlen]
      intro h
      have := List.all_eq_true.mp h (n - 1) (List.mem_range.mpr (by omega))
      rw [hk _ (by omega), show n - 1 + 1 = n by omega, hend] at this
      have h2 := of_decide_eq_true this
      exact hne (by
        obtain ⟨k, rfl⟩ : ∃ k, n = k + 1 := ⟨n - 1, by omega⟩
        exact h2)
theorem fil_first {m : Nat} {p : Nat → Bool} {q : Nat} {r : List Nat} (h : (List.range m).filter p = q :: r) : p q = true ∧ q < m ∧ ∀ j < q, p j = false := by
  obtain ⟨l1, l2, e, h1, h2, _⟩ := List.filter_eq_cons_iff.mp h
  have hq : q ∈ List.range m := by rw [e]; simp
  have hqm := List.mem_range.mp hq
  have hl : l1.length < m := by
    have := congrArg List.length e
    rw [List.length_range, List.length_append, List.length_cons] at this
    omega
  have hle : l1.length = q := by
    have : (List.range m)[l1.length]? = some q := by rw [e, List.getElem?_append_right (Nat.le_refl _)]; simp
    rw [List.getElem?_range hl] at this
    exact Option.some.inj this
  refine ⟨h2, hqm, fun j hj => ?_⟩
  have hj1 : j < l1.length := by omega
  have : (List.range m)[j]? = some l1[j] := by rw [e, List.getElem?_append_left hj1, List.getElem?_eq_getElem hj1]
  rw [List.getElem?_range (by omega)] at this
  have hjj := Option.some.inj this
  have := h1 l1[j] (List.getElem_mem _)
  rw [← hjj] at this
  cases hp : p j with
  | false => rfl
  | true => exact absurd hp this
end K48
end Ev

set_option maxRecDepth 100000
namespace Ev
open PySem
namespace K48
abbrev oE (s : DS) (z1 z2 z3 z4 : Option W) (L n : Nat) (z12 : Option W) : Env := [some (.l s.enc), z1, z2, z3, z4, none, none, none, none, none, some (.d (.int L)), some (.d (.int n)), z12, none]
theorem ro0 {s : DS} (os : s.ok) : ∃ (s' : DS) (L n : Nat), s'.ok ∧ (1 ≤ L ∧ L ≤ 1000) ∧ n ≤ 60 ∧ ∀ r, exs G21 (s_law_rounds_hold_0 :: s_law_rounds_hold_1 :: r) [some (.l s.enc), none, none, none, none, none, none, none, none, none, none, none, none, none] = exs G21 r (oE s' (some (.l [.int 1])) none none none L n none) := by
  suffices h : ∃ (s' : DS) (L n : Nat), s'.ok ∧ (1 ≤ L ∧ L ≤ 1000) ∧ n ≤ 60 ∧ exs G21 [s_law_rounds_hold_0, s_law_rounds_hold_1] [some (.l s.enc), none, none, none, none, none, none, none, none, none, none, none, none, none] = .nx (oE s' (some (.l [.int 1])) none none none L n none) by
    obtain ⟨s', L, n, a, b, c, h⟩ := h
    exact ⟨s', L, n, a, b, c, fun r => D.exs_appD G21 [_, _] h⟩
  obtain ⟨d1, s1, h1, o1, e1⟩ := tdc s os 12 (by decide) (by decide)
  obtain ⟨x, s2, hx, o2, e2⟩ := t_pick s1 o1 (xs := [.int 1, .int 2, .int 3, .int (1 + (d1 : Int)), .int 1000]) (by simp) (by simp)
  obtain ⟨L, rfl, hL⟩ : ∃ L : Nat, x = .int L ∧ 1 ≤ L ∧ L ≤ 1000 := by
    simp only [List.mem_cons, List.not_mem_nil, or_false] at hx
    rcases hx with rfl | rfl | rfl | rfl | rfl
    · exact ⟨1, rfl, by decide⟩
    · exact ⟨2, rfl, by decide⟩
    · exact ⟨3, rfl, by decide⟩
    · exact ⟨1 + d1, by rw [show ((1 + d1 : Nat) : Int) = 1 + (d1 : Int) by omega], by omega⟩
    · exact ⟨1000, rfl, by decide⟩
  obtain ⟨d2, s3, h3, o3, e3⟩ := tdc s2 o2 61 (by decide) (by decide)
  obtain ⟨x, s4, hx, o4, e4⟩ := t_pick s3 o3 (xs := [.int 0, .int 1, .int 60, .int d2]) (by simp) (by simp)
  obtain ⟨n, rfl, hn⟩ : ∃ n : Nat, x = .int n ∧ n ≤ 60 := by
    simp only [List.mem_cons, List.not_mem_nil, or_false] at hx
    rcases hx with rfl | rfl | rfl | rfl
    · exact ⟨0, rfl, by decide⟩
    · exact ⟨1, rfl, by decide⟩
    · exact ⟨60, rfl, by decide⟩
    · exact ⟨d2, rfl, by omega⟩
  refine ⟨s4, L, n, o4, hL, hn, ?_⟩
  simp_arith [s_law_rounds_hold_0, s_law_rounds_hold_1, c_law_rounds_hold, e1, e2, e3, e4]
theorem ro1 {s : DS} {L n : Nat} (hL : 1 ≤ L ∧ L ≤ 1000) (hn : n ≤ 60) : ∃ z2, ∀ r, exs G21 (s_law_rounds_hold_2 :: s_law_rounds_hold_3 :: r) (oE s (some (.l [.int 1])) none none none L n none) = exs G21 r (oE s (some (.l ((born L n).map .int))) z2 (some (.l [])) none L n none) := by
  suffices h : ∃ z2, exs G21 [s_law_rounds_hold_2, s_law_rounds_hold_3] (oE s (some (.l [.int 1])) none none none L n none) = .nx (oE s (some (.l ((born L n).map .int))) z2 (some (.l [])) none L n none) by
    obtain ⟨z2, h⟩ := h
    exact ⟨z2, fun r => D.exs_appD G21 [_, _] h⟩
  have h1 : ((n : Int) + 1 - 1).toNat = n := by omega
  simp_arith [s_law_rounds_hold_2, h1]
  generalize hg : forGo _ _ _ = o
  obtain ⟨_, rfl, z2, rfl⟩ := D.loopR hg (fun k e => ∃ z2, e = oE s (some (.l ((born L k).map .int))) z2 none none L n none) ⟨none, rfl⟩ (by
    rintro k _ hk ⟨z2, rfl⟩ J R hJ
    have em := max0 (y := 1 + (k : Int) - L) (p := k + 1 - L) (by split <;> omega)
    have hl := born_len L k
    have hmd : ∀ i, List.drop i ((born L k).map PyData.int) = ((born L k).drop i).map .int := fun i => by simp
    simp_arith [f_law_rounds_hold_0, em, hmd]
    refine hJ _ ⟨some (.d (.int (1 + (k : Int)))), ?_⟩
    show _ = oE s (some (.l ((born L k ++ [((born L k).drop (k + 1 - L)).sum]).map .int))) _ none none L n none
    simp)
  refine ⟨z2, ?_⟩
  simp_arith [s_law_rounds_hold_3]
theorem ro2 {s : DS} {L n : Nat} (hL : 1 ≤ L ∧ L ≤ 1000) (hn : n ≤ 60) (z2 : Option W) : ∃ z4 z12, ∀ r, exs G21 (s_law_rounds_hold_4 :: r) (oE s (some (.l ((born L n).map .int))) z2 (some (.l [])) none L n none) = exs G21 r (oE s (some (.l ((born L n).map .int))) z2 (some (.l ((RR L n).map T))) z4 L n z12) := by
  suffices h : ∃ z4 z12, exs G21 [s_law_rounds_hold_4] (oE s (some (.l ((born L n).map .int))) z2 (some (.l [])) none L n none) = .nx (oE s (some (.l ((born L n).map .int))) z2 (some (.l ((RR L n).map T))) z4 L n z12) by
    obtain ⟨z4, z12, h⟩ := h
    exact ⟨z4, z12, fun r => D.exs_appD G21 [_] h⟩
  have hb := born_len L n
  simp_arith [s_law_rounds_hold_4]
  generalize hg : forGo _ _ _ = o
  obtain ⟨_, rfl, z4, z12, rfl⟩ := D.loopR hg (fun k e => ∃ z4 z12, e = oE s (some (.l ((born L n).map .int))) z2 (some (.l (((List.range k).map (row L)).map T))) z4 L n z12) ⟨none, none, rfl⟩ (by
    rintro k _ hk ⟨z4, z12, rfl⟩ J R hJ
    have hk : k ≤ n := by omega
    have em := max0 (y := (k : Int) - L + 1) (p := k + 1 - L) (by split <;> omega)
    have h1 : ((L : Int) + 1 - 1).toNat = L := by omega
    have hmd : ∀ i, List.take i ((born L n).map PyData.int) = ((born L n).take i).map .int := fun i => by simp
    simp_arith [f_law_rounds_hold_1, em, h1, hmd]
    generalize hg : lcGo _ _ _ _ = o
    have ho := D.lcm hg (fun l : Nat => .int (if L ≤ k + 1 + l then (born L n).getD (k + 1 + l - L) 0 else 0)) fun l hl => by
      have hl := List.mem_range.mp hl
      by_cases c : L ≤ k + 1 + l
      · have hi : (k : Int) - L + (1 + (l : Int)) = ((k + 1 + l - L : Nat) : Int) := by omega
        have ha := at_D (l := born L n) (k := k + 1 + l - L) (by omega)
        simp_arith [hi, ha, if_pos c, decide_eq_true (show (0 : Int) ≤ ((k + 1 + l - L : Nat) : Int) by omega)]
      · simp_arith [if_neg c, decide_eq_false (show ¬ (0 : Int) ≤ (k : Int) - L + (1 + (l : Int)) by omega)]
    subst ho
    simp_arith [Ev.D.bind_ok]
    refine hJ _ ⟨some (.d (.int k)), some (.d (.int ((born L n).take (k + 1 - L)).sum)), ?_⟩
    have hr := rowL_eq (n := n) hL.1 hk
    have : ((List.range (k + 1)).map (row L)).map T = ((List.range k).map (row L)).map T ++ [T (rowL L n k)] := by
      rw [hr, List.range_succ, List.map_append, List.map_append]; rfl
    rw [this]
    simp [rowL, T])
  refine ⟨z4, z12, ?_⟩
  simp_arith [Ev.D.bind_ok]
  rfl
end K48
end Ev

set_option maxRecDepth 100000
namespace Ev
open PySem
namespace K48
theorem snoc {l : List Int} (h : 1 ≤ l.length) : ∃ r x, l = r ++ [x] := by
  rcases List.eq_nil_or_concat l with rfl | ⟨r, x, rfl⟩
  · simp at h
  · exact ⟨r, x, List.concat_eq_append⟩
theorem lastT (R : List (List Int)) (y : List Int) : L2.atI ((R ++ [y]).map T) (-1) = some (T y) := by
  rw [List.map_append]; exact D.atI_last _ _
theorem eqPB : opCmp .eq (S "paper begin") (S "paper begin") = some true := by decide +kernel
theorem eqPR : opCmp .eq (S "paper round") (S "paper round") = some true := by decide +kernel
set_option maxHeartbeats 8000000 in
theorem t_rounds {s : DS} (os : s.ok) : ∃ s' : DS, s'.ok ∧ m_law_rounds_hold [.l s.enc] = .ok (.v (.bool true), [some (.l s'.enc)]) := by
  obtain ⟨s1, L, n, o1, hL, hn, e0⟩ := ro0 os
  obtain ⟨z2, e1⟩ := ro1 (s := s1) hL hn
  obtain ⟨z4, z12, e2⟩ := ro2 (s := s1) hL hn z2
  rw [r_law_rounds_hold, b_law_rounds_hold, e0, e1, e2]
  have rl := row_len L n
  have re := row_e hL.1 hn
  obtain ⟨rb, x, hrow⟩ := snoc (l := row L n) (by omega)
  have hRl := RR_len L n
  have hRs := RR_snoc L n
  have lastR' : L2.atI ((RR L n).map T) (-1) = some (T (row L n)) := by rw [hRs]; exact lastT _ _
  have tc := t_cards hL hn
  have sm := same_T (l := row L n) (by omega) (fun j hj => by have := re j hj; omega)
  obtain ⟨t, s2, ht, o2, e3⟩ := t_pick s1 o1 (xs := [.int 0, .int 0, .int 1, .int (-1)]) (by simp) (by simp)
  obtain ⟨d, rfl⟩ : ∃ d : Int, t = .int d := by
    simp only [List.mem_cons, List.not_mem_nil, or_false] at ht
    rcases ht with rfl | rfl | rfl | rfl <;> exact ⟨_, rfl⟩
  obtain ⟨m, em, hm⟩ := max1 ((row L n).sum + d)
  obtain ⟨g, eg, hg1, hg2, hg3⟩ := min2 1000000000000 m
  have hg : 1 ≤ g ∧ g ≤ 1000000000000 := by omega
  have p12 : (10 : Int) ^ 12 = 1000000000000 := by decide
  obtain ⟨told, et, htold⟩ := t_rfor (i := L) (j := g) hL hg
  have ac := acc_RR hL hn
  -- the spoiled row
  have hrbl : rb.length = L := by rw [hrow] at rl; simpa using rl
  have sp := acc_SP hL hn (y := rb ++ [x + 1]) (by simp [hrbl]) (by rw [hrow]; intro h; have := List.append_cancel_left h; simp at this; omega)
  have k1 : cut (row L n) none (some (-1)) = rb := by rw [D.cut_m1, hrow]; simp
  have k2 : cut (RR L n) none (some (-1)) = (List.range n).map (row L) := by rw [D.cut_m1, hRs]; simp
  have a2 : L2.atI ((row L n).map PyData.int) (-1) = some (.int x) := by rw [hrow]; exact lastR _ _
  have u1 : ((List.range n).map (row L)).map T ++ [.tuple (rb.map PyData.int ++ [.int (x + 1)])] = (SP L n (rb ++ [x + 1])).map T := by simp [SP, T]
  simp_arith [s_law_rounds_hold_5, s_law_rounds_hold_6, c_law_rounds_hold, tc, lastR', sm]
  simp_arith [s_law_rounds_hold_7, c_law_rounds_hold, e3, p12, em, eg]
  simp_arith [s_law_rounds_hold_8]
  generalize hgg : lcGo _ _ _ _ = o
  have ho := D.lcs hgg (fun k : Nat => decide (g ≤ (row L k).sum)) (fun k => .int k) fun k hk => by
    have hk := List.mem_range.mp hk
    have ha : L2.atI ((RR L n).map T) (k : Int) = some (T (row L k)) := by
      have := at_R (R := RR L n) (k := k) (by omega)
      rwa [RR_get (by omega)] at this
    by_cases c : g ≤ (row L k).sum
    · simp_arith [ha, decide_eq_true c]
    · simp_arith [ha, decide_eq_false c]
  subst ho
  have hfl : ((List.range (n + 1)).filter fun k : Nat => decide (g ≤ (row L k).sum)).length ≤ 61 := Nat.le_trans (List.length_filter_le _ _) (by rw [List.length_range]; omega)
  simp_arith [s_law_rounds_hold_9, c_law_rounds_hold, et]
  have st10 : ∀ F : List Nat, (List.range (n + 1)).filter (fun k : Nat => decide (g ≤ (row L k).sum)) = F → exs1 G21 s_law_rounds_hold_10 [some (.l s2.enc), some (.l ((born L n).map .int)), z2, some (.l ((RR L n).map T)), z4, some (.d (.int (row L n).sum)), some (.d (.int g)), some (.l (F.map fun k : Nat => .int k)), some (.d told), none, some (.d (.int L)), some (.d (.int n)), z12, none] = .nx [some (.l s2.enc), some (.l ((born L n).map .int)), z2, some (.l ((RR L n).map T)), z4, some (.d (.int (row L n).sum)), some (.d (.int g)), some (.l (F.map fun k : Nat => .int k)), some (.d told), none, some (.d (.int L)), some (.d (.int n)), z12, none] := by
    intro F hF
    cases F with
    | nil =>
      have hno : ∀ k, k ≤ n → (row L k).sum < g := fun k hk => by
        have := List.filter_eq_nil_iff.mp hF k (List.mem_range.mpr (by omega))
        have : ¬ g ≤ (row L k).sum := fun h => this (decide_eq_true h)
        omega
      rcases htold with ⟨rfl, _⟩ | ⟨k, hk, rfl, h1, h2⟩
      · by_cases c : (n : Int) = 60
        · simp_arith [s_law_rounds_hold_10, decide_eq_true c]
        · simp_arith [s_law_rounds_hold_10, decide_eq_false c]
      · have hkn : n < k := by
          rcases Nat.lt_or_ge n k with h | h
          · exact h
          · have := hno k h; omega
        simp_arith [s_law_rounds_hold_10, decide_eq_false (show ¬ k ≤ n by omega), decide_eq_false (show ¬ (n : Int) = 60 by omega)]
    | cons q F =>
      obtain ⟨f1, f2, f3⟩ := fil_first hF
      have f1 := of_decide_eq_true f1
      have hq : told = .int q := by
        rcases htold with ⟨_, h⟩ | ⟨k, hk, rfl, h1, h2⟩
        · have := h q (by omega); omega
        · have a : ¬ q < k := fun h => by have := h2 q h; omega
          have b : ¬ k < q := fun h => by have := of_decide_eq_false (f3 k h); omega
          rw [show k = q by omega]
      subst hq
      simp_arith [s_law_rounds_hold_10, decide_eq_false (show ¬ ¬ (q : Int) = q from fun h => h rfl)]
  have st10 := st10 _ rfl
  simp_arith [st10]
  simp_arith [s_law_rounds_hold_11, c_law_rounds_hold, ac]
  have hrl2 : rb.length ≤ 1001 := by omega
  simp_arith [s_law_rounds_hold_12, k1, k2, lastR', a2, u1]
  refine ⟨s2, o2, ?_⟩
  by_cases c : (n : Int) = 0
  · rw [decide_eq_true c] at sp
    have as := askx (q := "accept_rounds") (cl2x rfl rfl sp) (w := Str.ofString "paper begin") (by decide +kernel)
    simp_arith [s_law_rounds_hold_13, c_law_rounds_hold, as, decide_eq_true c, eqPB]
  · rw [decide_eq_false c] at sp
    have as := askx (q := "accept_rounds") (cl2x rfl rfl sp) (w := Str.ofString "paper round") (by decide +kernel)
    simp_arith [s_law_rounds_hold_13, c_law_rounds_hold, as, decide_eq_false c, eqPR]
end K48
end Ev

set_option maxRecDepth 100000
namespace Ev
open PySem
namespace K48
/-! ### uses one by one -/
def lf : List Int → List Int → Nat → List Int × Option Nat
  | rs, [], _ => (rs, none)
  | rs, o :: r, k => if rs.getD o.toNat 0 = 0 then (rs, some k) else lf (rs.set o.toNat (rs.getD o.toNat 0 - 1)) r (k + 1)
theorem lf_c {rs r : List Int} {o : Int} {k : Nat} : lf rs (o :: r) k = if rs.getD o.toNat 0 = 0 then (rs, some k) else lf (rs.set o.toNat (rs.getD o.toNat 0 - 1)) r (k + 1) := rfl
def oN : Option Nat → PyData
  | none => .none
  | some k => .int k
theorem oN_n : oN none = .none := rfl
theorem oN_s (k : Nat) : oN (some k) = .int k := rfl
theorem set_T (rs : List Int) (x : Nat) (v : Int) : (rs.map PyData.int).set x (.int v) = (rs.set x v).map .int := by rw [List.map_set]
theorem get_T {rs : List Int} {x : Nat} (h : x < rs.length) : (rs.map PyData.int)[x]? = some (.int (rs.getD x 0)) := by
  simp [List.getElem?_eq_getElem h, List.getD_eq_getElem?_getD]
theorem t_left {l u : List Int} (h : ∀ i ∈ u, 0 ≤ i ∧ i < l.length) (hu : u.length ≤ 2400) (hl : l.length ≤ 40) : m_left_behind [.d (T l), .d (T u)] = .ok (.v (.tuple [T (lf l u 0).1, oN (lf l u 0).2]), [some (.d (T l)), some (.d (T u))]) := by
  rw [r_left_behind]
  simp_arith [b_left_behind, s_left_behind_0, s_left_behind_1, s_left_behind_2]
  generalize hg : forGo _ _ _ = o
  rcases D.loopX hg (fun k e => ∃ (rs : List Int) (z z2 : Option W), rs.length = l.length ∧ lf l u 0 = lf rs (u.drop k) k ∧ e = [some (.d (T l)), some (.d (T u)), some (.l (rs.map .int)), z, z2]) (fun o => ∃ (rs : List Int) (k : Nat) (z z2 : Option W), lf l u 0 = (rs, some k) ∧ o = .rt [some (.d (T l)), some (.d (T u)), some (.l (rs.map .int)), z, z2] (.v (.tuple [T rs, .int k]))) ⟨l, none, none, rfl, rfl, rfl⟩ (by
    rintro i ⟨x, k⟩ _ hx ⟨rs, z, z2, hrs, hen, rfl⟩ J R hJ hR
    obtain ⟨h1, h2, h3⟩ := zip_get hx
    obtain ⟨x0, x1⟩ := h x h1
    have h2 : k = i := h2
    subst h2
    have hown : u[k] = x := by
      rw [List.getElem?_zipIdx, List.getElem?_eq_getElem h3] at hx
      simpa using hx
    rw [List.drop_eq_getElem_cons h3, hown, lf_c] at hen
    obtain ⟨x, rfl⟩ : ∃ m : Nat, x = m := ⟨x.toNat, by omega⟩
    rw [Int.toNat_natCast] at hen
    have hx2 : x < rs.length := by omega
    have a1 := at_D (l := rs) hx2
    have a2 := get_T hx2
    have a3 : L2.ixN rs.length (x : Int) = some x := D.ixN_n hx2
    by_cases q : rs.getD x 0 = 0
    · rw [if_pos q] at hen
      simp_arith [f_left_behind_0, a1, decide_eq_true q]
      exact hR _ ⟨_, k, _, _, hen, rfl⟩
    · rw [if_neg q] at hen
      simp_arith [f_left_behind_0, a1, a2, a3, decide_eq_false q]
      exact hJ _ ⟨rs.set x (rs.getD x 0 - 1), _, _, by simp [hrs], hen, by rw [set_T]⟩) with ⟨_, rfl, rs, z, z2, h1, hen, rfl⟩ | ⟨rs, k, z, z2, hk, rfl⟩
  · rw [List.length_zipIdx, List.drop_length] at hen
    have hen : lf l u 0 = (rs, none) := hen
    simp_arith [hen, oN_n]
  · simp_arith [hk, oN_s]
/-- what is told of uses -/
def juP (u : List Int) : List Int × Option Nat → PyData
  | (rs, none) => .tuple [S "left", T rs]
  | (_, some k) => .tuple [S "worn", .int k, .int (u.getD k 0)]
theorem lf_k : ∀ {u rs : List Int} {k : Nat} {rs' : List Int} {q : Nat}, lf rs u k = (rs', some q) → q < k + u.length
  | [], rs, k, rs', q, h => by cases h
  | o :: r, rs, k, rs', q, h => by
    rw [lf_c] at h
    split at h
    · cases h; simp only [List.length_cons]; omega
    · have := lf_k h; simp only [List.length_cons]; omega
theorem t_juses {l u : List Int} (hl : l.length ≤ 40) (h2 : ∀ i ∈ l, 0 ≤ i ∧ i ≤ 1000) (h : ∀ i ∈ u, 0 ≤ i ∧ i < l.length) (hu : u.length ≤ 2400) : m_judge_uses [.d (T l), .d (T u)] = .ok (.v (juP u (lf l u 0)), [some (.d (T l)), some (.d (T u))]) := by
  have e1 := lives_T hl h2
  have e2 := uses_T (m := l.length) hu h
  have e3 := t_left h hu hl
  rw [r_judge_uses]
  cases hq : lf l u 0 with
  | mk rs a =>
    rw [hq] at e3
    cases a with
    | none =>
      simp only [oN_n] at e3
      simp_arith [b_judge_uses, s_judge_uses_0, s_judge_uses_1, s_judge_uses_2, s_judge_uses_3, c_judge_uses, e1, e2, e3, juP]
    | some k =>
      simp only [oN_s] at e3
      have hk := lf_k hq
      simp_arith [b_judge_uses, s_judge_uses_0, s_judge_uses_1, s_judge_uses_2, s_judge_uses_3, c_judge_uses, e1, e2, e3, at_D (l := u) (k := k) (by omega), juP]
/-! ### even uses -/
theorem most_sp : ∀ (l : List Int) (m : Int), m ≤ most m l ∧ (∀ i ∈ l, i ≤ most m l) ∧ ∀ c, m ≤ c → (∀ i ∈ l, i ≤ c) → most m l ≤ c
  | [], m => ⟨Int.le_refl _, fun _ h => by simp at h, fun c h _ => h⟩
  | j :: r, m => by
    obtain ⟨h1, h2, h3⟩ := most_sp r (if m < j then j else m)
    refine ⟨?_, fun i hi => ?_, fun c hm hi => h3 c ?_ fun i q => hi i (by simp [q])⟩
    · refine Int.le_trans ?_ h1
      split <;> omega
    · rcases List.mem_cons.mp hi with rfl | hi
      · refine Int.le_trans ?_ h1
        split <;> omega
      · exact h2 i hi
    · have := hi j (by simp)
      split <;> omega
def pos (j : Int) : Int := if j > 0 then j else 0
theorem pos_sum {l : List Int} (h : ∀ i ∈ l, 0 ≤ i) : (l.map fun o => pos (o - 0)).sum = l.sum := by
  induction l with
  | nil => rfl
  | cons i l ih =>
    rw [List.map_cons, List.sum_cons, List.sum_cons, ih fun j hj => h j (by simp [hj])]
    have := h i (by simp)
    unfold pos
    split <;> omega
def pts (l : List Int) (m : Int) : List Int := l.map fun o => pos (o - m)
theorem pts_anti {l : List Int} {m m' : Int} (h : m ≤ m') : (pts l m').sum ≤ (pts l m).sum := by
  induction l with
  | nil => exact Int.le_refl _
  | cons i l ih =>
    have : pos (i - m') ≤ pos (i - m) := by unfold pos; split <;> split <;> omega
    simp only [pts, List.map_cons, List.sum_cons] at ih ⊢
    omega
theorem pts_zero {l : List Int} {m : Int} (h : ∀ i ∈ l, i ≤ m) : pts l m = List.replicate l.length 0 := by
  induction l with
  | nil => rfl
  | cons i l ih =>
    have h0 := h i (by simp)
    have : pos (i - m) = 0 := by unfold pos; rw [if_neg (by omega)]
    rw [List.length_cons, List.replicate_succ, ← ih fun j hj => h j (by simp [hj])]
    simp [pts, this]
theorem rep0_sum : ∀ n : Nat, (List.replicate n (0 : Int)).sum = 0
  | 0 => rfl
  | n + 1 => by rw [List.replicate_succ, List.sum_cons, rep0_sum n]; rfl
/-- how many are above nought -/
def cntp : List Int → Int
  | [] => 0
  | i :: l => (if 0 < i then 1 else 0) + cntp l
theorem cntp_nn : ∀ l, 0 ≤ cntp l
  | [] => Int.le_refl _
  | i :: l => by
    have := cntp_nn l
    unfold cntp
    split <;> omega
theorem pts_step (l : List Int) (m : Int) : (pts l m).sum - (pts l (m + 1)).sum = cntp (pts l m) := by
  induction l with
  | nil => rfl
  | cons i l ih =>
    simp only [pts, List.map_cons, List.sum_cons, cntp] at ih ⊢
    have : pos (i - m) - pos (i - (m + 1)) = if 0 < pos (i - m) then 1 else 0 := by
      by_cases h1 : i - m > 0
      · rw [show pos (i - m) = i - m from if_pos h1, if_pos h1]
        by_cases h2 : i - (m + 1) > 0
        · rw [show pos (i - (m + 1)) = i - (m + 1) from if_pos h2]; omega
        · rw [show pos (i - (m + 1)) = 0 from if_neg h2]; omega
      · rw [show pos (i - m) = 0 from if_neg h1, if_neg (by omega), show pos (i - (m + 1)) = 0 from if_neg (by omega)]; rfl
    omega
def tk : List Int → Int → List Int
  | [], _ => []
  | o :: r, s => if 0 < o ∧ 0 < s then (o - 1) :: tk r (s - 1) else o :: tk r s
theorem tk_c {o s : Int} {r : List Int} : tk (o :: r) s = if 0 < o ∧ 0 < s then (o - 1) :: tk r (s - 1) else o :: tk r s := rfl
theorem tk_len : ∀ (t : List Int) (s : Int), (tk t s).length = t.length
  | [], _ => rfl
  | o :: r, s => by
    rw [tk_c]
    split
    · rw [List.length_cons, tk_len r, List.length_cons]
    · rw [List.length_cons, tk_len r, List.length_cons]
theorem tk_sum : ∀ {t : List Int} {s : Int}, 0 ≤ s → s ≤ cntp t → (tk t s).sum = t.sum - s
  | [], s, h0, h => by
    have : s ≤ 0 := h
    show (0 : Int) = 0 - s
    omega
  | o :: r, s, h0, h => by
    unfold cntp at h
    rw [tk_c]
    by_cases c : 0 < o ∧ 0 < s
    · rw [if_pos c, List.sum_cons, List.sum_cons, tk_sum (t := r) (s := s - 1) (by omega) (by rw [if_pos c.1] at h; omega)]; omega
    · rw [if_neg c, List.sum_cons, List.sum_cons]
      by_cases c2 : 0 < s
      · rw [if_neg (fun h => c ⟨h, c2⟩)] at h
        rw [tk_sum (t := r) (s := s) h0 (by omega)]; omega
      · have hs : s = 0 := by omega
        rw [tk_sum (t := r) (s := s) h0 (by have := cntp_nn r; omega)]; omega
theorem tk_get : ∀ (t : List Int) (s : Int) (k : Nat), (∀ i ∈ t, 0 ≤ i) → 0 ≤ (tk t s).getD k 0 ∧ (tk t s).getD k 0 ≤ t.getD k 0
  | [], _, k, _ => by simp [tk]
  | o :: r, s, k, h => by
    have h0 := h o (by simp)
    have hr : ∀ i ∈ r, 0 ≤ i := fun i hi => h i (by simp [hi])
    rw [tk_c]
    split
    · cases k with
      | zero => simp only [List.getD_cons_zero]; omega
      | succ k => simp only [List.getD_cons_succ]; exact tk_get r _ k hr
    · cases k with
      | zero => simp only [List.getD_cons_zero]; omega
      | succ k => simp only [List.getD_cons_succ]; exact tk_get r _ k hr
theorem pts_nn {l : List Int} {m : Int} : ∀ i ∈ pts l m, 0 ≤ i := by
  intro i hi
  obtain ⟨j, _, rfl⟩ := List.mem_map.mp hi
  unfold pos; split <;> omega
/-- a level of its kind -/
def Lev (l : List Int) (j : Int) (top : Int) (m : Nat) : Prop := j ≤ (pts l m).sum ∧ (m : Int) ≤ top ∧ ((m : Int) = top ∨ (pts l ((m : Int) + 1)).sum < j)
theorem lev_same {l : List Int} {j t1 t2 : Int} {m1 m2 : Nat} (h1 : Lev l j t1 m1) (h2 : Lev l j t2 m2) (hj : 0 ≤ j) (a1 : ∀ i ∈ l, i ≤ t1) (a2 : ∀ i ∈ l, i ≤ t2) : pts l m1 = pts l m2 := by
  obtain ⟨p1, q1, r1⟩ := h1
  obtain ⟨p2, q2, r2⟩ := h2
  have z : ∀ t : Int, (∀ i ∈ l, i ≤ t) → (pts l t).sum = 0 := fun t h => by rw [pts_zero h, rep0_sum]
  by_cases c : j = 0
  · have nn : ∀ m : Int, 0 ≤ (pts l m).sum := fun m => sum_nn pts_nn
    have e1 : (m1 : Int) = t1 := r1.resolve_right (by have := nn ((m1 : Int) + 1); omega)
    have e2 : (m2 : Int) = t2 := r2.resolve_right (by have := nn ((m2 : Int) + 1); omega)
    rw [e1, e2, pts_zero a1, pts_zero a2]
  · have e1 : (pts l ((m1 : Int) + 1)).sum < j := r1.resolve_left fun h => by rw [h, z t1 a1] at p1; omega
    have e2 : (pts l ((m2 : Int) + 1)).sum < j := r2.resolve_left fun h => by rw [h, z t2 a2] at p2; omega
    have : m1 = m2 := by
      rcases Nat.lt_trichotomy m1 m2 with h | h | h
      · have := pts_anti (l := l) (m := (m1 : Int) + 1) (m' := m2) (by omega); omega
      · exact h
      · have := pts_anti (l := l) (m := (m2 : Int) + 1) (m' := m1) (by omega); omega
    rw [this]
theorem lev_spare {l : List Int} {j t : Int} {m : Nat} (h : Lev l j t m) (hj : 0 ≤ j) (a : ∀ i ∈ l, i ≤ t) : 0 ≤ (pts l m).sum - j ∧ (pts l m).sum - j ≤ cntp (pts l m) := by
  obtain ⟨p, q, r⟩ := h
  refine ⟨by omega, ?_⟩
  have hs := pts_step l m
  rcases r with r | r
  · have : (pts l m).sum = 0 := by rw [r, pts_zero a, rep0_sum]
    have := cntp_nn (pts l m)
    omega
  · omega
end K48
end Ev

set_option maxRecDepth 100000
namespace Ev
open PySem
namespace K48
def leftB (l u : List Int) (q : Int) : Bool := !(u.zip l).all fun p => !decide (p.2 - p.1 < pos q)
theorem acc_ok {l u : List Int} {many q : Int} (h : l.length ≤ 40) (h2 : ∀ i ∈ l, 0 ≤ i ∧ i ≤ 1000) (m0 : 0 ≤ many) (m1 : many ≤ 40000) (hu : u.length = l.length) (h0 : ∀ i ∈ u, 0 ≤ i) :
    m_accept_uses [.d (T l), .d (.int many), .d (T u), .d (.int q)] = if u.sum = many then if leftB l u q = true then er 3 "left" else .ok (.v .none, [some (.d (T l)), some (.d (.int many)), some (.d (T u)), some (.d (.int q))]) else er 3 "many" := by
  have e1 := lives_T h h2
  have e2 := int_i many
  have e3 := int_i q
  rw [r_accept_uses]
  simp_arith [b_accept_uses, s_accept_uses_0, s_accept_uses_1, s_accept_uses_2, s_accept_uses_3, s_accept_uses_4, s_accept_uses_5, c_accept_uses, e1, e2, e3, isI, decide_eq_true m0, decide_eq_true m1, hu]
  generalize hg : lcGo _ _ _ _ = o
  have ho := D.lcm hg (fun i => .bool (decide (0 ≤ i))) fun x hm => by
    have e := int_i x
    simp_arith [c_accept_uses, e, isI]
  subst ho
  have ha : u.all (fun i => decide (0 ≤ i)) = true := by simpa using h0
  by_cases c : u.sum = many
  · simp_arith [ha, decide_eq_false (show ¬ ¬ u.sum = many from fun z => z c)]
    generalize hg : lcGo _ _ _ _ = o
    have ho := D.lcs hg (fun p : Int × Int => decide (p.2 - p.1 < pos q)) (fun _ => .int 1) fun x hm => by
      by_cases c : x.2 - x.1 < pos q
      · have c' := c; unfold pos at c'
        simp_arith [decide_eq_true c, decide_eq_true c']
      · have c' := c; unfold pos at c'
        simp_arith [decide_eq_false c, decide_eq_false c']
    subst ho
    have hf : ((u.zip l).filter fun p : Int × Int => decide (p.2 - p.1 < pos q)).length ≤ 40 := Nat.le_trans (List.length_filter_le _ _) (by rw [List.length_zip]; omega)
    have hb : (!(u.zip l).all fun x => !decide (x.2 - x.1 < pos q)) = leftB l u q := rfl
    simp_arith [c_accept_uses, D.fil_nil, hb, if_pos c]
    cases leftB l u q <;> simp_arith [Ev.D.bind_ok]
  · simp_arith [ha, decide_eq_true c, if_neg c]
theorem pts_sum0 {l : List Int} (h : ∀ i ∈ l, 0 ≤ i) : (pts l 0).sum = l.sum := pos_sum h
theorem even_no {l : List Int} {j : Int} (hl : l.length ≤ 40) (l2 : ∀ i ∈ l, 0 ≤ i ∧ i ≤ 1000) (hj : 0 ≤ j ∧ j ≤ 40000) (c : l.sum < j) : m_even_uses [.d (T l), .d (.int j)] = .ok (.v .none, [some (.d (T l)), some (.d (.int j))]) := by
  have e1 := lives_T hl l2
  rw [r_even_uses]
  simp_arith [b_even_uses, s_even_uses_0, s_even_uses_1, s_even_uses_2, c_even_uses, e1, int_i, decide_eq_true hj.1, decide_eq_true hj.2, decide_eq_true c]
/-- the loop that takes fewer from the first -/
theorem tk_step {t : List Int} {sp : Int} {P : List Int} {k : Nat} {s : Int} (hk : k < t.length) (hP : P.length = k) (h : tk t sp = P ++ tk (t.drop k) s) :
    tk t sp = (P ++ [if 0 < t.getD k 0 ∧ 0 < s then t.getD k 0 - 1 else t.getD k 0]) ++ tk (t.drop (k + 1)) (if 0 < t.getD k 0 ∧ 0 < s then s - 1 else s) := by
  have hg : t.getD k 0 = t[k] := by simp [List.getD_eq_getElem?_getD, List.getElem?_eq_getElem hk]
  rw [hg, h, List.drop_eq_getElem_cons hk, tk_c]
  by_cases c : 0 < t[k] ∧ 0 < s
  · rw [if_pos c, if_pos c, if_pos c]; simp
  · rw [if_neg c, if_neg c, if_neg c]; simp
theorem pre_get {P r : List Int} {k : Nat} (h : P.length = k) (x : Int) : (P ++ x :: r).getD k 0 = x := by
  subst h; simp
theorem pre_set {P r : List Int} {k : Nat} (h : P.length = k) (x y : Int) : (P ++ x :: r).set k y = P ++ [y] ++ r := by
  subst h; simp
theorem drop_get {t : List Int} {k : Nat} (hk : k < t.length) : t.drop k = t.getD k 0 :: t.drop (k + 1) := by
  rw [List.drop_eq_getElem_cons hk]; simp [List.getD_eq_getElem?_getD, List.getElem?_eq_getElem hk]
set_option maxHeartbeats 4000000 in
theorem t_even {l : List Int} {j : Int} (hl : l.length ≤ 40) (l2 : ∀ i ∈ l, 0 ≤ i ∧ i ≤ 1000) (hj : 0 ≤ j ∧ j ≤ 40000) (c3 : ¬ l.sum < j) : ∃ m : Nat, Lev l j (most 0 l) m ∧ m_even_uses [.d (T l), .d (.int j)] = .ok (.v (T (tk (pts l m) ((pts l m).sum - j))), [some (.d (T l)), some (.d (.int j))]) := by
  have e1 := lives_T hl l2
  rw [r_even_uses]
  have a1 : asInts (PyData.int 0 :: l.map .int) = some (0 :: l) := D.asInts_int (0 :: l)
  obtain ⟨m1, m2, m3⟩ := most_sp l 0
  have m4 := m3 1000 (by omega) fun i hi => (l2 i hi).2
  obtain ⟨lev, hlev⟩ : ∃ k : Nat, most 0 l = k := ⟨(most 0 l).toNat, by omega⟩
  rw [hlev]
  simp_arith [b_even_uses, s_even_uses_0, s_even_uses_1, s_even_uses_2, s_even_uses_3, s_even_uses_4, s_even_uses_5, c_even_uses, e1, int_i, decide_eq_true hj.1, decide_eq_true hj.2, decide_eq_false c3, a1, hlev]
  have comp : ∀ (lev : Int) (z1 z2 z3 : Option W) (o : Rs (Env × List PyData)), lcGo (D.lcT G29 [7] (Tgt.n 7) [] (.b2 .max (.c (.int 0)) (.bin .sub (.v 7) (.v 3)))) (l.map .int) [some (.d (T l)), some (.d (.int j)), some (.l (l.map .int)), some (.d (.int lev)), z1, z2, z3, none] [] = o → o = .ok ([some (.d (T l)), some (.d (.int j)), some (.l (l.map .int)), some (.d (.int lev)), z1, z2, z3, none], (pts l lev).map .int) := by
    intro lev z1 z2 z3 o hg
    have ho := D.lcm hg (fun o => .int (pos (o - lev))) fun x hx => by
      simp_arith [pos]
    rw [ho]; simp [pts]
  generalize hg : whlGo _ _ _ _ = o
  have hw := D.whX hg (k := lev) (fun m e => m ≤ lev ∧ (m = lev ∨ (pts l ((m : Int) + 1)).sum < j) ∧ e = [some (.d (T l)), some (.d (.int j)), some (.l (l.map .int)), some (.d (.int m)), none, none, none, none]) (fun o => ∃ m : Nat, Lev l j lev m ∧ o = .nx [some (.d (T l)), some (.d (.int j)), some (.l (l.map .int)), some (.d (.int m)), none, none, none, none]) (by show lev < 1000000; omega) ⟨Nat.le_refl _, .inl rfl, rfl⟩ (by
    rintro m _ ⟨hm, hm2, rfl⟩ J Q hJ hQ
    have cp := comp m none none none _ rfl
    have plm : (pts l m).length ≤ 40 := by simp [pts]; omega
    by_cases q : (pts l m).sum < j
    · cases m with
      | zero => have := pts_sum0 fun i hi => (l2 i hi).1; simp at q; omega
      | succ m =>
        simp_arith [f_even_uses_0, cp, decide_eq_true q]
        refine hJ m _ (by omega) ⟨by omega, .inr (by rw [show (m : Int) + 1 = ((m + 1 : Nat) : Int) by omega]; exact q), ?_⟩
        rw [show ((m + 1 : Nat) : Int) - 1 = m by omega]
    · simp_arith [cp, decide_eq_false q]
      refine hQ _ ⟨m, ⟨by omega, by omega, ?_⟩, rfl⟩
      rcases hm2 with rfl | h
      · exact .inl rfl
      · exact .inr h)
  obtain ⟨m, hm, rfl⟩ := hw
  refine ⟨m, hm, ?_⟩
  have cp := comp m none none none _ rfl
  have pl : (pts l m).length = l.length := by simp [pts]
  simp_arith [s_even_uses_6, s_even_uses_7, s_even_uses_8, cp]
  obtain ⟨t, ht⟩ : ∃ t, pts l m = t := ⟨_, rfl⟩
  rw [ht] at pl ⊢
  generalize hg : forGo _ _ _ = o
  obtain ⟨_, rfl, P, sp, z, hPl, hPt, rfl⟩ := D.loopR hg (fun k e => ∃ (P : List Int) (sp : Int) (z : Option W), P.length = k ∧ tk t (t.sum - j) = P ++ tk (t.drop k) sp ∧ e = [some (.d (T l)), some (.d (.int j)), some (.l (l.map .int)), some (.d (.int m)), some (.l ((P ++ t.drop k).map .int)), some (.d (.int sp)), z, none]) ⟨[], _, none, rfl, rfl, rfl⟩ (by
    rintro k _ hk ⟨P, sp, z, hPl, hPt, rfl⟩ J R hJ
    have hkt : k < t.length := by omega
    have hst := tk_step hkt hPl hPt
    have hdg := drop_get hkt
    rw [hdg]
    generalize t.getD k 0 = x at *
    have hlen : (P ++ x :: t.drop (k + 1)).length = l.length := by rw [List.length_append, List.length_cons, List.length_drop]; omega
    have a1 := at_D (l := P ++ x :: t.drop (k + 1)) (k := k) (by omega)
    have a2 := get_T (rs := P ++ x :: t.drop (k + 1)) (x := k) (by omega)
    rw [pre_get hPl] at a1 a2
    have a3 : L2.ixN l.length (k : Int) = some k := D.ixN_n hk
    have a4 := pre_set (r := t.drop (k + 1)) hPl x (x - 1)
    have hsh : P ++ [x] ++ t.drop (k + 1) = P ++ x :: t.drop (k + 1) := by simp
    obtain ⟨Y, hY⟩ : ∃ Y, P ++ x :: t.drop (k + 1) = Y := ⟨_, rfl⟩
    rw [hY] at hlen a1 a2 a4 hsh
    rw [hY]
    by_cases q : 0 < sp
    · by_cases q2 : 0 < x
      · rw [if_pos ⟨q2, q⟩, if_pos ⟨q2, q⟩] at hst
        simp_arith [f_even_uses_1, a1, a2, a3, hlen, decide_eq_true q, decide_eq_true q2, set_T, a4]
        exact hJ _ ⟨P ++ [x - 1], sp - 1, some (.d (.int k)), by simp [hPl], hst, by rw [← a4, ← set_T]; rfl⟩
      · rw [if_neg (fun h => q2 h.1), if_neg (fun h => q2 h.1)] at hst
        simp_arith [f_even_uses_1, a1, decide_eq_true q, decide_eq_false q2]
        exact hJ _ ⟨P ++ [x], sp, _, by simp [hPl], hst, by rw [hsh]⟩
    · rw [if_neg (fun h => q h.2), if_neg (fun h => q h.2)] at hst
      simp_arith [f_even_uses_1, decide_eq_false q]
      exact hJ _ ⟨P ++ [x], sp, _, by simp [hPl], hst, by rw [hsh]⟩)
  rw [show t.drop l.length = [] by rw [← pl, List.drop_length]] at hPt ⊢
  have hPt : tk t (t.sum - j) = P ++ [] := hPt
  rw [List.append_nil] at hPt
  rw [hPt, List.append_nil]
  simp_arith [s_even_uses_9]
end K48
end Ev

set_option maxRecDepth 100000
namespace Ev
open PySem
namespace K48
abbrev vE (s : DS) (l u : List Int) (z4 z5 z6 z7 z8 z9 z10 z11 z12 z13 z14 z15 z16 : Option W) : Env := [some (.l s.enc), some (.d (.int l.length)), some (.d (T l)), some (.d (T u)), z4, z5, z6, z7, z8, z9, z10, z11, z12, z13, z14, z15, z16, none, none]
theorem us0 {s : DS} (os : s.ok) : ∃ (s' : DS) (l u : List Int), s'.ok ∧ (1 ≤ l.length ∧ l.length ≤ 40) ∧ (∀ i ∈ l, 0 ≤ i ∧ i ≤ 1000) ∧ u.length ≤ 400 ∧ (∀ i ∈ u, 0 ≤ i ∧ i < l.length) ∧ ∀ r, exs G30 (s_law_uses_hold_0 :: s_law_uses_hold_1 :: s_law_uses_hold_2 :: r) [some (.l s.enc), none, none, none, none, none, none, none, none, none, none, none, none, none, none, none, none, none, none] = exs G30 r (vE s' l u none none none none none none none none none none none none none) := by
  suffices h : ∃ (s' : DS) (l u : List Int), s'.ok ∧ (1 ≤ l.length ∧ l.length ≤ 40) ∧ (∀ i ∈ l, 0 ≤ i ∧ i ≤ 1000) ∧ u.length ≤ 400 ∧ (∀ i ∈ u, 0 ≤ i ∧ i < l.length) ∧ exs G30 [s_law_uses_hold_0, s_law_uses_hold_1, s_law_uses_hold_2] [some (.l s.enc), none, none, none, none, none, none, none, none, none, none, none, none, none, none, none, none, none, none] = .nx (vE s' l u none none none none none none none none none none none none none) by
    obtain ⟨s', l, u, a, b, c, d, e, h⟩ := h
    exact ⟨s', l, u, a, b, c, d, e, fun r => D.exs_appD G30 [_, _, _] h⟩
  obtain ⟨x, s1, hx, o1, e1⟩ := t_pick s os (xs := [.int 4, .int 40]) (by simp) (by simp)
  obtain ⟨n, rfl, hn⟩ : ∃ n : Int, x = .int n ∧ 1 ≤ n ∧ n ≤ 40 := by
    simp only [List.mem_cons, List.not_mem_nil, or_false] at hx
    rcases hx with rfl | rfl <;> exact ⟨_, rfl, by omega, by omega⟩
  obtain ⟨d1, s2, h2, o2, e2⟩ := tdc s1 o1 n (by omega) (by omega)
  simp_arith [s_law_uses_hold_0, c_law_uses_hold, e1, e2]
  rw [show (1 : Int) + (d1 : Int) = ((1 + d1 : Nat) : Int) by omega]
  obtain ⟨m, hm⟩ : ∃ m, m = 1 + d1 := ⟨_, rfl⟩
  have hm1 : 1 ≤ m := by omega
  have hm2 : m ≤ 40 := by omega
  rw [← hm]
  clear e1 e2 hm
  simp_arith [s_law_uses_hold_1]
  generalize hg : lcGo _ _ _ _ = o
  obtain ⟨_, _, rfl, s3, l, o3, hl1, hl2, rfl, rfl⟩ := D.lciR hg (fun q e ys => ∃ (s : DS) (r : List Int), s.ok ∧ r.length = q ∧ (∀ i ∈ r, 0 ≤ i ∧ i ≤ 1000) ∧ ys = r.map .int ∧ e = [some (.l s.enc), some (.d (.int m)), none, none, none, none, none, none, none, none, none, none, none, none, none, none, none, none, none]) ⟨s2, [], o2, rfl, by simp, rfl, rfl⟩ (by
    rintro q _ _ hq ⟨s, r, os, hr1, hr2, rfl, rfl⟩ J hJ
    obtain ⟨d, s1, h1, o1, e1⟩ := tdc s os 9 (by decide) (by decide)
    obtain ⟨x, s2, hx, o2, e2⟩ := t_pick s1 o1 (xs := [.int 4, .int 1000]) (by simp) (by simp)
    obtain ⟨p, rfl, hp⟩ : ∃ n : Int, x = .int n ∧ 0 ≤ n ∧ n ≤ 1000 := by
      simp only [List.mem_cons, List.not_mem_nil, or_false] at hx
      rcases hx with rfl | rfl <;> exact ⟨_, rfl, by omega, by omega⟩
    obtain ⟨x, s3, hx, o3, e3⟩ := t_pick s2 o2 (xs := [.int 0, .int 1, .int d, .int p]) (by simp) (by simp)
    obtain ⟨v, rfl, hv⟩ : ∃ n : Int, x = .int n ∧ 0 ≤ n ∧ n ≤ 1000 := by
      simp only [List.mem_cons, List.not_mem_nil, or_false] at hx
      rcases hx with rfl | rfl | rfl | rfl <;> exact ⟨_, rfl, by omega, by omega⟩
    simp_arith [c_law_uses_hold, e1, e2, e3]
    refine hJ _ _ ⟨s3, r ++ [v], o3, by simp [hr1], fun j hj => ?_, by simp, rfl⟩
    rcases List.mem_append.mp hj with h | h
    · exact hr2 j h
    · rw [List.mem_singleton.mp h]; exact hv)
  subst hl1
  obtain ⟨x, s4, hx, o4, e4⟩ := t_pick s3 o3 (xs := [.int 5, .int 40, .int 400]) (by simp) (by simp)
  obtain ⟨p, rfl, hp⟩ : ∃ n : Int, x = .int n ∧ 1 ≤ n ∧ n ≤ 400 := by
    simp only [List.mem_cons, List.not_mem_nil, or_false] at hx
    rcases hx with rfl | rfl | rfl <;> exact ⟨_, rfl, by omega, by omega⟩
  obtain ⟨d2, s5, h5, o5, e5⟩ := tdc s4 o4 p (by omega) (by omega)
  simp_arith [s_law_uses_hold_2, c_law_uses_hold, e4, e5]
  generalize hg : lcGo _ _ _ _ = o
  obtain ⟨_, _, rfl, s6, u, o6, hu1, hu2, rfl, rfl⟩ := D.lciR hg (fun q e ys => ∃ (s : DS) (r : List Int), s.ok ∧ r.length = q ∧ (∀ i ∈ r, 0 ≤ i ∧ i < l.length) ∧ ys = r.map .int ∧ e = [some (.l s.enc), some (.d (.int l.length)), some (.d (T l)), none, none, none, none, none, none, none, none, none, none, none, none, none, none, none, none]) ⟨s5, [], o5, rfl, by simp, rfl, rfl⟩ (by
    rintro q _ _ hq ⟨s, r, os, hr1, hr2, rfl, rfl⟩ J hJ
    obtain ⟨d, s', hd, o', e⟩ := tde s os l.length (by omega) (by omega)
    simp_arith [c_law_uses_hold, e]
    refine hJ _ _ ⟨s', r ++ [(d : Int)], o', by simp [hr1], fun j hj => ?_, by simp, rfl⟩
    rcases List.mem_append.mp hj with h | h
    · exact hr2 j h
    · rw [List.mem_singleton.mp h]; omega)
  refine ⟨s6, l, u, o6, ⟨hm1, hm2⟩, hl2, by omega, hu2, ?_⟩
  simp_arith [Ev.D.bind_ok]
theorem lf_bd : ∀ {u rs : List Int} {k : Nat}, (∀ i ∈ rs, 0 ≤ i ∧ i ≤ 1000) → (lf rs u k).1.length = rs.length ∧ ∀ i ∈ (lf rs u k).1, 0 ≤ i ∧ i ≤ 1000
  | [], rs, k, h => ⟨rfl, h⟩
  | o :: r, rs, k, h => by
    rw [lf_c]
    split
    · exact ⟨rfl, h⟩
    · rename_i c
      have hb : ∀ i ∈ rs.set o.toNat (rs.getD o.toNat 0 - 1), 0 ≤ i ∧ i ≤ 1000 := by
        intro i hi
        rcases List.mem_or_eq_of_mem_set hi with hi | rfl
        · exact h i hi
        · by_cases q : o.toNat < rs.length
          · have := h (rs.getD o.toNat 0) (by rw [List.getD_eq_getElem?_getD, List.getElem?_eq_getElem q]; exact List.getElem_mem _)
            omega
          · exact absurd (by rw [List.getD_eq_getElem?_getD, List.getElem?_eq_none (by omega)]; rfl) c
      obtain ⟨h1, h2⟩ := lf_bd (u := r) (k := k + 1) hb
      exact ⟨by rw [h1, List.length_set], h2⟩
theorem fit_ju {l u : List Int} (hl : l.length ≤ 40) (h2 : ∀ i ∈ l, 0 ≤ i ∧ i ≤ 1000) (h : ∀ i ∈ u, 0 ≤ i ∧ i < l.length) (hu : u.length ≤ 400) : D.Fit 60 400000 (juP u (lf l u 0)) := by
  obtain ⟨b1, b2⟩ := lf_bd (u := u) (k := 0) h2
  cases hq : lf l u 0 with
  | mk rs a =>
    rw [hq] at b1 b2
    cases a with
    | none =>
      refine (D.Fit.tup (k := 1) (n := 2000) (m := 10000) (fun x hx => ?_) (by simp)).up (by decide) (by decide)
      simp only [List.mem_cons, List.not_mem_nil, or_false] at hx
      rcases hx with rfl | rfl
      · exact D.Fit.str (by decide +kernel) (by decide +kernel)
      · exact fit_T (by have : rs.length = l.length := b1; omega) fun i hi => by have := b2 i hi; omega
    | some k =>
      have hk := lf_k hq
      refine (D.Fit.tup (k := 0) (n := 100) (m := 1000) (fun x hx => ?_) (by simp)).up (by decide) (by decide)
      simp only [List.mem_cons, List.not_mem_nil, or_false] at hx
      rcases hx with rfl | rfl | rfl
      · exact D.Fit.str (by decide +kernel) (by decide +kernel)
      · refine fit_i ?_
        omega
      · refine fit_i ?_
        have := h (u.getD k 0) (by rw [List.getD_eq_getElem?_getD, List.getElem?_eq_getElem (by omega)]; exact List.getElem_mem _)
        omega
end K48
end Ev

set_option maxRecDepth 100000
namespace Ev
open PySem
namespace K48
/-- what the law keeps of the first worn card -/
def Due (l u : List Int) (lt : List Int) (k : Nat) (dv : PyData) : Prop := (dv = .none ∧ lf l u 0 = lf lt (u.drop k) k) ∨ ∃ q rs, lf l u 0 = (rs, some q) ∧ dv = .tuple [S "worn", .int q, .int (u.getD q 0)]
theorem us1 {s : DS} {l u : List Int} (hl : l.length ≤ 40) (l2 : ∀ i ∈ l, 0 ≤ i ∧ i ≤ 1000) (hu : u.length ≤ 400) (u2 : ∀ i ∈ u, 0 ≤ i ∧ i < l.length) : ∃ z4 z11 z12, ∀ r, exs G30 (s_law_uses_hold_3 :: s_law_uses_hold_4 :: s_law_uses_hold_5 :: r) (vE s l u none none none none none none none none none none none none none) = exs G30 r (vE s l u z4 none none none none none none z11 z12 none none none none) := by
  suffices h : ∃ z4 z11 z12, exs G30 [s_law_uses_hold_3, s_law_uses_hold_4, s_law_uses_hold_5] (vE s l u none none none none none none none none none none none none none) = .nx (vE s l u z4 none none none none none none z11 z12 none none none none) by
    obtain ⟨z4, z11, z12, h⟩ := h
    exact ⟨z4, z11, z12, fun r => D.exs_appD G30 [_, _, _] h⟩
  simp_arith [s_law_uses_hold_3, s_law_uses_hold_4]
  generalize hg : forGo _ _ _ = o
  obtain ⟨_, rfl, z4, lt, dv, hlt, hdv, rfl⟩ := D.loopR hg (fun k e => ∃ (z4 : Option W) (lt : List Int) (dv : PyData), lt.length = l.length ∧ Due l u lt k dv ∧ e = vE s l u z4 none none none none none none (some (.l (lt.map .int))) (some (.d dv)) none none none none) ⟨none, l, .none, rfl, .inl ⟨rfl, rfl⟩, rfl⟩ (by
    rintro k _ hk ⟨z4, lt, dv, hlt, hdv, rfl⟩ J R hJ
    have a0 := at_D (l := u) hk
    have hmem : u.getD k 0 ∈ u := by
      rw [List.getD_eq_getElem?_getD, List.getElem?_eq_getElem hk]; exact List.getElem_mem _
    obtain ⟨x0, x1⟩ := u2 _ hmem
    have hdg := drop_get hk
    obtain ⟨x, hx⟩ : ∃ m : Nat, u.getD k 0 = m := ⟨(u.getD k 0).toNat, by omega⟩
    rw [hx] at a0 hdg
    have hxl : x < lt.length := by omega
    have a1 := at_D (l := lt) hxl
    have a2 := get_T hxl
    have a3 : L2.ixN l.length (x : Int) = some x := by exact D.ixN_n (by omega)
    rcases hdv with ⟨rfl, hd⟩ | ⟨q, rs, hd, rfl⟩
    · rw [hdg, lf_c, Int.toNat_natCast] at hd
      by_cases c : lt.getD x 0 = 0
      · rw [if_pos c] at hd
        simp_arith [f_law_uses_hold_0, a0, a1, a2, a3, hlt, decide_eq_true c]
        exact hJ _ ⟨some (.d (.int k)), lt.set x (lt.getD x 0 - 1), .tuple [S "worn", .int k, .int x], by simp [hlt], .inr ⟨k, lt, hd, by rw [hx]⟩, by rw [← set_T]⟩
      · rw [if_neg c] at hd
        simp_arith [f_law_uses_hold_0, a0, a1, a2, a3, hlt, decide_eq_false c]
        exact hJ _ ⟨some (.d (.int k)), lt.set x (lt.getD x 0 - 1), .none, by simp [hlt], .inl ⟨rfl, hd⟩, by rw [← set_T]⟩
    · by_cases c : lt.getD x 0 = 0
      · simp_arith [f_law_uses_hold_0, a0, a1, a2, a3, hlt, decide_eq_true c]
        exact hJ _ ⟨some (.d (.int k)), lt.set x (lt.getD x 0 - 1), .tuple [S "worn", .int q, .int (u.getD q 0)], by simp [hlt], .inr ⟨q, rs, hd, rfl⟩, by rw [← set_T]⟩
      · simp_arith [f_law_uses_hold_0, a0, a1, a2, a3, hlt, decide_eq_false c]
        exact hJ _ ⟨some (.d (.int k)), lt.set x (lt.getD x 0 - 1), .tuple [S "worn", .int q, .int (u.getD q 0)], by simp [hlt], .inr ⟨q, rs, hd, rfl⟩, by rw [← set_T]⟩)
  refine ⟨z4, some (.l (lt.map .int)), some (.d dv), ?_⟩
  have ej := t_juses hl l2 u2 (by omega)
  have es := same_d (fit_ju hl l2 u2 hu)
  rcases hdv with ⟨rfl, hd⟩ | ⟨q, rs, hd, rfl⟩
  · rw [List.drop_length] at hd
    have hd : lf l u 0 = (lt, none) := hd
    rw [hd] at ej es
    simp only [juP] at ej es
    simp_arith [s_law_uses_hold_5, c_law_uses_hold, ej, es]
  · rw [hd] at ej es
    simp only [juP] at ej es
    simp_arith [s_law_uses_hold_5, c_law_uses_hold, ej, es]
theorem maxp (y : Int) : opB1 .max (.list [.int 0, .int y]) = some (.v (.int (pos y))) := by
  show some (Rv.v (.int (most 0 [y]))) = _
  unfold most most pos
  rfl
theorem as2 (a b : Int) : asInts [.int a, .int b] = some [a, b] := rfl
theorem mostp (y : Int) : most 0 [y] = pos y := by
  unfold most most pos
  rfl
set_option maxHeartbeats 4000000 in
theorem us2 {s : DS} {l u : List Int} {g : Int} (hl : l.length ≤ 40) (l2 : ∀ i ∈ l, 0 ≤ i ∧ i ≤ 1000) (hg0 : 0 ≤ g) (hg : g ≤ l.sum) (z4 z11 z12 : Option W) : ∃ (m : Nat) (z4' z14 z15 z16 z8 : Option W), Lev l g 1000 m ∧ ∀ r, exs G30 (s_law_uses_hold_9 :: s_law_uses_hold_10 :: s_law_uses_hold_11 :: s_law_uses_hold_12 :: s_law_uses_hold_13 :: s_law_uses_hold_14 :: r) (vE s l u z4 (some (.d (.int l.sum))) (some (.d (.int g))) none none none none z11 z12 none none none none) = exs G30 r (vE s l u z4' (some (.d (.int l.sum))) (some (.d (.int g))) (some (.d (T (tk (pts l m) ((pts l m).sum - g))))) z8 none none z11 z12 (some (.d (.int m))) z14 z15 z16) := by
  suffices h : ∃ (m : Nat) (z4' z14 z15 z16 z8 : Option W), Lev l g 1000 m ∧ exs G30 [s_law_uses_hold_9, s_law_uses_hold_10, s_law_uses_hold_11, s_law_uses_hold_12, s_law_uses_hold_13, s_law_uses_hold_14] (vE s l u z4 (some (.d (.int l.sum))) (some (.d (.int g))) none none none none z11 z12 none none none none) = .nx (vE s l u z4' (some (.d (.int l.sum))) (some (.d (.int g))) (some (.d (T (tk (pts l m) ((pts l m).sum - g))))) z8 none none z11 z12 (some (.d (.int m))) z14 z15 z16) by
    obtain ⟨m, a, b, c, d, e, f, h⟩ := h
    exact ⟨m, a, b, c, d, e, f, fun r => D.exs_appD G30 [_, _, _, _, _, _] h⟩
  simp_arith [s_law_uses_hold_9, s_law_uses_hold_10]
  generalize hgg : whlGo _ _ _ _ = o
  have hw := D.whX hgg (k := 1000) (fun k e => ∃ (lo hi : Nat) (z15 z16 : Option W), hi ≤ lo + k ∧ lo ≤ hi ∧ hi ≤ 1000 ∧ g ≤ (pts l lo).sum ∧ (hi = 1000 ∨ (pts l ((hi : Int) + 1)).sum < g) ∧ e = vE s l u z4 (some (.d (.int l.sum))) (some (.d (.int g))) none none none none z11 z12 (some (.d (.int lo))) (some (.d (.int hi))) z15 z16) (fun o => ∃ (m : Nat) (z14 z15 z16 : Option W), Lev l g 1000 m ∧ o = .nx (vE s l u z4 (some (.d (.int l.sum))) (some (.d (.int g))) none none none none z11 z12 (some (.d (.int m))) z14 z15 z16)) (by decide) ⟨0, 1000, none, none, by omega, by omega, by omega, by rw [show ((0 : Nat) : Int) = 0 from rfl, pts_sum0 fun i hi => (l2 i hi).1]; exact hg, .inl rfl, rfl⟩ (by
    rintro k _ ⟨lo, hi, z15, z16, h1, h2, h3, h4, h5, rfl⟩ J Q hJ hQ
    by_cases c : lo < hi
    · obtain ⟨mid, hmid⟩ : ∃ mid : Nat, mid = (lo + hi + 1) / 2 := ⟨_, rfl⟩
      have hmi : ((lo : Int) + (hi : Int) + 1) / 2 = (mid : Nat) := by omega
      have plm : (pts l mid).length ≤ 40 := by simp [pts]; omega
      simp_arith [decide_eq_true c, f_law_uses_hold_1, hmi]
      generalize hg : lcGo _ _ _ _ = o
      have ho := D.lcm hg (fun o => .int (pos (o - mid))) fun x hx => by
        simp_arith [as2, mostp]
      have e : (l.map fun o => PyData.int (pos (o - mid))) = (pts l mid).map .int := by simp [pts]
      rw [e] at ho
      subst ho
      by_cases q : g ≤ (pts l mid).sum
      · simp_arith [decide_eq_true q]
        exact hJ (hi - mid) _ (by omega) ⟨mid, hi, _, _, by omega, by omega, h3, q, h5, rfl⟩
      · simp_arith [decide_eq_false q]
        exact hJ (mid - 1 - lo) _ (by omega) ⟨lo, mid - 1, _, _, by omega, by omega, by omega, h4, .inr (by rw [show (((mid - 1 : Nat) : Int) + 1) = (mid : Nat) by omega]; omega), by rw [show ((mid - 1 : Nat) : Int) = (mid : Int) - 1 by omega]⟩
    · simp_arith [decide_eq_false c]
      have : lo = hi := by omega
      subst this
      refine hQ _ ⟨lo, _, _, _, ⟨h4, by omega, ?_⟩, rfl⟩
      rcases h5 with rfl | h5
      · exact .inl rfl
      · exact .inr h5)
  obtain ⟨m, z14, z15, z16, hm, rfl⟩ := hw
  have pl : (pts l m).length = l.length := by simp [pts]
  simp_arith [s_law_uses_hold_11]
  generalize hgg : lcGo _ _ _ _ = o
  have ho := D.lcm hgg (fun o => .int (pos (o - m))) fun x hx => by
    simp_arith [as2, mostp]
  have e : (l.map fun o => PyData.int (pos (o - m))) = (pts l m).map .int := by simp [pts]
  rw [e] at ho
  subst ho
  obtain ⟨t, ht⟩ : ∃ t, pts l m = t := ⟨_, rfl⟩
  rw [ht] at pl ⊢
  simp_arith [s_law_uses_hold_12, s_law_uses_hold_13]
  generalize hgg : forGo _ _ _ = o
  obtain ⟨_, rfl, P, sp, z, hPl, hPt, rfl⟩ := D.loopR hgg (fun k e => ∃ (P : List Int) (sp : Int) (z : Option W), P.length = k ∧ tk t (t.sum - g) = P ++ tk (t.drop k) sp ∧ e = vE s l u z (some (.d (.int l.sum))) (some (.d (.int g))) (some (.l ((P ++ t.drop k).map .int))) (some (.d (.int sp))) none none z11 z12 (some (.d (.int m))) z14 z15 z16) ⟨[], _, _, rfl, rfl, rfl⟩ (by
    rintro k _ hk ⟨P, sp, z, hPl, hPt, rfl⟩ J R hJ
    have hkt : k < t.length := by omega
    have hst := tk_step hkt hPl hPt
    have hdg := drop_get hkt
    rw [hdg]
    generalize t.getD k 0 = x at *
    have hlen : (P ++ x :: t.drop (k + 1)).length = l.length := by rw [List.length_append, List.length_cons, List.length_drop]; omega
    have a1 := at_D (l := P ++ x :: t.drop (k + 1)) (k := k) (by omega)
    have a2 := get_T (rs := P ++ x :: t.drop (k + 1)) (x := k) (by omega)
    rw [pre_get hPl] at a1 a2
    have a3 : L2.ixN l.length (k : Int) = some k := D.ixN_n hk
    have a4 := pre_set (r := t.drop (k + 1)) hPl x (x - 1)
    have hsh : P ++ [x] ++ t.drop (k + 1) = P ++ x :: t.drop (k + 1) := by simp
    obtain ⟨Y, hY⟩ : ∃ Y, P ++ x :: t.drop (k + 1) = Y := ⟨_, rfl⟩
    rw [hY] at hlen a1 a2 a4 hsh
    rw [hY]
    by_cases q2 : 0 < x
    · by_cases q : 0 < sp
      · rw [if_pos ⟨q2, q⟩, if_pos ⟨q2, q⟩] at hst
        simp_arith [f_law_uses_hold_2, a1, a2, a3, hlen, decide_eq_true q, decide_eq_true q2]
        exact hJ _ ⟨P ++ [x - 1], sp - 1, some (.d (.int k)), by simp [hPl], hst, by rw [← a4, ← set_T]⟩
      · rw [if_neg (fun h => q h.2), if_neg (fun h => q h.2)] at hst
        simp_arith [f_law_uses_hold_2, a1, decide_eq_false q, decide_eq_true q2]
        exact hJ _ ⟨P ++ [x], sp, _, by simp [hPl], hst, by rw [hsh]⟩
    · rw [if_neg (fun h => q2 h.1), if_neg (fun h => q2 h.1)] at hst
      simp_arith [f_law_uses_hold_2, a1, decide_eq_false q2]
      exact hJ _ ⟨P ++ [x], sp, _, by simp [hPl], hst, by rw [hsh]⟩)
  rw [show t.drop l.length = [] by rw [← pl, List.drop_length]] at hPt ⊢
  have hPt : tk t (t.sum - g) = P ++ [] := hPt
  rw [List.append_nil] at hPt
  refine ⟨m, z, z14, z15, z16, some (.d (.int sp)), hm, ?_⟩
  rw [ht, hPt, List.append_nil]
  simp_arith [s_law_uses_hold_14]
end K48
end Ev

set_option maxRecDepth 100000
namespace Ev
open PySem
namespace K48
theorem zip_rng {u l : List Int} (h : u.length = l.length) (P : Int → Int → Bool) : ((u.zip l).all fun p => P p.1 p.2) = (List.range l.length).all fun k => P (u.getD k 0) (l.getD k 0) := by
  rw [Bool.eq_iff_iff, List.all_eq_true, List.all_eq_true]
  constructor
  · intro q k hk
    have hk := List.mem_range.mp hk
    have h2 : k < u.length := by omega
    have := q (u[k], l[k]) (by
      rw [List.mem_iff_getElem]
      exact ⟨k, by rw [List.length_zip]; omega, by rw [List.getElem_zip]⟩)
    simpa [List.getD_eq_getElem?_getD, List.getElem?_eq_getElem h2, List.getElem?_eq_getElem hk] using this
  · intro q p hp
    obtain ⟨k, hk, rfl⟩ := List.mem_iff_getElem.mp hp
    rw [List.length_zip] at hk
    have h1 : k < u.length := by omega
    have h2 : k < l.length := by omega
    have := q k (List.mem_range.mpr h2)
    rw [List.getElem_zip]
    simpa [List.getD_eq_getElem?_getD, List.getElem?_eq_getElem h1, List.getElem?_eq_getElem h2] using this
theorem all_f {α : Type} {p : α → Bool} {l : List α} {x : α} (hx : x ∈ l) (h : p x = false) : l.all p = false := by
  rw [List.all_eq_false]
  exact ⟨x, hx, by rw [h]; decide⟩
set_option maxHeartbeats 8000000 in
theorem us3 {s : DS} {l u : List Int} {g : Int} {m : Nat} (hl1 : 1 ≤ l.length) (hl : l.length ≤ 40) (l2 : ∀ i ∈ l, 0 ≤ i ∧ i ≤ 1000) (hg0 : 0 ≤ g) (hg : g ≤ l.sum) (hg4 : g ≤ 40000) (hm : Lev l g 1000 m) (z4 z8 z11 z12 z13 z14 z15 z16 : Option W) : D.give 1 (exs G30 [s_law_uses_hold_15, s_law_uses_hold_16, s_law_uses_hold_17, s_law_uses_hold_18] (vE s l u z4 (some (.d (.int l.sum))) (some (.d (.int g))) (some (.d (T (tk (pts l m) ((pts l m).sum - g))))) z8 none none z11 z12 z13 z14 z15 z16)) = .ok (.v (.bool true), [some (.l s.enc)]) := by
  have top : ∀ i ∈ l, i ≤ 1000 := fun i hi => (l2 i hi).2
  obtain ⟨sp0, sp1⟩ := lev_spare hm hg0 top
  have hsum := tk_sum sp0 sp1
  have hlen := tk_len (pts l m) ((pts l m).sum - g)
  have hplen : (pts l m).length = l.length := by simp [pts]
  have hget : ∀ k, k < l.length → 0 ≤ (tk (pts l m) ((pts l m).sum - g)).getD k 0 ∧ (tk (pts l m) ((pts l m).sum - g)).getD k 0 ≤ l.getD k 0 := fun k hk => by
    obtain ⟨h1, h2⟩ := tk_get (pts l m) ((pts l m).sum - g) k pts_nn
    have hmem : l.getD k 0 ∈ l := by rw [List.getD_eq_getElem?_getD, List.getElem?_eq_getElem hk]; exact List.getElem_mem _
    have hl0 := (l2 _ hmem).1
    have h3 : (pts l m).getD k 0 = pos (l.getD k 0 - m) := by
      unfold pts
      rw [List.getD_eq_getElem?_getD, List.getElem?_map, List.getElem?_eq_getElem hk, List.getD_eq_getElem?_getD, List.getElem?_eq_getElem hk]; rfl
    have h4 : pos (l.getD k 0 - m) ≤ l.getD k 0 := by unfold pos; split <;> omega
    exact ⟨h1, by omega⟩
  obtain ⟨me, hme, ee⟩ := t_even hl l2 ⟨hg0, hg4⟩ (show ¬ l.sum < g by omega)
  rw [lev_same hme hm hg0 (most_sp l 0).2.1 top] at ee
  obtain ⟨K, hK⟩ : ∃ K, tk (pts l m) ((pts l m).sum - g) = K := ⟨_, rfl⟩
  rw [hK] at hsum hlen hget ee ⊢
  have hKl : K.length = l.length := by omega
  have hKs : K.sum = g := by omega
  clear hsum hlen
  have hK0 : ∀ i ∈ K, 0 ≤ i := fun i hi => by
    obtain ⟨k, hk, e⟩ := List.mem_iff_getElem.mp hi
    have := (hget k (by omega)).1
    rw [List.getD_eq_getElem?_getD, List.getElem?_eq_getElem hk] at this
    rw [← e]; exact this
  have hK1 : ∀ i ∈ K, i ≤ 1000 := fun i hi => by
    obtain ⟨k, hk, e⟩ := List.mem_iff_getElem.mp hi
    have h1 := (hget k (by omega)).2
    rw [List.getD_eq_getElem?_getD, List.getElem?_eq_getElem hk] at h1
    have hmem : l.getD k 0 ∈ l := by rw [List.getD_eq_getElem?_getD, List.getElem?_eq_getElem (by omega)]; exact List.getElem_mem _
    have h2 := (l2 _ hmem).2
    rw [← e]
    exact Int.le_trans h1 h2
  simp_arith [s_law_uses_hold_15]
  generalize hgg : lcGo _ _ _ _ = o
  have ho := D.lcm hgg (fun k : Nat => .int (l.getD k 0 - K.getD k 0)) fun k hk => by
    have hk := List.mem_range.mp hk
    simp_arith [at_D (l := l) hk, at_D (l := K) (k := k) (by omega)]
  subst ho
  obtain ⟨q, hq, hq1, hq2⟩ := D.min_ints (l := (List.range l.length).map fun k : Nat => l.getD k 0 - K.getD k 0) (by intro h; have := congrArg List.length h; rw [List.length_map, List.length_range, List.length_nil] at this; omega)
  have hq : opB1 .min (.list ((List.range l.length).map fun k : Nat => PyData.int (l.getD k 0 - K.getD k 0))) = some (.v (.int q)) := by
    have e : ((List.range l.length).map fun k : Nat => PyData.int (l.getD k 0 - K.getD k 0)) = ((List.range l.length).map fun k : Nat => l.getD k 0 - K.getD k 0).map .int := by rw [List.map_map]; rfl
    rw [e]; exact hq
  obtain ⟨k0, hk0, hqk⟩ := List.mem_map.mp hq1
  have hk0 := List.mem_range.mp hk0
  have hq0 : 0 ≤ q := by have := hget k0 hk0; omega
  have hle : ∀ k, k < l.length → q ≤ l.getD k 0 - K.getD k 0 := fun k hk => hq2 _ (List.mem_map.mpr ⟨k, List.mem_range.mpr hk, rfl⟩)
  have lb0 : leftB l K q = false := by
    unfold leftB
    rw [zip_rng hKl fun x y => !decide (y - x < pos q)]
    have : ((List.range l.length).all fun k => !decide (l.getD k 0 - K.getD k 0 < pos q)) = true := by
      rw [List.all_eq_true]
      intro k hk
      have hk := List.mem_range.mp hk
      have := hle k hk
      have hp : pos q = q := by unfold pos; split <;> omega
      rw [hp, decide_eq_false (by omega)]; rfl
    rw [this]; rfl
  have lb1 : leftB l K (q + 1) = true := by
    unfold leftB
    rw [zip_rng hKl fun x y => !decide (y - x < pos (q + 1))]
    have hp : pos (q + 1) = q + 1 := by unfold pos; split <;> omega
    rw [all_f (x := k0) (List.mem_range.mpr hk0) (by
      show (!decide (l.getD k0 0 - K.getD k0 0 < pos (q + 1))) = false
      rw [hp, decide_eq_true (by omega)]; rfl)]
    rfl
  have ac := acc_ok (q := q) hl l2 hg0 hg4 hKl hK0
  rw [if_pos hKs, if_neg (by rw [lb0]; decide)] at ac
  have ac1 := acc_ok (q := q + 1) hl l2 hg0 hg4 hKl hK0
  rw [if_pos hKs, if_pos lb1] at ac1
  obtain ⟨kb, x, hkx⟩ := snoc (l := K) (by omega)
  have hx0 := hK0 x (by rw [hkx]; simp)
  have ac2 := acc_ok (l := l) (u := kb ++ [x + 1]) (many := g) (q := 0) hl l2 hg0 hg4 (by rw [hkx] at hKl; simpa using hKl) (fun i hi => by
    rcases List.mem_append.mp hi with h | h
    · exact hK0 i (by rw [hkx]; simp [h])
    · rw [List.mem_singleton.mp h]; omega)
  have hs2 : (kb ++ [x + 1]).sum = g + 1 := by
    rw [hkx] at hKs
    simp at hKs ⊢; omega
  rw [if_neg (by rw [hs2]; omega)] at ac2
  have b1 := askx (q := "accept_uses") (cl4x rfl rfl ac1) (w := Str.ofString "paper left") (by decide +kernel)
  have b2 := askx (q := "accept_uses") (cl4x rfl rfl ac2) (w := Str.ofString "paper many") (by decide +kernel)
  have sm := same_T (l := K) (by omega) (fun i hi => by have := hK0 i hi; have := hK1 i hi; omega)
  have kc : cut K none (some (-1)) = kb := by rw [D.cut_m1, hkx]; simp
  have ka : L2.atI (K.map PyData.int) (-1) = some (.int x) := by rw [hkx]; exact lastR _ _
  have ku : kb.map PyData.int ++ [.int (x + 1)] = (kb ++ [x + 1]).map .int := by simp
  have kbl : kb.length ≤ 40 := by rw [hkx] at hKl; simp at hKl; omega
  have st := t6p (xs := [S "paper left", S "paper many"]) (fit_lst (by simp) fun y hy => by
    simp only [List.mem_cons, List.not_mem_nil, or_false] at hy
    rcases hy with rfl | rfl
    · exact D.Fit.str (by decide +kernel) (by decide +kernel)
    · exact D.Fit.str (by decide +kernel) (by decide +kernel))
  simp_arith [hq, s_law_uses_hold_16, c_law_uses_hold, ee, sm, ac]
  simp_arith [s_law_uses_hold_17, s_law_uses_hold_18, c_law_uses_hold, kc, ka, ku, b1, b2, st]
set_option maxHeartbeats 4000000 in
theorem t_uses {s : DS} (os : s.ok) : ∃ s' : DS, s'.ok ∧ m_law_uses_hold [.l s.enc] = .ok (.v (.bool true), [some (.l s'.enc)]) := by
  obtain ⟨s1, l, u, o1, ⟨hl1, hl⟩, l2, hu, u2, e0⟩ := us0 os
  obtain ⟨z4, z11, z12, e1⟩ := us1 (s := s1) hl l2 hu u2
  have hn := sum_nn (l := l) fun i hi => (l2 i hi).1
  have hs4 : l.sum ≤ 40000 := by
    have : ∀ l : List Int, (∀ i ∈ l, i ≤ 1000) → l.sum ≤ l.length * 1000 := by
      intro l
      induction l with
      | nil => intro _; simp
      | cons i l ih =>
        intro h
        have h1 := h i (by simp)
        have h2 := ih fun j hj => h j (by simp [hj])
        simp only [List.sum_cons, List.length_cons]
        omega
    have := this l fun i hi => (l2 i hi).2
    omega
  obtain ⟨m1, em, hm1, hm2, hm3⟩ := min2 40000 (l.sum + 1)
  obtain ⟨d, s2, hd, o2, e2⟩ := tdc s1 o1 (l.sum + 1) (by omega) (by omega)
  obtain ⟨x, s3, hx, o3, e3⟩ := t_pick s2 o2 (xs := [.int 0, .int l.sum, .int m1, .int d, .int (l.sum / 2)]) (by simp) (by simp)
  obtain ⟨g, rfl, hg0, hg4, hgs⟩ : ∃ g : Int, x = .int g ∧ 0 ≤ g ∧ g ≤ 40000 ∧ g ≤ l.sum + 1 := by
    simp only [List.mem_cons, List.not_mem_nil, or_false] at hx
    rcases hx with rfl | rfl | rfl | rfl | rfl
    all_goals exact ⟨_, rfl, by omega, by omega, by omega⟩
  rw [r_law_uses_hold, b_law_uses_hold, e0, e1]
  refine ⟨s3, o3, ?_⟩
  simp_arith [s_law_uses_hold_6, s_law_uses_hold_7, c_law_uses_hold, em, e2, e3]
  by_cases c : l.sum < g
  · have ev0 := even_no hl l2 ⟨hg0, hg4⟩ c
    simp_arith [s_law_uses_hold_8, c_law_uses_hold, decide_eq_true c, ev0]
  · simp_arith [s_law_uses_hold_8, decide_eq_false c]
    obtain ⟨m, y4, y14, y15, y16, y8, hm, e4⟩ := us2 (s := s3) (u := u) hl l2 hg0 (show g ≤ l.sum by omega) z4 z11 z12
    have e5 := us3 (s := s3) (u := u) hl1 hl l2 hg0 (show g ≤ l.sum by omega) hg4 hm y4 y8 z11 z12 (some (.d (.int m))) y14 y15 y16
    rw [← e5, ← e4]
    simp_arith [Ev.D.bind_ok]
theorem law_ok (ns : List Int) (h : ns.length ≤ 63) : ∃ os, m_law [.r (ns.map .int)] = .ok (.v (.bool true), os) := by
  obtain ⟨s, o, e⟩ := t0 ns
  rw [r_law]
  simp_arith [b_law, s_law_0, s_law_1, c_law, e]
  generalize hg : forGo _ _ _ = o'
  obtain ⟨_, rfl, s1, z, o1, rfl⟩ := D.loopR hg (fun k e => ∃ (s : DS) (z : Option W), s.ok ∧ e = [some (.r (ns.map .int)), some (.l s.enc), z]) ⟨s, none, o, rfl⟩ (by
    rintro k _ hk ⟨s, z, os, rfl⟩ J R hJ
    obtain ⟨s1, o1, e1⟩ := t_reads os
    obtain ⟨s2, o2, e2⟩ := t_uses o1
    obtain ⟨s3, o3, e3⟩ := t_runs o2
    simp_arith [f_law_0, c_law, e1, e2, e3]
    exact hJ _ ⟨s3, _, o3, rfl⟩)
  obtain ⟨s2, o2, e2⟩ := t_great o1
  obtain ⟨s3, o3, e3⟩ := t_rounds o2
  simp_arith [s_law_2, c_law, e2, e3]
  exact ⟨_, rfl⟩
end K48
end Ev

set_option maxRecDepth 100000
/-! Ev, part AG: a text's own errors, from what stands written. -/
namespace Ev
open PySem PySem.Spec PySem.W L2 L2H NdefX PyProof.Rows
abbrev excMro (Card : Addr) : List Value := [.ref Card, .type "ValueError", .type "Exception", .type "BaseException", .type "object"]
section
variable {P : Program} {w : World} {K : Frag} {mg : Str → Option Value} {base : Heap}
/-- one class, to be raised -/
theorem er_one {C Card fI cda cc : Addr} {x qual msg slf fld : Str} {st : Stmt} {p0 p1 p2 p3 p4 p5 p6 p7 p8 p9 : Pos} {ar : Arg} {nm q : Str} {N : Addr} {bs : List Value} {sn : List Str} {sub : List Value} {ab : Bool} {col : Option Bool} {dd : Option Addr} {k0 k1 k2 k3 k5 : Option Value}
    {oc : Value} {od an : Option Addr} {osl : Array (Option Value)} {doc pm ct : Value} {ccl : Value} {cdd : Option Addr} {ccs : Array (Option Value)} {cvs : Array Value} {file : Str} {tf : Tok} {cl : Value} {cld : Option Addr} {csl : Array (Option Value)} {cd : ClassData}
    (hb : defBody st = initB msg slf fld fld 0 p0 p1 p2 p3 p4 p5 p6 p7 p8 p9) (hs : defScope st = initSc slf fld)
    (hp : ((defArgs st).posonlyargs ++ (defArgs st).args).head? = some ar) (har : ar.arg = slf)
    (hbi : ∀ (cd doc pm : Value) (an : Option Addr) (cl : List (Str × Addr)) (ct : Value) (us : List Value), us.length = 2 → bindArgs (fnX "__init__" qual (defArgs st) (defBody st) (defScope st) cl .none .none doc pm an cd ct) ⟨us, []⟩ = pure ([slf, fld].zip us))
    (S : NScope [slf, fld, "__class__"] [slf, fld] ["__class__"] (initSc slf fld)) (hsu : (initSc slf fld).names.lookup ("super" : Str) = some .globalImplicit) (hcl : (initSc slf fld).names.lookup ("__class__" : Str) = some .free)
    (hd1 : (slf == ("__debug__" : Str)) = false) (hd2 : (slf == ("__classdict__" : Str)) = false) (hd3 : (fld == ("__debug__" : Str)) = false) (hd4 : (fld == ("__classdict__" : Str)) = false)
    (hsw : ∀ env : PySem.Env, swapsWith (.Name fld p8) (some (.Attribute (.Name slf p6) fld p7)) p9.line env = pure false)
    (hev : ∀ env : PySem.Env, ∃ pl, eval (.Call (.Attribute (.Call (.Name "super" p0) [] [] p1) "__init__" p2) [.Constant (.str msg) 0 p3] [] p4) env = (do
      let ov ← attributeBase (.Call (.Name "super" p0) [] [] p1) "__init__" env (eval (.Call (.Name "super" p0) [] [] p1) env)
      standAt p2.atName
      let (f, first) ← holding [ov] (getMethod ov "__init__" pl)
      callWith p4 f first (backTo p4 (starEach [.Constant (.str msg) 0 p3] env)) []))
    (e : mg x = some (.ref C)) (hC : K.lookup C = some (excClassObj nm q C N bs (excMro Card) true sn sub ab col dd k0 k1 k2 k3 k5 "ValueError.__new__")) (sa : findIn K (.ref C) "__setattr__" = some (some (.builtin "object.__setattr__")))
    (exC : subIn K (.ref C) (.type "BaseException") = some true) (ve : subIn K (.ref C) (.type "ValueError") = some true) (tyC : typeIn K (.ref C) = some (.type "type")) (kC : keepIn K (.ref C) = true)
    (iC : findIn K (.ref C) "__init__" = some (some (.ref fI))) (tI : typeIn K (.ref fI) = some (.type "function"))
    (lk : K.lookup fI = some ⟨oc, od, .func (fnX "__init__" qual (defArgs st) (defBody st) (defScope st) [("__class__", cc)] .none .none doc pm an (.ref cda) ct), osl⟩) (hcd : codeIn K (.ref cda) qual = true)
    (co : K.lookup cda = some ⟨ccl, cdd, .fields cvs, ccs⟩) (hf : cvs[2]? = some (.str file tf)) (hfile : ((P.main.file : Str) == file) = true) (ce : K.lookup cc = some ⟨cl, cld, .cell (some (.ref C)), csl⟩)
    (hcls : clsIn K C = some cd) (self : mroIn K C (.ref C) = some true) (sup : ks_superIn K C C "__init__" = some (some (.builtin "ValueError.__init__"))) (hno : findIn K (.ref C) fld = some none)
    (opq : nsIn K cStatics "thirdparty.any" = some none) (hmg : mg "super" = none) (htop : (P.main.scope.names.lookup ("super" : Str)).isSome = false) :
    (∃ (fI : Addr) (fd : FuncData) (ps : List Str), findIn K (.ref C) "__init__" = some (some (.ref fI)) ∧ typeIn K (.ref fI) = some (.type "function") ∧ FnOk P w K mg base CXn 1 fI fd ps (spInit C fld) ∧ Binds K fd ps []) ∧ OexC K C ∧ mg x = some (.ref C) := by
  have hrefs : PySem.HandSPX.refsVE (excMro Card) = true := rfl
  have O : OexC K C := ⟨⟨nm, q, N, bs, excMro Card, sn, sub, ab, col, dd, k0, k1, k2, k3, k5, hC, hrefs⟩, sa, exC, tyC, kC⟩
  refine ⟨⟨fI, _, [slf, fld], iC, tI, ?_, .all (hbi (.ref cda) doc pm an [("__class__", cc)] ct)⟩, O, e⟩
  rw [hb, hs]
  rw [hb, hs] at lk
  exact init_fn ⟨O, ⟨oc, od, osl, lk⟩, ⟨ccl, cdd, ccs, cvs, file, tf, co, hf, hfile⟩, ⟨cl, cld, csl, ce⟩, ⟨cd, hcls⟩, self, sup, ve, opq⟩ S hsu hcl hp har hcd hmg hno htop hd1 hd2 hd3 hd4 hsw hev
theorem scope_of {N ps : List Str} {slf arg : Str} (h : nscB N ps ["__class__"] (initSc slf arg) = true) : NScope N ps ["__class__"] (initSc slf arg) := nscope_by h
end
end Ev

namespace Ev.K48
open PySem PySem.Spec L2 PyProof.Rows
def iS (i : Nat) : Stmt := inClass (topS i) 0
theorem ib0 : defBody (iS 2) = initB "the text can't be read" "self" "at" "at" 0 ⟨7, 8, 7, 13⟩ ⟨7, 8, 7, 15⟩ ⟨7, 8, 7, 24⟩ ⟨7, 25, 7, 49⟩ ⟨7, 8, 7, 50⟩ ⟨7, 8, 7, 50⟩ ⟨8, 8, 8, 12⟩ ⟨8, 8, 8, 15⟩ ⟨8, 18, 8, 20⟩ ⟨8, 8, 8, 20⟩ := by kernel_rfl
theorem is0 : defScope (iS 2) = initSc "self" "at" := by kernel_rfl
theorem ib1 : defBody (iS 3) = initB "the deck is refused" "self" "reason" "reason" 0 ⟨12, 8, 12, 13⟩ ⟨12, 8, 12, 15⟩ ⟨12, 8, 12, 24⟩ ⟨12, 25, 12, 46⟩ ⟨12, 8, 12, 47⟩ ⟨12, 8, 12, 47⟩ ⟨13, 8, 13, 12⟩ ⟨13, 8, 13, 19⟩ ⟨13, 22, 13, 28⟩ ⟨13, 8, 13, 28⟩ := by kernel_rfl
theorem is1 : defScope (iS 3) = initSc "self" "reason" := by kernel_rfl
theorem ib2 : defBody (iS 4) = initB "an argument is refused" "self" "reason" "reason" 0 ⟨17, 8, 17, 13⟩ ⟨17, 8, 17, 15⟩ ⟨17, 8, 17, 24⟩ ⟨17, 25, 17, 49⟩ ⟨17, 8, 17, 50⟩ ⟨17, 8, 17, 50⟩ ⟨18, 8, 18, 12⟩ ⟨18, 8, 18, 19⟩ ⟨18, 22, 18, 28⟩ ⟨18, 8, 18, 28⟩ := by kernel_rfl
theorem is2 : defScope (iS 4) = initSc "self" "reason" := by kernel_rfl
theorem ib3 : defBody (iS 5) = initB "the paper is refused" "self" "reason" "reason" 0 ⟨22, 8, 22, 13⟩ ⟨22, 8, 22, 15⟩ ⟨22, 8, 22, 24⟩ ⟨22, 25, 22, 47⟩ ⟨22, 8, 22, 48⟩ ⟨22, 8, 22, 48⟩ ⟨23, 8, 23, 12⟩ ⟨23, 8, 23, 19⟩ ⟨23, 22, 23, 28⟩ ⟨23, 8, 23, 28⟩ := by kernel_rfl
theorem is3 : defScope (iS 5) = initSc "self" "reason" := by kernel_rfl
theorem ib4 : defBody (iS 6) = initB "too many" "self" "reason" "reason" 0 ⟨27, 8, 27, 13⟩ ⟨27, 8, 27, 15⟩ ⟨27, 8, 27, 24⟩ ⟨27, 25, 27, 35⟩ ⟨27, 8, 27, 36⟩ ⟨27, 8, 27, 36⟩ ⟨28, 8, 28, 12⟩ ⟨28, 8, 28, 19⟩ ⟨28, 22, 28, 28⟩ ⟨28, 8, 28, 28⟩ := by kernel_rfl
theorem is4 : defScope (iS 6) = initSc "self" "reason" := by kernel_rfl
def wp (i : Nat) : Pos := ([⟨207, 4, 207, 9⟩, ⟨207, 13, 207, 20⟩, ⟨207, 22, 207, 33⟩, ⟨207, 35, 207, 43⟩, ⟨207, 45, 207, 52⟩, ⟨207, 12, 207, 53⟩, ⟨207, 4, 207, 53⟩, ⟨208, 4, 208, 12⟩, ⟨208, 16, 208, 26⟩, ⟨208, 27, 208, 32⟩, ⟨208, 34, 208, 43⟩, ⟨208, 16, 208, 44⟩, ⟨208, 46, 208, 56⟩, ⟨208, 57, 208, 62⟩, ⟨208, 64, 208, 77⟩, ⟨208, 46, 208, 78⟩, ⟨208, 80, 208, 90⟩, ⟨208, 91, 208, 96⟩, ⟨208, 98, 208, 108⟩, ⟨208, 80, 208, 109⟩, ⟨208, 111, 208, 121⟩, ⟨208, 122, 208, 127⟩, ⟨208, 129, 208, 136⟩, ⟨208, 111, 208, 137⟩, ⟨208, 139, 208, 149⟩, ⟨208, 150, 208, 155⟩, ⟨208, 157, 208, 166⟩, ⟨208, 139, 208, 167⟩, ⟨208, 15, 208, 168⟩, ⟨208, 4, 208, 168⟩, ⟨209, 7, 209, 15⟩, ⟨209, 7, 209, 21⟩, ⟨209, 22, 209, 26⟩, ⟨209, 7, 209, 27⟩, ⟨209, 31, 209, 32⟩, ⟨209, 7, 209, 32⟩, ⟨209, 40, 209, 50⟩, ⟨209, 51, 209, 56⟩, ⟨209, 58, 209, 68⟩, ⟨209, 40, 209, 69⟩, ⟨209, 36, 209, 69⟩, ⟨209, 7, 209, 69⟩, ⟨210, 15, 210, 22⟩, ⟨210, 8, 210, 22⟩, ⟨209, 4, 210, 22⟩, ⟨211, 38, 211, 46⟩, ⟨211, 47, 211, 48⟩, ⟨211, 38, 211, 49⟩, ⟨211, 11, 211, 18⟩, ⟨211, 21, 211, 24⟩, ⟨211, 25, 211, 30⟩, ⟨211, 25, 211, 33⟩, ⟨211, 21, 211, 34⟩, ⟨211, 11, 211, 34⟩, ⟨211, 55, 211, 60⟩, ⟨211, 61, 211, 69⟩, ⟨211, 61, 211, 75⟩, ⟨211, 76, 211, 80⟩, ⟨211, 61, 211, 81⟩, ⟨211, 55, 211, 82⟩, ⟨211, 85, 211, 90⟩, ⟨211, 85, 211, 97⟩, ⟨211, 55, 211, 97⟩, ⟨211, 11, 211, 97⟩, ⟨211, 4, 211, 97⟩] : List Pos).getD i ⟨0, 0, 0, 0⟩
theorem wbd : defBody (topS 38) = wordB wp := by kernel_rfl
theorem wsc : FnScope ["error", "heads", "kinds_of"] ["error"] (defScope (topS 38)) := ⟨rfl, rfl, rfl, by decide +kernel, rfl, by decide +kernel, by decide +kernel⟩
theorem wws : WordS (defScope (topS 38)) := ⟨rfl, by decide +kernel, by decide +kernel⟩
theorem hal : ∀ e ∈ fs34, e ∈ fs34 := fun _ h => h
set_option maxHeartbeats 0 in
theorem all_mk {P : Program} {w : World} {K : PySem.W.Frag} {mg : Str → Option Value} {fa : Addr} {h : Heap} (X : K.In h) (G : h.Ns mainGlobals mg) (hfa : mg "law" = some (.ref fa))
    {f0 : Addr} {oc0 kV0 dc0 pm0 cd0 ct0 : Value} {od0 an0 : Option Addr} {sl0 : Array (Option Value)} (a0 : PySem.W.nsIn K mainGlobals "_law_start" = some (some (.ref f0)))
    (l0 : K.lookup f0 = some ⟨oc0, od0, .func (PySem.W.fnOf "_law_start" "_law_start" (defArgs (topS 34)) (defBody (topS 34)) (defScope (topS 34)) .none kV0 dc0 pm0 an0 cd0 ct0), sl0⟩)
    (c0 : PySem.W.codeIn K cd0 "_law_start" = true)
    (k0 : PySem.W.keepIn K (.ref f0) = true)
    {f1 : Addr} {oc1 kV1 dc1 pm1 cd1 ct1 : Value} {od1 an1 : Option Addr} {sl1 : Array (Option Value)} (a1 : PySem.W.nsIn K mainGlobals "_law_draw" = some (some (.ref f1)))
    (l1 : K.lookup f1 = some ⟨oc1, od1, .func (PySem.W.fnOf "_law_draw" "_law_draw" (defArgs (topS 35)) (defBody (topS 35)) (defScope (topS 35)) .none kV1 dc1 pm1 an1 cd1 ct1), sl1⟩)
    (c1 : PySem.W.codeIn K cd1 "_law_draw" = true)
    (k1 : PySem.W.keepIn K (.ref f1) = true)
    {f2 : Addr} {oc2 kV2 dc2 pm2 cd2 ct2 : Value} {od2 an2 : Option Addr} {sl2 : Array (Option Value)} (a2 : PySem.W.nsIn K mainGlobals "_law_pick" = some (some (.ref f2)))
    (l2 : K.lookup f2 = some ⟨oc2, od2, .func (PySem.W.fnOf "_law_pick" "_law_pick" (defArgs (topS 36)) (defBody (topS 36)) (defScope (topS 36)) .none kV2 dc2 pm2 an2 cd2 ct2), sl2⟩)
    (c2 : PySem.W.codeIn K cd2 "_law_pick" = true)
    (k2 : PySem.W.keepIn K (.ref f2) = true)
    {f3 : Addr} {oc3 kV3 dc3 pm3 cd3 ct3 : Value} {od3 an3 : Option Addr} {sl3 : Array (Option Value)} (a3 : PySem.W.nsIn K mainGlobals "_law_late" = some (some (.ref f3)))
    (l3 : K.lookup f3 = some ⟨oc3, od3, .func (PySem.W.fnOf "_law_late" "_law_late" (defArgs (topS 45)) (defBody (topS 45)) (defScope (topS 45)) .none kV3 dc3 pm3 an3 cd3 ct3), sl3⟩)
    (c3 : PySem.W.codeIn K cd3 "_law_late" = true)
    (k3 : PySem.W.keepIn K (.ref f3) = true)
    {f4 : Addr} {oc4 kV4 dc4 pm4 cd4 ct4 : Value} {od4 an4 : Option Addr} {sl4 : Array (Option Value)} (a4 : PySem.W.nsIn K mainGlobals "is_integer" = some (some (.ref f4)))
    (l4 : K.lookup f4 = some ⟨oc4, od4, .func (PySem.W.fnOf "is_integer" "is_integer" (defArgs (topS 8)) (defBody (topS 8)) (defScope (topS 8)) .none kV4 dc4 pm4 an4 cd4 ct4), sl4⟩)
    (c4 : PySem.W.codeIn K cd4 "is_integer" = true)
    (k4 : PySem.W.keepIn K (.ref f4) = true)
    {f5 : Addr} {oc5 kV5 dc5 pm5 cd5 ct5 : Value} {od5 an5 : Option Addr} {sl5 : Array (Option Value)} (a5 : PySem.W.nsIn K mainGlobals "check_life" = some (some (.ref f5)))
    (l5 : K.lookup f5 = some ⟨oc5, od5, .func (PySem.W.fnOf "check_life" "check_life" (defArgs (topS 14)) (defBody (topS 14)) (defScope (topS 14)) .none kV5 dc5 pm5 an5 cd5 ct5), sl5⟩)
    (c5 : PySem.W.codeIn K cd5 "check_life" = true)
    (k5 : PySem.W.keepIn K (.ref f5) = true)
    {f6 : Addr} {oc6 kV6 dc6 pm6 cd6 ct6 : Value} {od6 an6 : Option Addr} {sl6 : Array (Option Value)} (a6 : PySem.W.nsIn K mainGlobals "check_runs" = some (some (.ref f6)))
    (l6 : K.lookup f6 = some ⟨oc6, od6, .func (PySem.W.fnOf "check_runs" "check_runs" (defArgs (topS 24)) (defBody (topS 24)) (defScope (topS 24)) .none kV6 dc6 pm6 an6 cd6 ct6), sl6⟩)
    (c6 : PySem.W.codeIn K cd6 "check_runs" = true)
    (k6 : PySem.W.keepIn K (.ref f6) = true)
    {f7 : Addr} {oc7 kV7 dc7 pm7 cd7 ct7 : Value} {od7 an7 : Option Addr} {sl7 : Array (Option Value)} (a7 : PySem.W.nsIn K mainGlobals "copies_ahead" = some (some (.ref f7)))
    (l7 : K.lookup f7 = some ⟨oc7, od7, .func (PySem.W.fnOf "copies_ahead" "copies_ahead" (defArgs (topS 25)) (defBody (topS 25)) (defScope (topS 25)) .none kV7 dc7 pm7 an7 cd7 ct7), sl7⟩)
    (c7 : PySem.W.codeIn K cd7 "copies_ahead" = true)
    (k7 : PySem.W.keepIn K (.ref f7) = true)
    {f8 : Addr} {oc8 kV8 dc8 pm8 cd8 ct8 : Value} {od8 an8 : Option Addr} {sl8 : Array (Option Value)} (a8 : PySem.W.nsIn K mainGlobals "_law_same" = some (some (.ref f8)))
    (l8 : K.lookup f8 = some ⟨oc8, od8, .func (PySem.W.fnOf "_law_same" "_law_same" (defArgs (topS 37)) (defBody (topS 37)) (defScope (topS 37)) .none kV8 dc8 pm8 an8 cd8 ct8), sl8⟩)
    (c8 : PySem.W.codeIn K cd8 "_law_same" = true)
    (k8 : PySem.W.keepIn K (.ref f8) = true)
    {f9 : Addr} {oc9 kV9 dc9 pm9 cd9 ct9 : Value} {od9 an9 : Option Addr} {sl9 : Array (Option Value)} (a9 : PySem.W.nsIn K mainGlobals "judge_copies" = some (some (.ref f9)))
    (l9 : K.lookup f9 = some ⟨oc9, od9, .func (PySem.W.fnOf "judge_copies" "judge_copies" (defArgs (topS 26)) (defBody (topS 26)) (defScope (topS 26)) .none kV9 dc9 pm9 an9 cd9 ct9), sl9⟩)
    (c9 : PySem.W.codeIn K cd9 "judge_copies" = true)
    (k9 : PySem.W.keepIn K (.ref f9) = true)
    {f10 : Addr} {oc10 kV10 dc10 pm10 cd10 ct10 : Value} {od10 an10 : Option Addr} {sl10 : Array (Option Value)} (a10 : PySem.W.nsIn K mainGlobals "accept_late" = some (some (.ref f10)))
    (l10 : K.lookup f10 = some ⟨oc10, od10, .func (PySem.W.fnOf "accept_late" "accept_late" (defArgs (topS 27)) (defBody (topS 27)) (defScope (topS 27)) .none kV10 dc10 pm10 an10 cd10 ct10), sl10⟩)
    (c10 : PySem.W.codeIn K cd10 "accept_late" = true)
    (k10 : PySem.W.keepIn K (.ref f10) = true)
    {f11 : Addr} {oc11 kV11 dc11 pm11 cd11 ct11 : Value} {od11 an11 : Option Addr} {sl11 : Array (Option Value)} (a11 : PySem.W.nsIn K mainGlobals "_law_great_runs_hold" = some (some (.ref f11)))
    (l11 : K.lookup f11 = some ⟨oc11, od11, .func (PySem.W.fnOf "_law_great_runs_hold" "_law_great_runs_hold" (defArgs (topS 46)) (defBody (topS 46)) (defScope (topS 46)) .none kV11 dc11 pm11 an11 cd11 ct11), sl11⟩)
    (c11 : PySem.W.codeIn K cd11 "_law_great_runs_hold" = true)
    (k11 : PySem.W.keepIn K (.ref f11) = true)
    {f12 : Addr} {oc12 kV12 dc12 pm12 cd12 ct12 : Value} {od12 an12 : Option Addr} {sl12 : Array (Option Value)} (a12 : PySem.W.nsIn K mainGlobals "step_of" = some (some (.ref f12)))
    (l12 : K.lookup f12 = some ⟨oc12, od12, .func (PySem.W.fnOf "step_of" "step_of" (defArgs (topS 28)) (defBody (topS 28)) (defScope (topS 28)) .none kV12 dc12 pm12 an12 cd12 ct12), sl12⟩)
    (c12 : PySem.W.codeIn K cd12 "step_of" = true)
    (k12 : PySem.W.keepIn K (.ref f12) = true)
    {f13 : Addr} {oc13 kV13 dc13 pm13 cd13 ct13 : Value} {od13 an13 : Option Addr} {sl13 : Array (Option Value)} (a13 : PySem.W.nsIn K mainGlobals "rounds_for" = some (some (.ref f13)))
    (l13 : K.lookup f13 = some ⟨oc13, od13, .func (PySem.W.fnOf "rounds_for" "rounds_for" (defArgs (topS 31)) (defBody (topS 31)) (defScope (topS 31)) .none kV13 dc13 pm13 an13 cd13 ct13), sl13⟩)
    (c13 : PySem.W.codeIn K cd13 "rounds_for" = true)
    (k13 : PySem.W.keepIn K (.ref f13) = true)
    {f14 : Addr} {oc14 kV14 dc14 pm14 cd14 ct14 : Value} {od14 an14 : Option Addr} {sl14 : Array (Option Value)} (a14 : PySem.W.nsIn K mainGlobals "accept_rounds" = some (some (.ref f14)))
    (l14 : K.lookup f14 = some ⟨oc14, od14, .func (PySem.W.fnOf "accept_rounds" "accept_rounds" (defArgs (topS 32)) (defBody (topS 32)) (defScope (topS 32)) .none kV14 dc14 pm14 an14 cd14 ct14), sl14⟩)
    (c14 : PySem.W.codeIn K cd14 "accept_rounds" = true)
    (k14 : PySem.W.keepIn K (.ref f14) = true)
    {f15 : Addr} {oc15 kV15 dc15 pm15 cd15 ct15 : Value} {od15 an15 : Option Addr} {sl15 : Array (Option Value)} (a15 : PySem.W.nsIn K mainGlobals "check_lives" = some (some (.ref f15)))
    (l15 : K.lookup f15 = some ⟨oc15, od15, .func (PySem.W.fnOf "check_lives" "check_lives" (defArgs (topS 19)) (defBody (topS 19)) (defScope (topS 19)) .none kV15 dc15 pm15 an15 cd15 ct15), sl15⟩)
    (c15 : PySem.W.codeIn K cd15 "check_lives" = true)
    (k15 : PySem.W.keepIn K (.ref f15) = true)
    {f16 : Addr} {oc16 kV16 dc16 pm16 cd16 ct16 : Value} {od16 an16 : Option Addr} {sl16 : Array (Option Value)} (a16 : PySem.W.nsIn K mainGlobals "accept_uses" = some (some (.ref f16)))
    (l16 : K.lookup f16 = some ⟨oc16, od16, .func (PySem.W.fnOf "accept_uses" "accept_uses" (defArgs (topS 23)) (defBody (topS 23)) (defScope (topS 23)) .none kV16 dc16 pm16 an16 cd16 ct16), sl16⟩)
    (c16 : PySem.W.codeIn K cd16 "accept_uses" = true)
    (k16 : PySem.W.keepIn K (.ref f16) = true)
    {f17 : Addr} {oc17 kV17 dc17 pm17 cd17 ct17 : Value} {od17 an17 : Option Addr} {sl17 : Array (Option Value)} (a17 : PySem.W.nsIn K mainGlobals "_law_called" = some (some (.ref f17)))
    (l17 : K.lookup f17 = some ⟨oc17, od17, .func (PySem.W.fnOf "_law_called" "_law_called" (defArgs (topS 39)) (defBody (topS 39)) (defScope (topS 39)) .none kV17 dc17 pm17 an17 cd17 ct17), sl17⟩)
    (c17 : PySem.W.codeIn K cd17 "_law_called" = true)
    (k17 : PySem.W.keepIn K (.ref f17) = true)
    {f18 : Addr} {oc18 kV18 dc18 pm18 cd18 ct18 : Value} {od18 an18 : Option Addr} {sl18 : Array (Option Value)} (a18 : PySem.W.nsIn K mainGlobals "_law_asked" = some (some (.ref f18)))
    (l18 : K.lookup f18 = some ⟨oc18, od18, .func (PySem.W.fnOf "_law_asked" "_law_asked" (defArgs (topS 40)) (defBody (topS 40)) (defScope (topS 40)) .none kV18 dc18 pm18 an18 cd18 ct18), sl18⟩)
    (c18 : PySem.W.codeIn K cd18 "_law_asked" = true)
    (k18 : PySem.W.keepIn K (.ref f18) = true)
    {f19 : Addr} {oc19 kV19 dc19 pm19 cd19 ct19 : Value} {od19 an19 : Option Addr} {sl19 : Array (Option Value)} (a19 : PySem.W.nsIn K mainGlobals "check_rounds" = some (some (.ref f19)))
    (l19 : K.lookup f19 = some ⟨oc19, od19, .func (PySem.W.fnOf "check_rounds" "check_rounds" (defArgs (topS 29)) (defBody (topS 29)) (defScope (topS 29)) .none kV19 dc19 pm19 an19 cd19 ct19), sl19⟩)
    (c19 : PySem.W.codeIn K cd19 "check_rounds" = true)
    (k19 : PySem.W.keepIn K (.ref f19) = true)
    {f20 : Addr} {oc20 kV20 dc20 pm20 cd20 ct20 : Value} {od20 an20 : Option Addr} {sl20 : Array (Option Value)} (a20 : PySem.W.nsIn K mainGlobals "cards_behind" = some (some (.ref f20)))
    (l20 : K.lookup f20 = some ⟨oc20, od20, .func (PySem.W.fnOf "cards_behind" "cards_behind" (defArgs (topS 30)) (defBody (topS 30)) (defScope (topS 30)) .none kV20 dc20 pm20 an20 cd20 ct20), sl20⟩)
    (c20 : PySem.W.codeIn K cd20 "cards_behind" = true)
    (k20 : PySem.W.keepIn K (.ref f20) = true)
    {f21 : Addr} {oc21 kV21 dc21 pm21 cd21 ct21 : Value} {od21 an21 : Option Addr} {sl21 : Array (Option Value)} (a21 : PySem.W.nsIn K mainGlobals "_law_rounds_hold" = some (some (.ref f21)))
    (l21 : K.lookup f21 = some ⟨oc21, od21, .func (PySem.W.fnOf "_law_rounds_hold" "_law_rounds_hold" (defArgs (topS 47)) (defBody (topS 47)) (defScope (topS 47)) .none kV21 dc21 pm21 an21 cd21 ct21), sl21⟩)
    (c21 : PySem.W.codeIn K cd21 "_law_rounds_hold" = true)
    (k21 : PySem.W.keepIn K (.ref f21) = true)
    {f22 : Addr} {oc22 kV22 dc22 pm22 cd22 ct22 : Value} {od22 an22 : Option Addr} {sl22 : Array (Option Value)} (a22 : PySem.W.nsIn K mainGlobals "fewest_copies" = some (some (.ref f22)))
    (l22 : K.lookup f22 = some ⟨oc22, od22, .func (PySem.W.fnOf "fewest_copies" "fewest_copies" (defArgs (topS 17)) (defBody (topS 17)) (defScope (topS 17)) .none kV22 dc22 pm22 an22 cd22 ct22), sl22⟩)
    (c22 : PySem.W.codeIn K cd22 "fewest_copies" = true)
    (k22 : PySem.W.keepIn K (.ref f22) = true)
    {f23 : Addr} {oc23 kV23 dc23 pm23 cd23 ct23 : Value} {od23 an23 : Option Addr} {sl23 : Array (Option Value)} (a23 : PySem.W.nsIn K mainGlobals "check_copies" = some (some (.ref f23)))
    (l23 : K.lookup f23 = some ⟨oc23, od23, .func (PySem.W.fnOf "check_copies" "check_copies" (defArgs (topS 15)) (defBody (topS 15)) (defScope (topS 15)) .none kV23 dc23 pm23 an23 cd23 ct23), sl23⟩)
    (c23 : PySem.W.codeIn K cd23 "check_copies" = true)
    (k23 : PySem.W.keepIn K (.ref f23) = true)
    {f24 : Addr} {oc24 kV24 dc24 pm24 cd24 ct24 : Value} {od24 an24 : Option Addr} {sl24 : Array (Option Value)} (a24 : PySem.W.nsIn K mainGlobals "reads_with" = some (some (.ref f24)))
    (l24 : K.lookup f24 = some ⟨oc24, od24, .func (PySem.W.fnOf "reads_with" "reads_with" (defArgs (topS 16)) (defBody (topS 16)) (defScope (topS 16)) .none kV24 dc24 pm24 an24 cd24 ct24), sl24⟩)
    (c24 : PySem.W.codeIn K cd24 "reads_with" = true)
    (k24 : PySem.W.keepIn K (.ref f24) = true)
    {f25 : Addr} {oc25 kV25 dc25 pm25 cd25 ct25 : Value} {od25 an25 : Option Addr} {sl25 : Array (Option Value)} (a25 : PySem.W.nsIn K mainGlobals "_law_reads_hold" = some (some (.ref f25)))
    (l25 : K.lookup f25 = some ⟨oc25, od25, .func (PySem.W.fnOf "_law_reads_hold" "_law_reads_hold" (defArgs (topS 41)) (defBody (topS 41)) (defScope (topS 41)) .none kV25 dc25 pm25 an25 cd25 ct25), sl25⟩)
    (c25 : PySem.W.codeIn K cd25 "_law_reads_hold" = true)
    (k25 : PySem.W.keepIn K (.ref f25) = true)
    {f26 : Addr} {oc26 kV26 dc26 pm26 cd26 ct26 : Value} {od26 an26 : Option Addr} {sl26 : Array (Option Value)} (a26 : PySem.W.nsIn K mainGlobals "check_uses" = some (some (.ref f26)))
    (l26 : K.lookup f26 = some ⟨oc26, od26, .func (PySem.W.fnOf "check_uses" "check_uses" (defArgs (topS 18)) (defBody (topS 18)) (defScope (topS 18)) .none kV26 dc26 pm26 an26 cd26 ct26), sl26⟩)
    (c26 : PySem.W.codeIn K cd26 "check_uses" = true)
    (k26 : PySem.W.keepIn K (.ref f26) = true)
    {f27 : Addr} {oc27 kV27 dc27 pm27 cd27 ct27 : Value} {od27 an27 : Option Addr} {sl27 : Array (Option Value)} (a27 : PySem.W.nsIn K mainGlobals "left_behind" = some (some (.ref f27)))
    (l27 : K.lookup f27 = some ⟨oc27, od27, .func (PySem.W.fnOf "left_behind" "left_behind" (defArgs (topS 20)) (defBody (topS 20)) (defScope (topS 20)) .none kV27 dc27 pm27 an27 cd27 ct27), sl27⟩)
    (c27 : PySem.W.codeIn K cd27 "left_behind" = true)
    (k27 : PySem.W.keepIn K (.ref f27) = true)
    {f28 : Addr} {oc28 kV28 dc28 pm28 cd28 ct28 : Value} {od28 an28 : Option Addr} {sl28 : Array (Option Value)} (a28 : PySem.W.nsIn K mainGlobals "judge_uses" = some (some (.ref f28)))
    (l28 : K.lookup f28 = some ⟨oc28, od28, .func (PySem.W.fnOf "judge_uses" "judge_uses" (defArgs (topS 21)) (defBody (topS 21)) (defScope (topS 21)) .none kV28 dc28 pm28 an28 cd28 ct28), sl28⟩)
    (c28 : PySem.W.codeIn K cd28 "judge_uses" = true)
    (k28 : PySem.W.keepIn K (.ref f28) = true)
    {f29 : Addr} {oc29 kV29 dc29 pm29 cd29 ct29 : Value} {od29 an29 : Option Addr} {sl29 : Array (Option Value)} (a29 : PySem.W.nsIn K mainGlobals "even_uses" = some (some (.ref f29)))
    (l29 : K.lookup f29 = some ⟨oc29, od29, .func (PySem.W.fnOf "even_uses" "even_uses" (defArgs (topS 22)) (defBody (topS 22)) (defScope (topS 22)) .none kV29 dc29 pm29 an29 cd29 ct29), sl29⟩)
    (c29 : PySem.W.codeIn K cd29 "even_uses" = true)
    (k29 : PySem.W.keepIn K (.ref f29) = true)
    {f30 : Addr} {oc30 kV30 dc30 pm30 cd30 ct30 : Value} {od30 an30 : Option Addr} {sl30 : Array (Option Value)} (a30 : PySem.W.nsIn K mainGlobals "_law_uses_hold" = some (some (.ref f30)))
    (l30 : K.lookup f30 = some ⟨oc30, od30, .func (PySem.W.fnOf "_law_uses_hold" "_law_uses_hold" (defArgs (topS 42)) (defBody (topS 42)) (defScope (topS 42)) .none kV30 dc30 pm30 an30 cd30 ct30), sl30⟩)
    (c30 : PySem.W.codeIn K cd30 "_law_uses_hold" = true)
    (k30 : PySem.W.keepIn K (.ref f30) = true)
    {f31 : Addr} {oc31 kV31 dc31 pm31 cd31 ct31 : Value} {od31 an31 : Option Addr} {sl31 : Array (Option Value)} (a31 : PySem.W.nsIn K mainGlobals "_law_done" = some (some (.ref f31)))
    (l31 : K.lookup f31 = some ⟨oc31, od31, .func (PySem.W.fnOf "_law_done" "_law_done" (defArgs (topS 43)) (defBody (topS 43)) (defScope (topS 43)) .none kV31 dc31 pm31 an31 cd31 ct31), sl31⟩)
    (c31 : PySem.W.codeIn K cd31 "_law_done" = true)
    (k31 : PySem.W.keepIn K (.ref f31) = true)
    {f32 : Addr} {oc32 kV32 dc32 pm32 cd32 ct32 : Value} {od32 an32 : Option Addr} {sl32 : Array (Option Value)} (a32 : PySem.W.nsIn K mainGlobals "_law_runs_hold" = some (some (.ref f32)))
    (l32 : K.lookup f32 = some ⟨oc32, od32, .func (PySem.W.fnOf "_law_runs_hold" "_law_runs_hold" (defArgs (topS 44)) (defBody (topS 44)) (defScope (topS 44)) .none kV32 dc32 pm32 an32 cd32 ct32), sl32⟩)
    (c32 : PySem.W.codeIn K cd32 "_law_runs_hold" = true)
    (k32 : PySem.W.keepIn K (.ref f32) = true)
    {f33 : Addr} {oc33 kV33 dc33 pm33 cd33 ct33 : Value} {od33 an33 : Option Addr} {sl33 : Array (Option Value)} (a33 : PySem.W.nsIn K mainGlobals "law" = some (some (.ref f33)))
    (l33 : K.lookup f33 = some ⟨oc33, od33, .func (PySem.W.fnOf "law" "law" (defArgs (topS 48)) (defBody (topS 48)) (defScope (topS 48)) .none kV33 dc33 pm33 an33 cd33 ct33), sl33⟩)
    (c33 : PySem.W.codeIn K cd33 "law" = true)
    (k33 : PySem.W.keepIn K (.ref f33) = true)
    (z0 : PySem.W.nsIn K mainGlobals "len" = some none)
    (z1 : PySem.W.nsIn K mainGlobals "all" = some none)
    (z2 : PySem.W.nsIn K mainGlobals "any" = some none)
    (z3 : PySem.W.nsIn K mainGlobals "sum" = some none)
    (z4 : PySem.W.nsIn K mainGlobals "min" = some none)
    (z5 : PySem.W.nsIn K mainGlobals "max" = some none)
    (z6 : PySem.W.nsIn K mainGlobals "sorted" = some none)
    (z7 : PySem.W.nsIn K mainGlobals "abs" = some none)
    (z8 : PySem.W.nsIn K mainGlobals "repr" = some none)
    (z9 : PySem.W.nsIn K mainGlobals "tuple" = some none)
    (z10 : PySem.W.nsIn K mainGlobals "list" = some none)
    (z11 : PySem.W.nsIn K mainGlobals "int" = some none)
    (z12 : PySem.W.nsIn K mainGlobals "bool" = some none)
    (z13 : PySem.W.nsIn K mainGlobals "str" = some none)
    (z14 : PySem.W.nsIn K mainGlobals "isinstance" = some none)
    (z15 : PySem.W.nsIn K mainGlobals "range" = some none)
    (z16 : PySem.W.nsIn K mainGlobals "enumerate" = some none)
    (z17 : PySem.W.nsIn K mainGlobals "zip" = some none)
    (z18 : PySem.W.nsIn K mainGlobals "super" = some none)
    (z19 : PySem.W.nsIn K mainGlobals "ValueError" = some none)
    {t0 : Tok} (cn0 : PySem.W.nsIn K mainGlobals "MAX_CARDS" = some (some (.int 40 t0)))
    {t1 : Tok} (cn1 : PySem.W.nsIn K mainGlobals "MAX_SIZE" = some (some (.int 1000000000000 t1)))
    {t2 : Tok} (cn2 : PySem.W.nsIn K mainGlobals "MAX_ROWS" = some (some (.int 60 t2)))
    {t3 : Tok} (cn3 : PySem.W.nsIn K mainGlobals "MAX_LIFE" = some (some (.int 1000 t3)))
    {fW : Addr} {ocW kVW dcW pmW cdW ctW : Value} {odW anW : Option Addr} {slW : Array (Option Value)} (aW : PySem.W.nsIn K mainGlobals "_law_word" = some (some (.ref fW)))
    (lW : K.lookup fW = some ⟨ocW, odW, .func (PySem.W.fnOf "_law_word" "_law_word" (defArgs (topS 38)) (defBody (topS 38)) (defScope (topS 38)) .none kVW dcW pmW anW cdW ctW), slW⟩)
    (cW : PySem.W.codeIn K cdW "_law_word" = true)
    (kW : PySem.W.keepIn K (.ref fW) = true)
    {C : Addr} (ca : PySem.W.nsIn K mainGlobals "CardError" = some (some (.ref C)))
    (opq : PySem.W.nsIn K cStatics "thirdparty.any" = some none)
    (hn : PySem.W.specialIn K (.builtin "object.__class__") "__get__" = some (some (.builtin "getset_descriptor.__get__")))
    (ht : PySem.W.takesIn K (.builtin "object.__class__") = some true)
    (htop : (P.main.scope.names.lookup ("super" : Str)).isSome = false)
    {C0 fI0 cda0 cc0 N0 : Addr} {nm0 q0 : Str} {bs0 : List Value} {sn0 : List Str} {sub0 : List Value} {ab0 : Bool} {col0 : Option Bool} {dd0 : Option Addr} {ka0 kb0 kc0 kd0 kf0 : Option Value} {oc0x : Value} {od0x an0x : Option Addr} {sl0x : Array (Option Value)} {dc0x pm0x ct0x : Value} {ccl0 : Value} {cdd0 : Option Addr} {ccs0 : Array (Option Value)} {cvs0 : Array Value} {file0 : Str} {tf0 : Tok} {cl0 : Value} {cld0 : Option Addr} {csl0 : Array (Option Value)} {cD0 : ClassData} (E0e : PySem.W.nsIn K mainGlobals "TextError" = some (some (.ref C0)))
    (E0o : K.lookup C0 = some (excClassObj nm0 q0 C0 N0 bs0 (excMro C) true sn0 sub0 ab0 col0 dd0 ka0 kb0 kc0 kd0 kf0 "ValueError.__new__"))
    (E0s : PySem.W.findIn K (.ref C0) "__setattr__" = some (some (.builtin "object.__setattr__")))
    (E0b : PySem.W.subIn K (.ref C0) (.type "BaseException") = some true)
    (E0v : PySem.W.subIn K (.ref C0) (.type "ValueError") = some true)
    (E0t : PySem.W.typeIn K (.ref C0) = some (.type "type"))
    (E0k : PySem.W.keepIn K (.ref C0) = true)
    (E0i : PySem.W.findIn K (.ref C0) "__init__" = some (some (.ref fI0)))
    (E0f : PySem.W.typeIn K (.ref fI0) = some (.type "function"))
    (E0l : K.lookup fI0 = some ⟨oc0x, od0x, .func (PySem.W.fnX "__init__" "TextError.__init__" (defArgs (iS 2)) (defBody (iS 2)) (defScope (iS 2)) [("__class__", cc0)] .none .none dc0x pm0x an0x (.ref cda0) ct0x), sl0x⟩)
    (E0d : PySem.W.codeIn K (.ref cda0) "TextError.__init__" = true)
    (E0c : K.lookup cda0 = some ⟨ccl0, cdd0, .fields cvs0, ccs0⟩)
    (E0g : cvs0[2]? = some (.str file0 tf0))
    (E0h : ((P.main.file : Str) == file0) = true)
    (E0j : K.lookup cc0 = some ⟨cl0, cld0, .cell (some (.ref C0)), csl0⟩)
    (E0m : PySem.W.clsIn K C0 = some cD0)
    (E0n : PySem.W.mroIn K C0 (.ref C0) = some true)
    (E0p : PySem.W.ks_superIn K C0 C0 "__init__" = some (some (.builtin "ValueError.__init__")))
    (E0q : PySem.W.findIn K (.ref C0) "at" = some none)
    (E0r : PySem.W.findIn K (.ref C0) "reason" = some none)
    (E0u : PySem.W.findIn K (.ref C0) "__getattribute__" = some (some (.builtin "BaseException.__getattribute__")))
    (E0w : PySem.W.findIn K (.ref C0) "__getattr__" = some none)
    (E0x : PySem.W.hasDictIn K C0 = true)
    (E0y : PySem.W.findIn K (.ref C0) "__class__" = some (some (.builtin "object.__class__")))
    (E0z : PySem.W.mroIn K C0 (.type "object") = some true)
    (E0A : PySem.W.kitOne K (.ref C0) (.type "ValueError") = some true)
    (E0B : PySem.W.exmOne K (.ref C0) (.ref C) = some true)
    {C1 fI1 cda1 cc1 N1 : Addr} {nm1 q1 : Str} {bs1 : List Value} {sn1 : List Str} {sub1 : List Value} {ab1 : Bool} {col1 : Option Bool} {dd1 : Option Addr} {ka1 kb1 kc1 kd1 kf1 : Option Value} {oc1x : Value} {od1x an1x : Option Addr} {sl1x : Array (Option Value)} {dc1x pm1x ct1x : Value} {ccl1 : Value} {cdd1 : Option Addr} {ccs1 : Array (Option Value)} {cvs1 : Array Value} {file1 : Str} {tf1 : Tok} {cl1 : Value} {cld1 : Option Addr} {csl1 : Array (Option Value)} {cD1 : ClassData} (E1e : PySem.W.nsIn K mainGlobals "DeckError" = some (some (.ref C1)))
    (E1o : K.lookup C1 = some (excClassObj nm1 q1 C1 N1 bs1 (excMro C) true sn1 sub1 ab1 col1 dd1 ka1 kb1 kc1 kd1 kf1 "ValueError.__new__"))
    (E1s : PySem.W.findIn K (.ref C1) "__setattr__" = some (some (.builtin "object.__setattr__")))
    (E1b : PySem.W.subIn K (.ref C1) (.type "BaseException") = some true)
    (E1v : PySem.W.subIn K (.ref C1) (.type "ValueError") = some true)
    (E1t : PySem.W.typeIn K (.ref C1) = some (.type "type"))
    (E1k : PySem.W.keepIn K (.ref C1) = true)
    (E1i : PySem.W.findIn K (.ref C1) "__init__" = some (some (.ref fI1)))
    (E1f : PySem.W.typeIn K (.ref fI1) = some (.type "function"))
    (E1l : K.lookup fI1 = some ⟨oc1x, od1x, .func (PySem.W.fnX "__init__" "DeckError.__init__" (defArgs (iS 3)) (defBody (iS 3)) (defScope (iS 3)) [("__class__", cc1)] .none .none dc1x pm1x an1x (.ref cda1) ct1x), sl1x⟩)
    (E1d : PySem.W.codeIn K (.ref cda1) "DeckError.__init__" = true)
    (E1c : K.lookup cda1 = some ⟨ccl1, cdd1, .fields cvs1, ccs1⟩)
    (E1g : cvs1[2]? = some (.str file1 tf1))
    (E1h : ((P.main.file : Str) == file1) = true)
    (E1j : K.lookup cc1 = some ⟨cl1, cld1, .cell (some (.ref C1)), csl1⟩)
    (E1m : PySem.W.clsIn K C1 = some cD1)
    (E1n : PySem.W.mroIn K C1 (.ref C1) = some true)
    (E1p : PySem.W.ks_superIn K C1 C1 "__init__" = some (some (.builtin "ValueError.__init__")))
    (E1q : PySem.W.findIn K (.ref C1) "at" = some none)
    (E1r : PySem.W.findIn K (.ref C1) "reason" = some none)
    (E1u : PySem.W.findIn K (.ref C1) "__getattribute__" = some (some (.builtin "BaseException.__getattribute__")))
    (E1w : PySem.W.findIn K (.ref C1) "__getattr__" = some none)
    (E1x : PySem.W.hasDictIn K C1 = true)
    (E1y : PySem.W.findIn K (.ref C1) "__class__" = some (some (.builtin "object.__class__")))
    (E1z : PySem.W.mroIn K C1 (.type "object") = some true)
    (E1A : PySem.W.kitOne K (.ref C1) (.type "ValueError") = some true)
    (E1B : PySem.W.exmOne K (.ref C1) (.ref C) = some true)
    {C2 fI2 cda2 cc2 N2 : Addr} {nm2 q2 : Str} {bs2 : List Value} {sn2 : List Str} {sub2 : List Value} {ab2 : Bool} {col2 : Option Bool} {dd2 : Option Addr} {ka2 kb2 kc2 kd2 kf2 : Option Value} {oc2x : Value} {od2x an2x : Option Addr} {sl2x : Array (Option Value)} {dc2x pm2x ct2x : Value} {ccl2 : Value} {cdd2 : Option Addr} {ccs2 : Array (Option Value)} {cvs2 : Array Value} {file2 : Str} {tf2 : Tok} {cl2 : Value} {cld2 : Option Addr} {csl2 : Array (Option Value)} {cD2 : ClassData} (E2e : PySem.W.nsIn K mainGlobals "ArgumentError" = some (some (.ref C2)))
    (E2o : K.lookup C2 = some (excClassObj nm2 q2 C2 N2 bs2 (excMro C) true sn2 sub2 ab2 col2 dd2 ka2 kb2 kc2 kd2 kf2 "ValueError.__new__"))
    (E2s : PySem.W.findIn K (.ref C2) "__setattr__" = some (some (.builtin "object.__setattr__")))
    (E2b : PySem.W.subIn K (.ref C2) (.type "BaseException") = some true)
    (E2v : PySem.W.subIn K (.ref C2) (.type "ValueError") = some true)
    (E2t : PySem.W.typeIn K (.ref C2) = some (.type "type"))
    (E2k : PySem.W.keepIn K (.ref C2) = true)
    (E2i : PySem.W.findIn K (.ref C2) "__init__" = some (some (.ref fI2)))
    (E2f : PySem.W.typeIn K (.ref fI2) = some (.type "function"))
    (E2l : K.lookup fI2 = some ⟨oc2x, od2x, .func (PySem.W.fnX "__init__" "ArgumentError.__init__" (defArgs (iS 4)) (defBody (iS 4)) (defScope (iS 4)) [("__class__", cc2)] .none .none dc2x pm2x an2x (.ref cda2) ct2x), sl2x⟩)
    (E2d : PySem.W.codeIn K (.ref cda2) "ArgumentError.__init__" = true)
    (E2c : K.lookup cda2 = some ⟨ccl2, cdd2, .fields cvs2, ccs2⟩)
    (E2g : cvs2[2]? = some (.str file2 tf2))
    (E2h : ((P.main.file : Str) == file2) = true)
    (E2j : K.lookup cc2 = some ⟨cl2, cld2, .cell (some (.ref C2)), csl2⟩)
    (E2m : PySem.W.clsIn K C2 = some cD2)
    (E2n : PySem.W.mroIn K C2 (.ref C2) = some true)
    (E2p : PySem.W.ks_superIn K C2 C2 "__init__" = some (some (.builtin "ValueError.__init__")))
    (E2q : PySem.W.findIn K (.ref C2) "at" = some none)
    (E2r : PySem.W.findIn K (.ref C2) "reason" = some none)
    (E2u : PySem.W.findIn K (.ref C2) "__getattribute__" = some (some (.builtin "BaseException.__getattribute__")))
    (E2w : PySem.W.findIn K (.ref C2) "__getattr__" = some none)
    (E2x : PySem.W.hasDictIn K C2 = true)
    (E2y : PySem.W.findIn K (.ref C2) "__class__" = some (some (.builtin "object.__class__")))
    (E2z : PySem.W.mroIn K C2 (.type "object") = some true)
    (E2A : PySem.W.kitOne K (.ref C2) (.type "ValueError") = some true)
    (E2B : PySem.W.exmOne K (.ref C2) (.ref C) = some true)
    {C3 fI3 cda3 cc3 N3 : Addr} {nm3 q3 : Str} {bs3 : List Value} {sn3 : List Str} {sub3 : List Value} {ab3 : Bool} {col3 : Option Bool} {dd3 : Option Addr} {ka3 kb3 kc3 kd3 kf3 : Option Value} {oc3x : Value} {od3x an3x : Option Addr} {sl3x : Array (Option Value)} {dc3x pm3x ct3x : Value} {ccl3 : Value} {cdd3 : Option Addr} {ccs3 : Array (Option Value)} {cvs3 : Array Value} {file3 : Str} {tf3 : Tok} {cl3 : Value} {cld3 : Option Addr} {csl3 : Array (Option Value)} {cD3 : ClassData} (E3e : PySem.W.nsIn K mainGlobals "PaperError" = some (some (.ref C3)))
    (E3o : K.lookup C3 = some (excClassObj nm3 q3 C3 N3 bs3 (excMro C) true sn3 sub3 ab3 col3 dd3 ka3 kb3 kc3 kd3 kf3 "ValueError.__new__"))
    (E3s : PySem.W.findIn K (.ref C3) "__setattr__" = some (some (.builtin "object.__setattr__")))
    (E3b : PySem.W.subIn K (.ref C3) (.type "BaseException") = some true)
    (E3v : PySem.W.subIn K (.ref C3) (.type "ValueError") = some true)
    (E3t : PySem.W.typeIn K (.ref C3) = some (.type "type"))
    (E3k : PySem.W.keepIn K (.ref C3) = true)
    (E3i : PySem.W.findIn K (.ref C3) "__init__" = some (some (.ref fI3)))
    (E3f : PySem.W.typeIn K (.ref fI3) = some (.type "function"))
    (E3l : K.lookup fI3 = some ⟨oc3x, od3x, .func (PySem.W.fnX "__init__" "PaperError.__init__" (defArgs (iS 5)) (defBody (iS 5)) (defScope (iS 5)) [("__class__", cc3)] .none .none dc3x pm3x an3x (.ref cda3) ct3x), sl3x⟩)
    (E3d : PySem.W.codeIn K (.ref cda3) "PaperError.__init__" = true)
    (E3c : K.lookup cda3 = some ⟨ccl3, cdd3, .fields cvs3, ccs3⟩)
    (E3g : cvs3[2]? = some (.str file3 tf3))
    (E3h : ((P.main.file : Str) == file3) = true)
    (E3j : K.lookup cc3 = some ⟨cl3, cld3, .cell (some (.ref C3)), csl3⟩)
    (E3m : PySem.W.clsIn K C3 = some cD3)
    (E3n : PySem.W.mroIn K C3 (.ref C3) = some true)
    (E3p : PySem.W.ks_superIn K C3 C3 "__init__" = some (some (.builtin "ValueError.__init__")))
    (E3q : PySem.W.findIn K (.ref C3) "at" = some none)
    (E3r : PySem.W.findIn K (.ref C3) "reason" = some none)
    (E3u : PySem.W.findIn K (.ref C3) "__getattribute__" = some (some (.builtin "BaseException.__getattribute__")))
    (E3w : PySem.W.findIn K (.ref C3) "__getattr__" = some none)
    (E3x : PySem.W.hasDictIn K C3 = true)
    (E3y : PySem.W.findIn K (.ref C3) "__class__" = some (some (.builtin "object.__class__")))
    (E3z : PySem.W.mroIn K C3 (.type "object") = some true)
    (E3A : PySem.W.kitOne K (.ref C3) (.type "ValueError") = some true)
    (E3B : PySem.W.exmOne K (.ref C3) (.ref C) = some true)
    {C4 fI4 cda4 cc4 N4 : Addr} {nm4 q4 : Str} {bs4 : List Value} {sn4 : List Str} {sub4 : List Value} {ab4 : Bool} {col4 : Option Bool} {dd4 : Option Addr} {ka4 kb4 kc4 kd4 kf4 : Option Value} {oc4x : Value} {od4x an4x : Option Addr} {sl4x : Array (Option Value)} {dc4x pm4x ct4x : Value} {ccl4 : Value} {cdd4 : Option Addr} {ccs4 : Array (Option Value)} {cvs4 : Array Value} {file4 : Str} {tf4 : Tok} {cl4 : Value} {cld4 : Option Addr} {csl4 : Array (Option Value)} {cD4 : ClassData} (E4e : PySem.W.nsIn K mainGlobals "TooMany" = some (some (.ref C4)))
    (E4o : K.lookup C4 = some (excClassObj nm4 q4 C4 N4 bs4 (excMro C) true sn4 sub4 ab4 col4 dd4 ka4 kb4 kc4 kd4 kf4 "ValueError.__new__"))
    (E4s : PySem.W.findIn K (.ref C4) "__setattr__" = some (some (.builtin "object.__setattr__")))
    (E4b : PySem.W.subIn K (.ref C4) (.type "BaseException") = some true)
    (E4v : PySem.W.subIn K (.ref C4) (.type "ValueError") = some true)
    (E4t : PySem.W.typeIn K (.ref C4) = some (.type "type"))
    (E4k : PySem.W.keepIn K (.ref C4) = true)
    (E4i : PySem.W.findIn K (.ref C4) "__init__" = some (some (.ref fI4)))
    (E4f : PySem.W.typeIn K (.ref fI4) = some (.type "function"))
    (E4l : K.lookup fI4 = some ⟨oc4x, od4x, .func (PySem.W.fnX "__init__" "TooMany.__init__" (defArgs (iS 6)) (defBody (iS 6)) (defScope (iS 6)) [("__class__", cc4)] .none .none dc4x pm4x an4x (.ref cda4) ct4x), sl4x⟩)
    (E4d : PySem.W.codeIn K (.ref cda4) "TooMany.__init__" = true)
    (E4c : K.lookup cda4 = some ⟨ccl4, cdd4, .fields cvs4, ccs4⟩)
    (E4g : cvs4[2]? = some (.str file4 tf4))
    (E4h : ((P.main.file : Str) == file4) = true)
    (E4j : K.lookup cc4 = some ⟨cl4, cld4, .cell (some (.ref C4)), csl4⟩)
    (E4m : PySem.W.clsIn K C4 = some cD4)
    (E4n : PySem.W.mroIn K C4 (.ref C4) = some true)
    (E4p : PySem.W.ks_superIn K C4 C4 "__init__" = some (some (.builtin "ValueError.__init__")))
    (E4q : PySem.W.findIn K (.ref C4) "at" = some none)
    (E4r : PySem.W.findIn K (.ref C4) "reason" = some none)
    (E4u : PySem.W.findIn K (.ref C4) "__getattribute__" = some (some (.builtin "BaseException.__getattribute__")))
    (E4w : PySem.W.findIn K (.ref C4) "__getattr__" = some none)
    (E4x : PySem.W.hasDictIn K C4 = true)
    (E4y : PySem.W.findIn K (.ref C4) "__class__" = some (some (.builtin "object.__class__")))
    (E4z : PySem.W.mroIn K C4 (.type "object") = some true)
    (E4A : PySem.W.kitOne K (.ref C4) (.type "ValueError") = some true)
    (E4B : PySem.W.exmOne K (.ref C4) (.ref C) = some true)
    (I00 : PySem.W.kitOne K (.ref C0) (.ref C0) = some true)
    (I01 : PySem.W.kitOne K (.ref C0) (.ref C1) = some false)
    (I02 : PySem.W.kitOne K (.ref C0) (.ref C2) = some false)
    (I03 : PySem.W.kitOne K (.ref C0) (.ref C3) = some false)
    (I04 : PySem.W.kitOne K (.ref C0) (.ref C4) = some false)
    (I10 : PySem.W.kitOne K (.ref C1) (.ref C0) = some false)
    (I11 : PySem.W.kitOne K (.ref C1) (.ref C1) = some true)
    (I12 : PySem.W.kitOne K (.ref C1) (.ref C2) = some false)
    (I13 : PySem.W.kitOne K (.ref C1) (.ref C3) = some false)
    (I14 : PySem.W.kitOne K (.ref C1) (.ref C4) = some false)
    (I20 : PySem.W.kitOne K (.ref C2) (.ref C0) = some false)
    (I21 : PySem.W.kitOne K (.ref C2) (.ref C1) = some false)
    (I22 : PySem.W.kitOne K (.ref C2) (.ref C2) = some true)
    (I23 : PySem.W.kitOne K (.ref C2) (.ref C3) = some false)
    (I24 : PySem.W.kitOne K (.ref C2) (.ref C4) = some false)
    (I30 : PySem.W.kitOne K (.ref C3) (.ref C0) = some false)
    (I31 : PySem.W.kitOne K (.ref C3) (.ref C1) = some false)
    (I32 : PySem.W.kitOne K (.ref C3) (.ref C2) = some false)
    (I33 : PySem.W.kitOne K (.ref C3) (.ref C3) = some true)
    (I34 : PySem.W.kitOne K (.ref C3) (.ref C4) = some false)
    (I40 : PySem.W.kitOne K (.ref C4) (.ref C0) = some false)
    (I41 : PySem.W.kitOne K (.ref C4) (.ref C1) = some false)
    (I42 : PySem.W.kitOne K (.ref C4) (.ref C2) = some false)
    (I43 : PySem.W.kitOne K (.ref C4) (.ref C3) = some false)
    (I44 : PySem.W.kitOne K (.ref C4) (.ref C4) = some true)
    : ∃ fd : FuncData, (∀ (s : Shared) (v : Value), BindsTo s fd ⟨[v], []⟩ [("script", v)]) ∧ ∀ base : Heap, K.In base → base.Ns mainGlobals mg → FnG P w K mg base (L2.CX P w) 36 fa fd ["script"] (spL K 63) := by
  have e := hfa.symm.trans (PySem.W.mg_of X G a33)
  cases e
  have M : Mo K mg cs := by
    refine ⟨fun x hx => ?_, fun x v e => PySem.W.mg_of X G e, fun x d hx => ?_⟩
    · simp only [known, List.mem_cons, List.not_mem_nil, or_false] at hx
      rcases hx with rfl | rfl | rfl | rfl | rfl | rfl | rfl | rfl | rfl | rfl | rfl | rfl | rfl | rfl | rfl | rfl | rfl | rfl
      · exact PySem.W.mg_none_of X G z0
      · exact PySem.W.mg_none_of X G z1
      · exact PySem.W.mg_none_of X G z2
      · exact PySem.W.mg_none_of X G z3
      · exact PySem.W.mg_none_of X G z4
      · exact PySem.W.mg_none_of X G z5
      · exact PySem.W.mg_none_of X G z6
      · exact PySem.W.mg_none_of X G z7
      · exact PySem.W.mg_none_of X G z8
      · exact PySem.W.mg_none_of X G z9
      · exact PySem.W.mg_none_of X G z10
      · exact PySem.W.mg_none_of X G z11
      · exact PySem.W.mg_none_of X G z12
      · exact PySem.W.mg_none_of X G z13
      · exact PySem.W.mg_none_of X G z14
      · exact PySem.W.mg_none_of X G z15
      · exact PySem.W.mg_none_of X G z16
      · exact PySem.W.mg_none_of X G z17
    · have hm := PySem.mem_of_lookup hx
      simp only [cs, List.mem_cons, Prod.mk.injEq, List.not_mem_nil, or_false] at hm
      rcases hm with ⟨rfl, rfl⟩ | ⟨rfl, rfl⟩ | ⟨rfl, rfl⟩ | ⟨rfl, rfl⟩ | ⟨rfl, rfl⟩ | ⟨rfl, rfl⟩
      · exact ⟨_, V.int 40, PySem.W.mg_of X G cn0, ⟨_, rfl⟩, fun _ _ => .int _⟩
      · exact ⟨_, V.int 1000000000000, PySem.W.mg_of X G cn1, ⟨_, rfl⟩, fun _ _ => .int _⟩
      · exact ⟨_, V.int 60, PySem.W.mg_of X G cn2, ⟨_, rfl⟩, fun _ _ => .int _⟩
      · exact ⟨_, V.int 1000, PySem.W.mg_of X G cn3, ⟨_, rfl⟩, fun _ _ => .int _⟩
      · exact ⟨_, V.ref f14, PySem.W.mg_of X G a14, rfl, fun _ _ => .fn a14⟩
      · exact ⟨_, V.ref f16, PySem.W.mg_of X G a16, rfl, fun _ _ => .fn a16⟩
  have F0 := fun_mk (x := "_law_start") (qual := "_law_start") (st := topS 34) l0 c0 k0
  have B0 := F0.binds (ps := ["script"]) fun _ _ _ _ _ _ us hl => match us, hl with | [_], _ => rfl
  have F1 := fun_mk (x := "_law_draw") (qual := "_law_draw") (st := topS 35) l1 c1 k1
  have B1 := F1.binds (ps := ["cur", "many"]) fun _ _ _ _ _ _ us hl => match us, hl with | [_, _], _ => rfl
  have F2 := fun_mk (x := "_law_pick") (qual := "_law_pick") (st := topS 36) l2 c2 k2
  have B2 := F2.binds (ps := ["cur", "some"]) fun _ _ _ _ _ _ us hl => match us, hl with | [_, _], _ => rfl
  have F3 := fun_mk (x := "_law_late") (qual := "_law_late") (st := topS 45) l3 c3 k3
  have B3 := F3.binds (ps := ["life", "runs"]) fun _ _ _ _ _ _ us hl => match us, hl with | [_, _], _ => rfl
  have F4 := fun_mk (x := "is_integer") (qual := "is_integer") (st := topS 8) l4 c4 k4
  have B4 := F4.binds (ps := ["value"]) fun _ _ _ _ _ _ us hl => match us, hl with | [_], _ => rfl
  have F5 := fun_mk (x := "check_life") (qual := "check_life") (st := topS 14) l5 c5 k5
  have B5 := F5.binds (ps := ["life"]) fun _ _ _ _ _ _ us hl => match us, hl with | [_], _ => rfl
  have F6 := fun_mk (x := "check_runs") (qual := "check_runs") (st := topS 24) l6 c6 k6
  have B6 := F6.binds (ps := ["runs"]) fun _ _ _ _ _ _ us hl => match us, hl with | [_], _ => rfl
  have F7 := fun_mk (x := "copies_ahead") (qual := "copies_ahead") (st := topS 25) l7 c7 k7
  have B7 := F7.binds (ps := ["life", "runs"]) fun _ _ _ _ _ _ us hl => match us, hl with | [_, _], _ => rfl
  have F8 := fun_mk (x := "_law_same") (qual := "_law_same") (st := topS 37) l8 c8 k8
  have B8 := F8.binds (ps := ["actual", "due"]) fun _ _ _ _ _ _ us hl => match us, hl with | [_, _], _ => rfl
  have F9 := fun_mk (x := "judge_copies") (qual := "judge_copies") (st := topS 26) l9 c9 k9
  have B9 := F9.binds (ps := ["life", "runs", "ahead"]) fun _ _ _ _ _ _ us hl => match us, hl with | [_, _, _], _ => rfl
  have F10 := fun_mk (x := "accept_late") (qual := "accept_late") (st := topS 27) l10 c10 k10
  have B10 := F10.binds (ps := ["life", "runs", "ahead", "other"]) fun _ _ _ _ _ _ us hl => match us, hl with | [_, _, _, _], _ => rfl
  have F11 := fun_mk (x := "_law_great_runs_hold") (qual := "_law_great_runs_hold") (st := topS 46) l11 c11 k11
  have B11 := F11.binds (ps := ["cur"]) fun _ _ _ _ _ _ us hl => match us, hl with | [_], _ => rfl
  have F12 := fun_mk (x := "step_of") (qual := "step_of") (st := topS 28) l12 c12 k12
  have B12 := F12.binds (ps := ["rows"]) fun _ _ _ _ _ _ us hl => match us, hl with | [_], _ => rfl
  have F13 := fun_mk (x := "rounds_for") (qual := "rounds_for") (st := topS 31) l13 c13 k13
  have B13 := F13.binds (ps := ["life", "cards"]) fun _ _ _ _ _ _ us hl => match us, hl with | [_, _], _ => rfl
  have F14 := fun_mk (x := "accept_rounds") (qual := "accept_rounds") (st := topS 32) l14 c14 k14
  have B14 := F14.binds (ps := ["life", "rows"]) fun _ _ _ _ _ _ us hl => match us, hl with | [_, _], _ => rfl
  have F15 := fun_mk (x := "check_lives") (qual := "check_lives") (st := topS 19) l15 c15 k15
  have B15 := F15.binds (ps := ["lives"]) fun _ _ _ _ _ _ us hl => match us, hl with | [_], _ => rfl
  have F16 := fun_mk (x := "accept_uses") (qual := "accept_uses") (st := topS 23) l16 c16 k16
  have B16 := F16.binds (ps := ["lives", "many", "taken", "least"]) fun _ _ _ _ _ _ us hl => match us, hl with | [_, _, _, _], _ => rfl
  have F17 := fun_mk (x := "_law_called") (qual := "_law_called") (st := topS 39) l17 c17 k17
  have B17 := F17.binds (ps := ["call", "some"]) fun _ _ _ _ _ _ us hl => match us, hl with | [_, _], _ => rfl
  have F18 := fun_mk (x := "_law_asked") (qual := "_law_asked") (st := topS 40) l18 c18 k18
  have B18 := F18.binds (ps := ["call", "some"]) fun _ _ _ _ _ _ us hl => match us, hl with | [_, _], _ => rfl
  have F19 := fun_mk (x := "check_rounds") (qual := "check_rounds") (st := topS 29) l19 c19 k19
  have B19 := F19.binds (ps := ["rounds"]) fun _ _ _ _ _ _ us hl => match us, hl with | [_], _ => rfl
  have F20 := fun_mk (x := "cards_behind") (qual := "cards_behind") (st := topS 30) l20 c20 k20
  have B20 := F20.binds (ps := ["life", "rounds"]) fun _ _ _ _ _ _ us hl => match us, hl with | [_, _], _ => rfl
  have F21 := fun_mk (x := "_law_rounds_hold") (qual := "_law_rounds_hold") (st := topS 47) l21 c21 k21
  have B21 := F21.binds (ps := ["cur"]) fun _ _ _ _ _ _ us hl => match us, hl with | [_], _ => rfl
  have F22 := fun_mk (x := "fewest_copies") (qual := "fewest_copies") (st := topS 17) l22 c22 k22
  have B22 := F22.binds (ps := ["life", "reads"]) fun _ _ _ _ _ _ us hl => match us, hl with | [_, _], _ => rfl
  have F23 := fun_mk (x := "check_copies") (qual := "check_copies") (st := topS 15) l23 c23 k23
  have B23 := F23.binds (ps := ["copies"]) fun _ _ _ _ _ _ us hl => match us, hl with | [_], _ => rfl
  have F24 := fun_mk (x := "reads_with") (qual := "reads_with") (st := topS 16) l24 c24 k24
  have B24 := F24.binds (ps := ["life", "copies"]) fun _ _ _ _ _ _ us hl => match us, hl with | [_, _], _ => rfl
  have F25 := fun_mk (x := "_law_reads_hold") (qual := "_law_reads_hold") (st := topS 41) l25 c25 k25
  have B25 := F25.binds (ps := ["cur"]) fun _ _ _ _ _ _ us hl => match us, hl with | [_], _ => rfl
  have F26 := fun_mk (x := "check_uses") (qual := "check_uses") (st := topS 18) l26 c26 k26
  have B26 := F26.binds (ps := ["uses", "many"]) fun _ _ _ _ _ _ us hl => match us, hl with | [_, _], _ => rfl
  have F27 := fun_mk (x := "left_behind") (qual := "left_behind") (st := topS 20) l27 c27 k27
  have B27 := F27.binds (ps := ["lives", "uses"]) fun _ _ _ _ _ _ us hl => match us, hl with | [_, _], _ => rfl
  have F28 := fun_mk (x := "judge_uses") (qual := "judge_uses") (st := topS 21) l28 c28 k28
  have B28 := F28.binds (ps := ["lives", "uses"]) fun _ _ _ _ _ _ us hl => match us, hl with | [_, _], _ => rfl
  have F29 := fun_mk (x := "even_uses") (qual := "even_uses") (st := topS 22) l29 c29 k29
  have B29 := F29.binds (ps := ["lives", "many"]) fun _ _ _ _ _ _ us hl => match us, hl with | [_, _], _ => rfl
  have F30 := fun_mk (x := "_law_uses_hold") (qual := "_law_uses_hold") (st := topS 42) l30 c30 k30
  have B30 := F30.binds (ps := ["cur"]) fun _ _ _ _ _ _ us hl => match us, hl with | [_], _ => rfl
  have F31 := fun_mk (x := "_law_done") (qual := "_law_done") (st := topS 43) l31 c31 k31
  have B31 := F31.binds (ps := ["life", "runs", "ahead"]) fun _ _ _ _ _ _ us hl => match us, hl with | [_, _, _], _ => rfl
  have F32 := fun_mk (x := "_law_runs_hold") (qual := "_law_runs_hold") (st := topS 44) l32 c32 k32
  have B32 := F32.binds (ps := ["cur"]) fun _ _ _ _ _ _ us hl => match us, hl with | [_], _ => rfl
  have F33 := fun_mk (x := "law") (qual := "law") (st := topS 48) l33 c33 k33
  have B33 := F33.binds (ps := ["script"]) fun _ _ _ _ _ _ us hl => match us, hl with | [_], _ => rfl
  refine ⟨PySem.W.fnOf "law" "law" (defArgs (topS 48)) (defBody (topS 48)) (defScope (topS 48)) .none kV33 dc33 pm33 an33 cd33 ct33, fun s v => .of_eq rfl, fun base _ _ => ?_⟩
  have FW := fun_mk (x := "_law_word") (qual := "_law_word") (st := topS 38) lW cW kW
  have BW := FW.binds (ps := ["error"]) fun _ _ _ _ _ _ us hl => match us, hl with | [_], _ => rfl
  have R : Er P w K mg base (fun c => [C0, C1, C2, C3, C4].getD c 0) xs tw := by
    refine ⟨fun x c hx => ?_, fun _ => ⟨⟨fW, _, wp, topS 38, ⟨⟨_, _, FW⟩, wsc, wbd, wws, ⟨?g1, ?g2, ?g3, ?g4, ?g5, ?g6⟩, PySem.W.mg_none_of X G z14, PySem.W.mg_none_of X G z13, PySem.W.mg_none_of X G z19, rfl, rfl, BW, PySem.W.mg_of X G aW⟩, kW⟩, C, PySem.W.mg_of X G ca, ?g7⟩⟩
    · have hm := PySem.mem_of_lookup hx
      simp only [xs, List.mem_cons, Prod.mk.injEq, List.not_mem_nil, or_false] at hm
      rcases hm with ⟨rfl, rfl⟩ | ⟨rfl, rfl⟩ | ⟨rfl, rfl⟩ | ⟨rfl, rfl⟩ | ⟨rfl, rfl⟩
      · exact er_one (C := C0) ib0 is0 rfl rfl (fun _ _ _ _ _ _ us hl => match us, hl with | [_, _], _ => rfl) (scope_of (by decide +kernel)) rfl rfl (by decide) (by decide) (by decide) (by decide) (fun _ => rfl) (fun _ => ⟨_, rfl⟩) (PySem.W.mg_of X G E0e) E0o E0s E0b E0v E0t E0k E0i E0f E0l E0d E0c E0g E0h E0j E0m E0n E0p E0q opq (PySem.W.mg_none_of X G z18) htop
      · exact er_one (C := C1) ib1 is1 rfl rfl (fun _ _ _ _ _ _ us hl => match us, hl with | [_, _], _ => rfl) (scope_of (by decide +kernel)) rfl rfl (by decide) (by decide) (by decide) (by decide) (fun _ => rfl) (fun _ => ⟨_, rfl⟩) (PySem.W.mg_of X G E1e) E1o E1s E1b E1v E1t E1k E1i E1f E1l E1d E1c E1g E1h E1j E1m E1n E1p E1r opq (PySem.W.mg_none_of X G z18) htop
      · exact er_one (C := C2) ib2 is2 rfl rfl (fun _ _ _ _ _ _ us hl => match us, hl with | [_, _], _ => rfl) (scope_of (by decide +kernel)) rfl rfl (by decide) (by decide) (by decide) (by decide) (fun _ => rfl) (fun _ => ⟨_, rfl⟩) (PySem.W.mg_of X G E2e) E2o E2s E2b E2v E2t E2k E2i E2f E2l E2d E2c E2g E2h E2j E2m E2n E2p E2r opq (PySem.W.mg_none_of X G z18) htop
      · exact er_one (C := C3) ib3 is3 rfl rfl (fun _ _ _ _ _ _ us hl => match us, hl with | [_, _], _ => rfl) (scope_of (by decide +kernel)) rfl rfl (by decide) (by decide) (by decide) (by decide) (fun _ => rfl) (fun _ => ⟨_, rfl⟩) (PySem.W.mg_of X G E3e) E3o E3s E3b E3v E3t E3k E3i E3f E3l E3d E3c E3g E3h E3j E3m E3n E3p E3r opq (PySem.W.mg_none_of X G z18) htop
      · exact er_one (C := C4) ib4 is4 rfl rfl (fun _ _ _ _ _ _ us hl => match us, hl with | [_, _], _ => rfl) (scope_of (by decide +kernel)) rfl rfl (by decide) (by decide) (by decide) (by decide) (fun _ => rfl) (fun _ => ⟨_, rfl⟩) (PySem.W.mg_of X G E4e) E4o E4s E4b E4v E4t E4k E4i E4f E4l E4d E4c E4g E4h E4j E4m E4n E4p E4r opq (PySem.W.mg_none_of X G z18) htop
    case g1 =>
      intro c hc
      match c, hc with
      | 0, _ => exact PySem.W.mg_of X G E0e
      | 1, _ => exact PySem.W.mg_of X G E1e
      | 2, _ => exact PySem.W.mg_of X G E2e
      | 3, _ => exact PySem.W.mg_of X G E3e
      | 4, _ => exact PySem.W.mg_of X G E4e
    case g2 =>
      intro c hc
      match c, hc with
      | 0, _ => exact ⟨E0u, E0w, E0b, E0x, E0y, hn, ht, E0z⟩
      | 1, _ => exact ⟨E1u, E1w, E1b, E1x, E1y, hn, ht, E1z⟩
      | 2, _ => exact ⟨E2u, E2w, E2b, E2x, E2y, hn, ht, E2z⟩
      | 3, _ => exact ⟨E3u, E3w, E3b, E3x, E3y, hn, ht, E3z⟩
      | 4, _ => exact ⟨E4u, E4w, E4b, E4x, E4y, hn, ht, E4z⟩
    case g3 =>
      intro c hc
      match c, hc with
      | 0, _ => exact E0q
      | 1, _ => exact E1q
      | 2, _ => exact E2q
      | 3, _ => exact E3q
      | 4, _ => exact E4q
    case g4 =>
      intro c hc
      match c, hc with
      | 0, _ => exact E0r
      | 1, _ => exact E1r
      | 2, _ => exact E2r
      | 3, _ => exact E3r
      | 4, _ => exact E4r
    case g5 =>
      intro c hc d hd
      match c, hc, d, hd with
      | 0, _, 0, _ => exact I00
      | 0, _, 1, _ => exact I01
      | 0, _, 2, _ => exact I02
      | 0, _, 3, _ => exact I03
      | 0, _, 4, _ => exact I04
      | 1, _, 0, _ => exact I10
      | 1, _, 1, _ => exact I11
      | 1, _, 2, _ => exact I12
      | 1, _, 3, _ => exact I13
      | 1, _, 4, _ => exact I14
      | 2, _, 0, _ => exact I20
      | 2, _, 1, _ => exact I21
      | 2, _, 2, _ => exact I22
      | 2, _, 3, _ => exact I23
      | 2, _, 4, _ => exact I24
      | 3, _, 0, _ => exact I30
      | 3, _, 1, _ => exact I31
      | 3, _, 2, _ => exact I32
      | 3, _, 3, _ => exact I33
      | 3, _, 4, _ => exact I34
      | 4, _, 0, _ => exact I40
      | 4, _, 1, _ => exact I41
      | 4, _, 2, _ => exact I42
      | 4, _, 3, _ => exact I43
      | 4, _, 4, _ => exact I44
    case g6 =>
      intro c hc
      match c, hc with
      | 0, _ => exact E0A
      | 1, _ => exact E1A
      | 2, _ => exact E2A
      | 3, _ => exact E3A
      | 4, _ => exact E4A
    case g7 =>
      intro c hc
      match c, hc with
      | 0, _ => exact E0B
      | 1, _ => exact E1B
      | 2, _ => exact E2B
      | 3, _ => exact E3B
      | 4, _ => exact E4B
  have q0 : Fns P w K mg base (fun c => [C0, C1, C2, C3, C4].getD c 0) fs34 2 fs0 G0 := fns_nil
  have q1 : Fns P w K mg base (fun c => [C0, C1, C2, C3, C4].getD c 0) fs34 3 fs1 G1 := fns_cons rfl (by decide +kernel) (by decide +kernel) ⟨_, _, _, fn_ok (by decide) F0 sc_law_start rfl rfl h_law_start M R q0, PySem.W.mg_of X G a0, k0, B0, fun ws h => run_bad h⟩ q0
  have q2 : Fns P w K mg base (fun c => [C0, C1, C2, C3, C4].getD c 0) fs34 4 fs2 G2 := fns_cons rfl (by decide +kernel) (by decide +kernel) ⟨_, _, _, fn_ok (by decide) F1 sc_law_draw rfl rfl h_law_draw M R q1, PySem.W.mg_of X G a1, k1, B1, fun ws h => run_bad h⟩ q1
  have q3 : Fns P w K mg base (fun c => [C0, C1, C2, C3, C4].getD c 0) fs34 5 fs3 G3 := fns_cons rfl (by decide +kernel) (by decide +kernel) ⟨_, _, _, fn_ok (by decide) F2 sc_law_pick rfl rfl h_law_pick M R q2, PySem.W.mg_of X G a2, k2, B2, fun ws h => run_bad h⟩ q2
  have q4 : Fns P w K mg base (fun c => [C0, C1, C2, C3, C4].getD c 0) fs34 6 fs4 G4 := fns_cons rfl (by decide +kernel) (by decide +kernel) ⟨_, _, _, fn_ok (by decide) F3 sc_law_late rfl rfl h_law_late M R q3, PySem.W.mg_of X G a3, k3, B3, fun ws h => run_bad h⟩ q3
  have q5 : Fns P w K mg base (fun c => [C0, C1, C2, C3, C4].getD c 0) fs34 7 fs5 G5 := fns_cons rfl (by decide +kernel) (by decide +kernel) ⟨_, _, _, fn_ok (by decide) F4 sc_is_integer rfl rfl h_is_integer M R q4, PySem.W.mg_of X G a4, k4, B4, fun ws h => run_bad h⟩ q4
  have q6 : Fns P w K mg base (fun c => [C0, C1, C2, C3, C4].getD c 0) fs34 8 fs6 G6 := fns_cons rfl (by decide +kernel) (by decide +kernel) ⟨_, _, _, fn_ok (by decide) F5 sc_check_life rfl rfl h_check_life M R q5, PySem.W.mg_of X G a5, k5, B5, fun ws h => run_bad h⟩ q5
  have q7 : Fns P w K mg base (fun c => [C0, C1, C2, C3, C4].getD c 0) fs34 9 fs7 G7 := fns_cons rfl (by decide +kernel) (by decide +kernel) ⟨_, _, _, fn_ok (by decide) F6 sc_check_runs rfl rfl h_check_runs M R q6, PySem.W.mg_of X G a6, k6, B6, fun ws h => run_bad h⟩ q6
  have q8 : Fns P w K mg base (fun c => [C0, C1, C2, C3, C4].getD c 0) fs34 10 fs8 G8 := fns_cons rfl (by decide +kernel) (by decide +kernel) ⟨_, _, _, fn_ok (by decide) F7 sc_copies_ahead rfl rfl h_copies_ahead M R q7, PySem.W.mg_of X G a7, k7, B7, fun ws h => run_bad h⟩ q7
  have q9 : Fns P w K mg base (fun c => [C0, C1, C2, C3, C4].getD c 0) fs34 11 fs9 G9 := fns_cons rfl (by decide +kernel) (by decide +kernel) ⟨_, _, _, fn_ok (by decide) F8 sc_law_same rfl rfl h_law_same M R q8, PySem.W.mg_of X G a8, k8, B8, fun ws h => run_bad h⟩ q8
  have q10 : Fns P w K mg base (fun c => [C0, C1, C2, C3, C4].getD c 0) fs34 12 fs10 G10 := fns_cons rfl (by decide +kernel) (by decide +kernel) ⟨_, _, _, fn_ok (by decide) F9 sc_judge_copies rfl rfl h_judge_copies M R q9, PySem.W.mg_of X G a9, k9, B9, fun ws h => run_bad h⟩ q9
  have q11 : Fns P w K mg base (fun c => [C0, C1, C2, C3, C4].getD c 0) fs34 13 fs11 G11 := fns_cons rfl (by decide +kernel) (by decide +kernel) ⟨_, _, _, fn_ok (by decide) F10 sc_accept_late rfl rfl h_accept_late M R q10, PySem.W.mg_of X G a10, k10, B10, fun ws h => run_bad h⟩ q10
  have q12 : Fns P w K mg base (fun c => [C0, C1, C2, C3, C4].getD c 0) fs34 14 fs12 G12 := fns_cons rfl (by decide +kernel) (by decide +kernel) ⟨_, _, _, fn_ok (by decide) F11 sc_law_great_runs_hold rfl rfl h_law_great_runs_hold M R q11, PySem.W.mg_of X G a11, k11, B11, fun ws h => run_bad h⟩ q11
  have q13 : Fns P w K mg base (fun c => [C0, C1, C2, C3, C4].getD c 0) fs34 15 fs13 G13 := fns_cons rfl (by decide +kernel) (by decide +kernel) ⟨_, _, _, fn_ok (by decide) F12 sc_step_of rfl rfl h_step_of M R q12, PySem.W.mg_of X G a12, k12, B12, fun ws h => run_bad h⟩ q12
  have q14 : Fns P w K mg base (fun c => [C0, C1, C2, C3, C4].getD c 0) fs34 16 fs14 G14 := fns_cons rfl (by decide +kernel) (by decide +kernel) ⟨_, _, _, fn_ok (by decide) F13 sc_rounds_for rfl rfl h_rounds_for M R q13, PySem.W.mg_of X G a13, k13, B13, fun ws h => run_bad h⟩ q13
  have q15 : Fns P w K mg base (fun c => [C0, C1, C2, C3, C4].getD c 0) fs34 17 fs15 G15 := fns_cons rfl (by decide +kernel) (by decide +kernel) ⟨_, _, _, fn_ok (by decide) F14 sc_accept_rounds rfl rfl h_accept_rounds M R q14, PySem.W.mg_of X G a14, k14, B14, fun ws h => run_bad h⟩ q14
  have q16 : Fns P w K mg base (fun c => [C0, C1, C2, C3, C4].getD c 0) fs34 18 fs16 G16 := fns_cons rfl (by decide +kernel) (by decide +kernel) ⟨_, _, _, fn_ok (by decide) F15 sc_check_lives rfl rfl h_check_lives M R q15, PySem.W.mg_of X G a15, k15, B15, fun ws h => run_bad h⟩ q15
  have q17 : Fns P w K mg base (fun c => [C0, C1, C2, C3, C4].getD c 0) fs34 19 fs17 G17 := fns_cons rfl (by decide +kernel) (by decide +kernel) ⟨_, _, _, fn_ok (by decide) F16 sc_accept_uses rfl rfl h_accept_uses M R q16, PySem.W.mg_of X G a16, k16, B16, fun ws h => run_bad h⟩ q16
  have q18 : Fns P w K mg base (fun c => [C0, C1, C2, C3, C4].getD c 0) fs34 20 fs18 G18 := fns_cons rfl (by decide +kernel) (by decide +kernel) ⟨_, _, _, fn_ok (by decide) F17 sc_law_called rfl rfl h_law_called M R q17, PySem.W.mg_of X G a17, k17, B17, fun ws h => run_bad h⟩ q17
  have q19 : Fns P w K mg base (fun c => [C0, C1, C2, C3, C4].getD c 0) fs34 21 fs19 G19 := fns_cons rfl (by decide +kernel) (by decide +kernel) ⟨_, _, _, fn_ok (by decide) F18 sc_law_asked rfl rfl h_law_asked M R q18, PySem.W.mg_of X G a18, k18, B18, fun ws h => run_bad h⟩ q18
  have q20 : Fns P w K mg base (fun c => [C0, C1, C2, C3, C4].getD c 0) fs34 22 fs20 G20 := fns_cons rfl (by decide +kernel) (by decide +kernel) ⟨_, _, _, fn_ok (by decide) F19 sc_check_rounds rfl rfl h_check_rounds M R q19, PySem.W.mg_of X G a19, k19, B19, fun ws h => run_bad h⟩ q19
  have q21 : Fns P w K mg base (fun c => [C0, C1, C2, C3, C4].getD c 0) fs34 23 fs21 G21 := fns_cons rfl (by decide +kernel) (by decide +kernel) ⟨_, _, _, fn_ok (by decide) F20 sc_cards_behind rfl rfl h_cards_behind M R q20, PySem.W.mg_of X G a20, k20, B20, fun ws h => run_bad h⟩ q20
  have q22 : Fns P w K mg base (fun c => [C0, C1, C2, C3, C4].getD c 0) fs34 24 fs22 G22 := fns_cons rfl (by decide +kernel) (by decide +kernel) ⟨_, _, _, fn_ok (by decide) F21 sc_law_rounds_hold rfl rfl h_law_rounds_hold M R q21, PySem.W.mg_of X G a21, k21, B21, fun ws h => run_bad h⟩ q21
  have q23 : Fns P w K mg base (fun c => [C0, C1, C2, C3, C4].getD c 0) fs34 25 fs23 G23 := fns_cons rfl (by decide +kernel) (by decide +kernel) ⟨_, _, _, fn_ok (by decide) F22 sc_fewest_copies rfl rfl h_fewest_copies M R q22, PySem.W.mg_of X G a22, k22, B22, fun ws h => run_bad h⟩ q22
  have q24 : Fns P w K mg base (fun c => [C0, C1, C2, C3, C4].getD c 0) fs34 26 fs24 G24 := fns_cons rfl (by decide +kernel) (by decide +kernel) ⟨_, _, _, fn_ok (by decide) F23 sc_check_copies rfl rfl h_check_copies M R q23, PySem.W.mg_of X G a23, k23, B23, fun ws h => run_bad h⟩ q23
  have q25 : Fns P w K mg base (fun c => [C0, C1, C2, C3, C4].getD c 0) fs34 27 fs25 G25 := fns_cons rfl (by decide +kernel) (by decide +kernel) ⟨_, _, _, fn_ok (by decide) F24 sc_reads_with rfl rfl h_reads_with M R q24, PySem.W.mg_of X G a24, k24, B24, fun ws h => run_bad h⟩ q24
  have q26 : Fns P w K mg base (fun c => [C0, C1, C2, C3, C4].getD c 0) fs34 28 fs26 G26 := fns_cons rfl (by decide +kernel) (by decide +kernel) ⟨_, _, _, fn_ok (by decide) F25 sc_law_reads_hold rfl rfl h_law_reads_hold M R q25, PySem.W.mg_of X G a25, k25, B25, fun ws h => run_bad h⟩ q25
  have q27 : Fns P w K mg base (fun c => [C0, C1, C2, C3, C4].getD c 0) fs34 29 fs27 G27 := fns_cons rfl (by decide +kernel) (by decide +kernel) ⟨_, _, _, fn_ok (by decide) F26 sc_check_uses rfl rfl h_check_uses M R q26, PySem.W.mg_of X G a26, k26, B26, fun ws h => run_bad h⟩ q26
  have q28 : Fns P w K mg base (fun c => [C0, C1, C2, C3, C4].getD c 0) fs34 30 fs28 G28 := fns_cons rfl (by decide +kernel) (by decide +kernel) ⟨_, _, _, fn_ok (by decide) F27 sc_left_behind rfl rfl h_left_behind M R q27, PySem.W.mg_of X G a27, k27, B27, fun ws h => run_bad h⟩ q27
  have q29 : Fns P w K mg base (fun c => [C0, C1, C2, C3, C4].getD c 0) fs34 31 fs29 G29 := fns_cons rfl (by decide +kernel) (by decide +kernel) ⟨_, _, _, fn_ok (by decide) F28 sc_judge_uses rfl rfl h_judge_uses M R q28, PySem.W.mg_of X G a28, k28, B28, fun ws h => run_bad h⟩ q28
  have q30 : Fns P w K mg base (fun c => [C0, C1, C2, C3, C4].getD c 0) fs34 32 fs30 G30 := fns_cons rfl (by decide +kernel) (by decide +kernel) ⟨_, _, _, fn_ok (by decide) F29 sc_even_uses rfl rfl h_even_uses M R q29, PySem.W.mg_of X G a29, k29, B29, fun ws h => run_bad h⟩ q29
  have q31 : Fns P w K mg base (fun c => [C0, C1, C2, C3, C4].getD c 0) fs34 33 fs31 G31 := fns_cons rfl (by decide +kernel) (by decide +kernel) ⟨_, _, _, fn_ok (by decide) F30 sc_law_uses_hold rfl rfl h_law_uses_hold M R q30, PySem.W.mg_of X G a30, k30, B30, fun ws h => run_bad h⟩ q30
  have q32 : Fns P w K mg base (fun c => [C0, C1, C2, C3, C4].getD c 0) fs34 34 fs32 G32 := fns_cons rfl (by decide +kernel) (by decide +kernel) ⟨_, _, _, fn_ok (by decide) F31 sc_law_done rfl rfl h_law_done M R q31, PySem.W.mg_of X G a31, k31, B31, fun ws h => run_bad h⟩ q31
  have q33 : Fns P w K mg base (fun c => [C0, C1, C2, C3, C4].getD c 0) fs34 35 fs33 G33 := fns_cons rfl (by decide +kernel) (by decide +kernel) ⟨_, _, _, fn_ok (by decide) F32 sc_law_runs_hold rfl rfl h_law_runs_hold M R q32, PySem.W.mg_of X G a32, k32, B32, fun ws h => run_bad h⟩ q32
  exact law_end (fn_ok (by decide) F33 sc_law rfl rfl h_law M R q33) rfl law_ok
end Ev.K48
open PySem PySem.W PyProof.Rows
set_option maxHeartbeats 0 in
theorem PySem.Challenge.cw_cardspunched_k48_whole_wear_holds : PySem.Challenge.rw_cardspunched_k48_whole_wear.Holds := by
  w_on; o_law; k_head; (case hw => w_witness2)
  k_fill
  refine Ev.walkG (l := PySem.Challenge.rw_cardspunched_k48_whole_wear) (n := 63) (k := 36) (x := "script") (CX := fun w => L2.CX (PySem.Challenge.rw_cardspunched_k48_whole_wear).prog w) (sp := fun w => Ev.spL _ 63) rfl (by decide) rfl ⟨rfl, by decide, by decide⟩ (fun w h Y => PySem.W.kIn_of Y) ?F (fun w H a ns hl hH hS => ⟨a, ns, rfl, hl, hH, hS, fun _ => rfl⟩) (fun _ _ _ _ _ h => Ev.cx_false h)
  case F =>
    intro w mg fa h KX G hmg
    refine' Ev.K48.all_mk KX G hmg ?a0 ?l0 ?c0 ?k0 ?a1 ?l1 ?c1 ?k1 ?a2 ?l2 ?c2 ?k2 ?a3 ?l3 ?c3 ?k3 ?a4 ?l4 ?c4 ?k4 ?a5 ?l5 ?c5 ?k5 ?a6 ?l6 ?c6 ?k6 ?a7 ?l7 ?c7 ?k7 ?a8 ?l8 ?c8 ?k8 ?a9 ?l9 ?c9 ?k9 ?a10 ?l10 ?c10 ?k10 ?a11 ?l11 ?c11 ?k11 ?a12 ?l12 ?c12 ?k12 ?a13 ?l13 ?c13 ?k13 ?a14 ?l14 ?c14 ?k14 ?a15 ?l15 ?c15 ?k15 ?a16 ?l16 ?c16 ?k16 ?a17 ?l17 ?c17 ?k17 ?a18 ?l18 ?c18 ?k18 ?a19 ?l19 ?c19 ?k19 ?a20 ?l20 ?c20 ?k20 ?a21 ?l21 ?c21 ?k21 ?a22 ?l22 ?c22 ?k22 ?a23 ?l23 ?c23 ?k23 ?a24 ?l24 ?c24 ?k24 ?a25 ?l25 ?c25 ?k25 ?a26 ?l26 ?c26 ?k26 ?a27 ?l27 ?c27 ?k27 ?a28 ?l28 ?c28 ?k28 ?a29 ?l29 ?c29 ?k29 ?a30 ?l30 ?c30 ?k30 ?a31 ?l31 ?c31 ?k31 ?a32 ?l32 ?c32 ?k32 ?a33 ?l33 ?c33 ?k33 ?z0 ?z1 ?z2 ?z3 ?z4 ?z5 ?z6 ?z7 ?z8 ?z9 ?z10 ?z11 ?z12 ?z13 ?z14 ?z15 ?z16 ?z17 ?z18 ?z19 ?cn0 ?cn1 ?cn2 ?cn3 ?aW ?lW ?cW ?kW ?ca ?opq ?hn ?ht ?htop ?E0e ?E0o ?E0s ?E0b ?E0v ?E0t ?E0k ?E0i ?E0f ?E0l ?E0d ?E0c ?E0g ?E0h ?E0j ?E0m ?E0n ?E0p ?E0q ?E0r ?E0u ?E0w ?E0x ?E0y ?E0z ?E0A ?E0B ?E1e ?E1o ?E1s ?E1b ?E1v ?E1t ?E1k ?E1i ?E1f ?E1l ?E1d ?E1c ?E1g ?E1h ?E1j ?E1m ?E1n ?E1p ?E1q ?E1r ?E1u ?E1w ?E1x ?E1y ?E1z ?E1A ?E1B ?E2e ?E2o ?E2s ?E2b ?E2v ?E2t ?E2k ?E2i ?E2f ?E2l ?E2d ?E2c ?E2g ?E2h ?E2j ?E2m ?E2n ?E2p ?E2q ?E2r ?E2u ?E2w ?E2x ?E2y ?E2z ?E2A ?E2B ?E3e ?E3o ?E3s ?E3b ?E3v ?E3t ?E3k ?E3i ?E3f ?E3l ?E3d ?E3c ?E3g ?E3h ?E3j ?E3m ?E3n ?E3p ?E3q ?E3r ?E3u ?E3w ?E3x ?E3y ?E3z ?E3A ?E3B ?E4e ?E4o ?E4s ?E4b ?E4v ?E4t ?E4k ?E4i ?E4f ?E4l ?E4d ?E4c ?E4g ?E4h ?E4j ?E4m ?E4n ?E4p ?E4q ?E4r ?E4u ?E4w ?E4x ?E4y ?E4z ?E4A ?E4B ?I00 ?I01 ?I02 ?I03 ?I04 ?I10 ?I11 ?I12 ?I13 ?I14 ?I20 ?I21 ?I22 ?I23 ?I24 ?I30 ?I31 ?I32 ?I33 ?I34 ?I40 ?I41 ?I42 ?I43 ?I44
    (case a0 => k_is); (case l0 => k_is); (case c0 => k_is); (case k0 => k_is); (case a1 => k_is); (case l1 => k_is); (case c1 => k_is); (case k1 => k_is); (case a2 => k_is); (case l2 => k_is); (case c2 => k_is); (case k2 => k_is); (case a3 => k_is); (case l3 => k_is); (case c3 => k_is); (case k3 => k_is); (case a4 => k_is); (case l4 => k_is); (case c4 => k_is); (case k4 => k_is); (case a5 => k_is); (case l5 => k_is); (case c5 => k_is); (case k5 => k_is); (case a6 => k_is); (case l6 => k_is); (case c6 => k_is); (case k6 => k_is); (case a7 => k_is); (case l7 => k_is); (case c7 => k_is); (case k7 => k_is); (case a8 => k_is); (case l8 => k_is); (case c8 => k_is); (case k8 => k_is); (case a9 => k_is); (case l9 => k_is); (case c9 => k_is); (case k9 => k_is); (case a10 => k_is); (case l10 => k_is); (case c10 => k_is); (case k10 => k_is); (case a11 => k_is); (case l11 => k_is); (case c11 => k_is); (case k11 => k_is); (case a12 => k_is); (case l12 => k_is); (case c12 => k_is); (case k12 => k_is); (case a13 => k_is); (case l13 => k_is); (case c13 => k_is); (case k13 => k_is); (case a14 => k_is); (case l14 => k_is); (case c14 => k_is); (case k14 => k_is); (case a15 => k_is); (case l15 => k_is); (case c15 => k_is); (case k15 => k_is); (case a16 => k_is); (case l16 => k_is); (case c16 => k_is); (case k16 => k_is); (case a17 => k_is); (case l17 => k_is); (case c17 => k_is); (case k17 => k_is); (case a18 => k_is); (case l18 => k_is); (case c18 => k_is); (case k18 => k_is); (case a19 => k_is); (case l19 => k_is); (case c19 => k_is); (case k19 => k_is); (case a20 => k_is); (case l20 => k_is); (case c20 => k_is); (case k20 => k_is); (case a21 => k_is); (case l21 => k_is); (case c21 => k_is); (case k21 => k_is); (case a22 => k_is); (case l22 => k_is); (case c22 => k_is); (case k22 => k_is); (case a23 => k_is); (case l23 => k_is); (case c23 => k_is); (case k23 => k_is); (case a24 => k_is); (case l24 => k_is); (case c24 => k_is); (case k24 => k_is); (case a25 => k_is); (case l25 => k_is); (case c25 => k_is); (case k25 => k_is); (case a26 => k_is); (case l26 => k_is); (case c26 => k_is); (case k26 => k_is); (case a27 => k_is); (case l27 => k_is); (case c27 => k_is); (case k27 => k_is); (case a28 => k_is); (case l28 => k_is); (case c28 => k_is); (case k28 => k_is); (case a29 => k_is); (case l29 => k_is); (case c29 => k_is); (case k29 => k_is); (case a30 => k_is); (case l30 => k_is); (case c30 => k_is); (case k30 => k_is); (case a31 => k_is); (case l31 => k_is); (case c31 => k_is); (case k31 => k_is); (case a32 => k_is); (case l32 => k_is); (case c32 => k_is); (case k32 => k_is); (case a33 => k_is); (case l33 => k_is); (case c33 => k_is); (case k33 => k_is); (case z0 => k_is); (case z1 => k_is); (case z2 => k_is); (case z3 => k_is); (case z4 => k_is); (case z5 => k_is); (case z6 => k_is); (case z7 => k_is); (case z8 => k_is); (case z9 => k_is); (case z10 => k_is); (case z11 => k_is); (case z12 => k_is); (case z13 => k_is); (case z14 => k_is); (case z15 => k_is); (case z16 => k_is); (case z17 => k_is); (case z18 => k_is); (case z19 => k_is); (case cn0 => k_is); (case cn1 => k_is); (case cn2 => k_is); (case cn3 => k_is); (case aW => k_is); (case lW => k_is); (case cW => k_is); (case kW => k_is); (case ca => k_is); (case opq => k_is); (case hn => k_is); (case ht => k_is); (case htop => rfl); (case E0e => k_is); (case E0o => k_is); (case E0s => k_is); (case E0b => k_is); (case E0v => k_is); (case E0t => k_is); (case E0k => k_is); (case E0i => k_is); (case E0f => k_is); (case E0l => k_is); (case E0d => k_is); (case E0c => k_is); (case E0g => exact rfl); (case E0h => decide +kernel); (case E0j => k_is); (case E0m => k_is); (case E0n => k_is); (case E0p => ks_is); (case E0q => k_is); (case E0r => k_is); (case E0u => k_is); (case E0w => k_is); (case E0x => k_is); (case E0y => k_is); (case E0z => k_is); (case E0A => kit_is); (case E0B => kts_exm); (case E1e => k_is); (case E1o => k_is); (case E1s => k_is); (case E1b => k_is); (case E1v => k_is); (case E1t => k_is); (case E1k => k_is); (case E1i => k_is); (case E1f => k_is); (case E1l => k_is); (case E1d => k_is); (case E1c => k_is); (case E1g => exact rfl); (case E1h => decide +kernel); (case E1j => k_is); (case E1m => k_is); (case E1n => k_is); (case E1p => ks_is); (case E1q => k_is); (case E1r => k_is); (case E1u => k_is); (case E1w => k_is); (case E1x => k_is); (case E1y => k_is); (case E1z => k_is); (case E1A => kit_is); (case E1B => kts_exm); (case E2e => k_is); (case E2o => k_is); (case E2s => k_is); (case E2b => k_is); (case E2v => k_is); (case E2t => k_is); (case E2k => k_is); (case E2i => k_is); (case E2f => k_is); (case E2l => k_is); (case E2d => k_is); (case E2c => k_is); (case E2g => exact rfl); (case E2h => decide +kernel); (case E2j => k_is); (case E2m => k_is); (case E2n => k_is); (case E2p => ks_is); (case E2q => k_is); (case E2r => k_is); (case E2u => k_is); (case E2w => k_is); (case E2x => k_is); (case E2y => k_is); (case E2z => k_is); (case E2A => kit_is); (case E2B => kts_exm); (case E3e => k_is); (case E3o => k_is); (case E3s => k_is); (case E3b => k_is); (case E3v => k_is); (case E3t => k_is); (case E3k => k_is); (case E3i => k_is); (case E3f => k_is); (case E3l => k_is); (case E3d => k_is); (case E3c => k_is); (case E3g => exact rfl); (case E3h => decide +kernel); (case E3j => k_is); (case E3m => k_is); (case E3n => k_is); (case E3p => ks_is); (case E3q => k_is); (case E3r => k_is); (case E3u => k_is); (case E3w => k_is); (case E3x => k_is); (case E3y => k_is); (case E3z => k_is); (case E3A => kit_is); (case E3B => kts_exm); (case E4e => k_is); (case E4o => k_is); (case E4s => k_is); (case E4b => k_is); (case E4v => k_is); (case E4t => k_is); (case E4k => k_is); (case E4i => k_is); (case E4f => k_is); (case E4l => k_is); (case E4d => k_is); (case E4c => k_is); (case E4g => exact rfl); (case E4h => decide +kernel); (case E4j => k_is); (case E4m => k_is); (case E4n => k_is); (case E4p => ks_is); (case E4q => k_is); (case E4r => k_is); (case E4u => k_is); (case E4w => k_is); (case E4x => k_is); (case E4y => k_is); (case E4z => k_is); (case E4A => kit_is); (case E4B => kts_exm); (case I00 => kit_is); (case I01 => kit_is); (case I02 => kit_is); (case I03 => kit_is); (case I04 => kit_is); (case I10 => kit_is); (case I11 => kit_is); (case I12 => kit_is); (case I13 => kit_is); (case I14 => kit_is); (case I20 => kit_is); (case I21 => kit_is); (case I22 => kit_is); (case I23 => kit_is); (case I24 => kit_is); (case I30 => kit_is); (case I31 => kit_is); (case I32 => kit_is); (case I33 => kit_is); (case I34 => kit_is); (case I40 => kit_is); (case I41 => kit_is); (case I42 => kit_is); (case I43 => kit_is); (case I44 => kit_is)
