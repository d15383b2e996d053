import PyProof.Rows.All
import Wide.All
import OpenK.AllK
import Wide.FinOn
import HandS.ForMost
import HandS.ForExc
import HandS.Walk
import HandS.Wide
import KE.DataMinMax
import KE.DataCmp
import HandS.TupSets
import HandS.TupAny
import HandS.TupMul
import HandS.Deep
import HandS.Conv
import HandS.Lambda
import HandS.IsInst
import HandS.Replace
import KE.SortData
import HandS.Text
import PyProof.Rows.RegReprOcc
import KE.GoesEnum
import KE.GoesNew
import HandS.ExcCtx
import HandS.Style
import KE.KRevSl
import HandS.SetFor
import HandS.Strs
import KE.KItemsList
import HandS.ListItems
import HandS.Dict
import HandS.WordsExc
import HandS.Base
import HandS.Call
import HandS.List
import HandS.Comp
import HandS.Exc
import HandS.ExcOwn
import HandS.Hot
import HandS.HotCalls
import HandS.ExcIs
import HandS.EndOwn
import PySem.Challenge.RW_signgrids_k15_whole_cycles
set_option Elab.async false
set_option linter.all false
set_option maxRecDepth 100000
namespace SG
open PySem
inductive D where
  | non | bl (b : Bool) | int (i : Int) | str (s : List Nat) | tup (xs : List D) | lst (xs : List D) | die
  deriving Inhabited
mutual
def D.py : D → PyData
  | .non => .none | .bl b => .bool b | .int i => .int i | .str s => .str ⟨s.toArray⟩
  | .tup xs => .tuple (D.pys xs) | .lst xs => .list (D.pys xs) | .die => .none
def D.pys : List D → List PyData
  | [] => []
  | x :: xs => D.py x :: D.pys xs
end
mutual
def D.dep : D → Nat
  | .tup xs => D.deps xs + 1 | .lst xs => D.deps xs + 1 | .die => 100 | .non => 0 | .bl _ => 0 | .int _ => 0 | .str _ => 0
def D.deps : List D → Nat
  | [] => 0
  | x :: xs => max (D.dep x) (D.deps xs)
end
mutual
def D.eq : D → D → Bool
  | .non, .non => true
  | .bl a, .bl b => a == b
  | .bl a, .int j => (if a then 1 else 0) == j
  | .int i, .bl b => i == (if b then 1 else 0)
  | .int i, .int j => i == j
  | .str x, .str y => x == y
  | .tup xs, .tup ys => D.eqs xs ys
  | .lst xs, .lst ys => D.eqs xs ys
  | _, _ => false
def D.eqs : List D → List D → Bool
  | [], [] => true
  | x :: xs, y :: ys => D.eq x y && D.eqs xs ys
  | _, _ => false
end
def D.ordB (x y : D) : Bool := PySem.W.alike x.py y.py && decide (x.dep ≤ 64) && decide (y.dep ≤ 64) && !(match x with | .non => true | _ => false)
def D.lt (x y : D) : Bool := match x, y with
  | .int i, .int j => decide (i < j)
  | x, y => PySem.W.dataLt x.py y.py
abbrev Dice := Int × Int
inductive Res (α : Type) where
  | ok (a : α) (d : Dice)
  | err (c : Nat) (d : Dice)
  | bad
def Res.bind {α β : Type} (r : Res α) (f : α → Dice → Res β) : Res β :=
  match r with
  | .ok a d => f a d
  | .err c d => .err c d
  | .bad => .bad
def Res.noerr {α : Type} (r : Res α) : Res α :=
  match r with
  | .err _ _ => .bad
  | r => r
def Res.of {α : Type} (o : Option α) (d : Dice) : Res α :=
  match o with
  | some a => .ok a d
  | none => .bad
inductive Bop where | add | sub | mul | fdiv | mod | pow
  deriving DecidableEq
inductive Cop where | eq | ne | lt | le | gt | ge | inn | notin
  deriving DecidableEq
inductive Bi where | len | all | any | sum | min | max | min2 | max2 | sorted | tuple | list | abs | int
  deriving DecidableEq
inductive Me where | join | index | count | split | lindex
  deriving DecidableEq
inductive Ty where | str | int | bool | tuple
  deriving DecidableEq
inductive E where
  | nil | cons (a r : E)
  | var (i : Nat) | non | bl (b : Bool) | int (i : Int) | str (s : List Nat)
  | tup (es : E) | lst (es : E)
  | bin (o : Bop) (a b : E) | neg (a : E)
  | cmp (o : Cop) (a b : E) | chain (o p : Cop) (a b c : E) | isn (n : Bool) (a : E)
  | and (a b : E) | or (a b : E) | and3 (a b c : E) | or3 (a b c : E) | not (a : E) | ite (c a b : E)
  | call (f : Nat) (es : E) | bi (f : Bi) (es : E) | isi (t : Ty) (a : E) | meth (m : Me) (o a : E)
  | ix (a b : E) | sl (a lo hi : E) | rev (a : E)
  | rng1 (a : E) | rng2 (a b : E) | enum (a : E) | zip (a b : E)
  | trng (a : E) | lenum (a : E) | ssort (a : E)
  | lc (elt tg it : E) (own : List Nat) | lcif (elt tg it c : E) (own : List Nat) | lc2 (elt tg1 it1 tg2 it2 : E) (own own2 : List Nat)
  | dget (kvs : List (List Nat × Int)) (e : E) | dgets (kvs : List (List Nat × List Nat)) (e : E)
  | oix (i : Nat) (e : E) | oit (i : Nat) | olen (i : Nat) | dix (i j : Nat) | told (e : E)
  deriving Inhabited
inductive S where
  | nil | seq (a r : S)
  | set (tg e : E) | own (i : Nat) | par (i j : Nat) (a b : E) | parO (i j : Nat) (a : E) | par3 (i j l : Nat) (a b c : E) | frz (i : Nat) | nev
  | app (i : Nat) (e : E) | sti (i : Nat) (a e : E) | swp (i : Nat) (a b : E)
  | ret (e : E) | ifs (c : E) (a b : S) | fors (tg it : E) (b : S) | whl (n : Nat) (c : E) (b : S)
  | ex (e : E) | rse (c : Nat) | aug (i : Nat) (e : E) | ownR (i : Nat) (z : Int) (e : E) | dst (i j : Nat) (e : E)
  deriving Inhabited
inductive Sl where | no | sh (d : D) | ow (ds : List D)
  deriving Inhabited
abbrev Env := List Sl
def Env.get (env : Env) (i : Nat) : Option D := match env[i]? with
  | some (.sh d) => some d
  | _ => none
def Env.getO (env : Env) (i : Nat) : Option (List D) := match env[i]? with
  | some (.ow ds) => some ds
  | _ => none
def Env.put (env : Env) (i : Nat) (s : Sl) : Option Env := if i < env.length then some (env.set i s) else none
def Env.wipe (env : Env) : List Nat → Env
  | [] => env
  | v :: vs => (Env.wipe env vs).set v .no
def lim : Nat := 1000000
def smallI (i : Int) : Bool := decide (i.natAbs < 2 ^ 8000)
def s64 (i : Int) : Bool := decide (-(2 ^ 64) < i) && decide (i < 2 ^ 64)
def mulOk (i j : Int) : Bool := (s64 i || s64 j) || (smallI i && smallI j)
def mkS (s : List Nat) : Option D := if s.length ≤ lim then some (.str s) else none
def mkT (s : List D) : Option D := if s.length ≤ lim then some (.tup s) else none
def mkL (s : List D) : Option D := if s.length ≤ lim then some (.lst s) else none
def rep {α : Type} (n : Int) (xs : List α) : List α := (List.replicate n.toNat xs).flatten
def opBin : Bop → D → D → Option D
  | .add, .int i, .int j => some (.int (i + j))
  | .add, .str x, .str y => mkS (x ++ y)
  | .add, .tup x, .tup y => mkT (x ++ y)
  | .add, .lst x, .lst y => mkL (x ++ y)
  | .sub, .int i, .int j => some (.int (i - j))
  | .mul, .int i, .int j => if mulOk i j then some (.int (i * j)) else none
  | .mul, .str x, .int j => if decide (0 ≤ j) && decide (j ≤ 1000) && decide (x.length ≤ 1000) then some (.str (rep j x)) else none
  | .mul, .tup x, .int j => if decide (0 ≤ j) && decide (j ≤ 1000) && decide (x.length ≤ 1000) && !x.isEmpty then some (.tup (rep j x)) else none
  | .mul, .lst x, .int j => if decide (0 ≤ j) && decide (j ≤ 1000) && decide (x.length ≤ 1000) then some (.lst (rep j x)) else none
  | .fdiv, .int i, .int j => if decide (j ≠ 0) && smallI j then some (.int (i.fdiv j)) else none
  | .mod, .int i, .int j => if decide (j ≠ 0) then some (.int (i.fmod j)) else none
  | .pow, .int i, .int j => if decide (0 ≤ j) && decide (j ≤ 1000) && decide (i.natAbs < 2 ^ 60) then some (.int (i ^ j.toNat)) else none
  | _, _, _ => none
def flat : D → Bool
  | .non => true | .bl _ => true | .int _ => true | .str _ => true | _ => false
def inD (x : D) : D → Option Bool
  | .str t => match x with
    | .str [c] => some (t.contains c)
    | _ => none
  | .lst ys => if decide (x.dep ≤ 60) && decide (D.deps ys ≤ 60) then some (ys.any fun z => D.eq z x) else none
  | .tup ys => if flat x && ys.all flat then some (ys.any fun z => D.eq z x) else none
  | _ => none
def opCmp : Cop → D → D → Option Bool
  | .eq, x, y => if decide (x.dep ≤ 64) && decide (y.dep ≤ 64) then some (D.eq x y) else none
  | .ne, x, y => if decide (x.dep ≤ 64) && decide (y.dep ≤ 64) then some (!D.eq x y) else none
  | .lt, x, y => if D.ordB x y then some (D.lt x y) else none
  | .gt, x, y => if D.ordB x y then some (D.lt y x) else none
  | .le, x, y => if D.ordB x y then some (!D.lt y x) else none
  | .ge, x, y => if D.ordB x y then some (!D.lt x y) else none
  | .inn, x, y => inD x y
  | .notin, x, y => (inD x y).map (!·)
def truth : D → Option Bool
  | .bl b => some b
  | .int i => some (decide (i ≠ 0))
  | _ => none
def boolOf : D → Option Bool
  | .bl b => some b
  | _ => none
def bools : List D → Option (List Bool)
  | [] => some []
  | .bl b :: r => (bools r).map (b :: ·)
  | _ => none
def intsOf : List D → Option (List Int)
  | [] => some []
  | .int b :: r => (intsOf r).map (b :: ·)
  | _ => none
def strsOf : List D → Option (List (List Nat))
  | [] => some []
  | .str b :: r => (strsOf r).map (b :: ·)
  | _ => none
def items : D → Option (List D)
  | .lst xs => some xs
  | .tup xs => some xs
  | .str s => some (s.map fun c => .str [c])
  | _ => none
def isI (t : Ty) (x : D) : Option Bool := match x with
  | .die => none
  | x => some (match t, x with
    | .str, .str _ => true
    | .int, .int _ => true
    | .int, .bl _ => true
    | .bool, .bl _ => true
    | .tuple, .tup _ => true
    | _, _ => false)
def ordAll (xs : List D) : Bool := xs.all fun x => xs.all fun y => D.ordB x y
def least (x : D) : List D → D
  | [] => x
  | y :: r => least (if D.lt y x then y else x) r
def most (x : D) : List D → D
  | [] => x
  | y :: r => most (if D.lt x y then y else x) r
def headNoTup (xs : List D) : Bool := xs.all (fun x => match x with | .tup _ => false | _ => true) || xs.all (fun x => match x with | .tup [] => false | .tup (_ :: _) => true | _ => false)
def sortD (xs : List D) : Option (List D) := if ordAll xs && headNoTup xs then some (xs.mergeSort fun a b => !D.lt b a) else none
def biLen : List D → Option D
  | [.str s] => if s.length ≤ lim then some (.int s.length) else none
  | [.tup s] => some (.int s.length)
  | [.lst s] => some (.int s.length)
  | _ => none
def biAll : List D → Option D
  | [.lst xs] => (bools xs).map fun bs => .bl (bs.all id)
  | _ => none
def biAny : List D → Option D
  | [.lst xs] => (bools xs).map fun bs => .bl (bs.any id)
  | _ => none
def biSum : List D → Option D
  | [.lst xs] => (intsOf xs).map fun bs => .int bs.sum
  | _ => none
def biMin : List D → Option D
  | [.lst (x :: xs)] => if ordAll (x :: xs) then some (least x xs) else none
  | [.tup (x :: xs)] => if ordAll (x :: xs) then some (least x xs) else none
  | _ => none
def biMax : List D → Option D
  | [.lst (x :: xs)] => if ordAll (x :: xs) then some (most x xs) else none
  | _ => none
def biMin2 : List D → Option D
  | [.int i, .int j] => some (.int (if j < i then j else i))
  | _ => none
def biMax2 : List D → Option D
  | [.int i, .int j] => some (.int (if j > i then j else i))
  | _ => none
def biSorted : List D → Option D
  | [.lst xs] => (sortD xs).map .lst
  | _ => none
def biTuple : List D → Option D
  | [.lst xs] => some (.tup xs)
  | [.tup xs] => some (.tup xs)
  | _ => none
def biList : List D → Option D
  | [.lst xs] => some (.lst xs)
  | [.tup xs] => some (.lst xs)
  | [.str s] => if s.length ≤ lim then some (.lst (s.map fun c => .str [c])) else none
  | _ => none
def biAbs : List D → Option D
  | [.int i] => some (.int (if i < 0 then -i else i))
  | _ => none
def biInt : List D → Option D
  | [.int i] => some (.int i)
  | [.bl b] => some (.int (if b then 1 else 0))
  | _ => none
def opBi : Bi → List D → Option D
  | .len => biLen | .all => biAll | .any => biAny | .sum => biSum | .min => biMin | .max => biMax | .min2 => biMin2 | .max2 => biMax2
  | .sorted => biSorted | .tuple => biTuple | .list => biList | .abs => biAbs | .int => biInt
def joinS (sep : List Nat) : List (List Nat) → List Nat
  | [] => []
  | [x] => x
  | x :: y :: r => x ++ sep ++ joinS sep (y :: r)
def splitS (c : Nat) : List Nat → List Nat → List (List Nat)
  | acc, [] => [acc.reverse]
  | acc, x :: r => if x = c then acc.reverse :: splitS c [] r else splitS c (x :: acc) r
def findD (c : D) : Nat → List D → Option Nat
  | _, [] => none
  | n, x :: r => if D.eq x c then some n else findD c (n + 1) r
def joinR (sep : List Nat) (xs : List D) : Option D := (strsOf xs).bind fun ss => if (ss.map (·.length)).sum + ss.length * sep.length ≤ lim then some (.str (joinS sep ss)) else none
def meJoin : D → List D → Option D
  | .str sep, [.lst xs] => joinR sep xs
  | .str sep, [.tup xs] => joinR sep xs
  | _, _ => none
def meIndex : D → List D → Option D
  | .str s, [.str [c]] => if s = [43, 45, 48] then (if c = 43 then some (.int 0) else if c = 45 then some (.int 1) else if c = 48 then some (.int 2) else none) else none
  | _, _ => none
def meCount : D → List D → Option D
  | .str s, [.str [c]] => some (.int (s.count c))
  | _, _ => none
def meSplit : D → List D → Option D
  | .str s, [.str [c]] => if s.length + 2 ≤ lim then some (.lst ((splitS c [] s).map .str)) else none
  | _, _ => none
def meLindex : D → List D → Option D
  | .lst xs, [.bl b] => if xs.all flat then (findD (.bl b) 0 xs).map fun n => .int n else none
  | _, _ => none
def opMe : Me → D → List D → Option D
  | .join => meJoin | .index => meIndex | .count => meCount | .split => meSplit | .lindex => meLindex
def ixP (n : Nat) (i : Int) : Option Nat := if 0 ≤ i then (if i < n then some i.toNat else none) else if -(n : Int) ≤ i then some (i + n).toNat else none
def atP {α : Type} (xs : List α) (i : Int) : Option α := (ixP xs.length i).bind fun j => xs[j]?
def opIx : D → D → Option D
  | .tup xs, .int i => atP xs i
  | .lst xs, .int i => atP xs i
  | .str s, .int i => if s.length ≤ lim then (atP s i).map fun c => .str [c] else none
  | _, _ => none
def sIx (n d : Nat) : Option Int → Nat
  | none => d
  | some v => if v < 0 then (v + (n : Int)).toNat else min v.toNat n
def cut {α : Type} (xs : List α) (lo hi : Option Int) : List α := (xs.drop (sIx xs.length 0 lo)).take (sIx xs.length xs.length hi - sIx xs.length 0 lo)
def opSl (x : D) (lo hi : Option Int) : Option D := match x with
  | .tup xs => some (.tup (cut xs lo hi))
  | .lst xs => some (.lst (cut xs lo hi))
  | .str s => if s.length ≤ lim then some (.str (cut s lo hi)) else none
  | _ => none
def opRev : D → Option D
  | .tup xs => some (.tup xs.reverse)
  | .str xs => if xs.length ≤ lim then some (.str xs.reverse) else none
  | _ => none
def isNil : E → Bool
  | .nil => true | _ => false
def part (e : E) (y : D) : Option (Option Int) := if isNil e then some none else match y with
  | .int i => some (some i)
  | _ => none
def rangeL (a b : Int) : List D := (List.range (b - a).toNat).map fun (i : Nat) => D.int (a + (i : Int))
def smallR (a b : Int) : Bool := decide (-(2 ^ 20) ≤ a) && decide (a < 2 ^ 20) && decide (-(2 ^ 20) ≤ b) && decide (b < 2 ^ 20)
def enumL : Nat → List D → List D
  | _, [] => []
  | n, x :: r => .tup [.int n, x] :: enumL (n + 1) r
def zipL : List D → List D → List D
  | x :: r, y :: s => .tup [x, y] :: zipL r s
  | _, _ => []
def insS (x : Int) : List Int → List Int
  | [] => [x]
  | y :: r => if x < y then x :: y :: r else if x = y then y :: r else y :: insS x r
def sset (l : List Int) : List Int := l.foldr insS []
def tInts : List D → Option (List (List Int))
  | [] => some []
  | .tup xs :: r => (intsOf xs).bind fun a => (tInts r).map (a :: ·)
  | _ => none
def codeT (l : List Int) : Int := TS.code 64 l
def insT (x : List Int) : List (List Int) → List (List Int)
  | [] => [x]
  | y :: r => if codeT x < codeT y then x :: y :: r else if codeT x = codeT y then y :: r else y :: insT x r
def ssetT (l : List (List Int)) : List (List Int) := l.foldr insT []
def tOk (ks : List (List Int)) : Bool := match ks with
  | [] => false
  | k0 :: _ => decide (1 ≤ k0.length) && decide (ks.length ≤ 60) && ks.all fun k => decide (k.length = k0.length) && k.all fun x => decide (0 ≤ x) && decide (x < 64)
def tIO (k : List Int) : D := .tup (k.map .int)
def ssortO (xs : List D) : Option D := match intsOf xs with
  | some ns => if ns.length ≤ 60 then some (.lst ((sset ns).map .int)) else none
  | none => (tInts xs).bind fun ks => if tOk ks then some (.lst ((ssetT ks).map tIO)) else none
def asg : E → D → Env → Option Env
  | .var i, x, env => env.put i (.sh x)
  | .tup es, .tup xs, env => asg es (.tup xs) env
  | .nil, .tup [], env => some env
  | .cons a r, .tup (x :: xs), env => (asg a x env).bind fun env' => asg r (.tup xs) env'
  | _, _, _ => none
def tups : D → List D
  | .tup xs => xs
  | _ => []
def lookS (c : List Nat) : List (List Nat × Int) → Option D
  | [] => none
  | (k, v) :: r => if k = c then some (.int v) else lookS c r
def lookSS (c : List Nat) : List (List Nat × List Nat) → Option D
  | [] => none
  | (k, v) :: r => if k = c then some (.str v) else lookSS c r
def errT : List Nat := [101, 114, 114, 111, 114]
def errS : Nat → List Nat
  | 0 => [73, 110, 118, 97, 108, 105, 100, 84, 97, 98, 108, 101]
  | 1 => [73, 110, 118, 97, 108, 105, 100, 82, 105, 103, 104, 116]
  | 2 => [73, 110, 118, 97, 108, 105, 100, 80, 108, 97, 99, 101]
  | 3 => [73, 110, 118, 97, 108, 105, 100, 83, 105, 103, 110]
  | 4 => [73, 110, 118, 97, 108, 105, 100, 84, 101, 120, 116]
  | 5 => [78, 111, 116, 83, 113, 117, 97, 114, 101]
  | 6 => [78, 111, 116, 73, 110, 118, 101, 114, 116, 105, 98, 108, 101]
  | 7 => [78, 111, 116, 78, 101, 103, 97, 116, 105, 118, 101]
  | 8 => [84, 111, 111, 76, 97, 114, 103, 101]
  | 9 => [85, 110, 99, 104, 97, 110, 103, 101, 100]
  | 10 => [78, 111, 116, 104, 105, 110, 103, 84, 111, 85, 110, 100, 111]
  | _ => []
def errD (k : Nat) : D := .tup [.str errT, .str (errS k)]
abbrev CF := Nat → List D → Dice → Res D
def lcLoop (st : D → Option Env) (f : Env → Dice → Res (Option D)) : List D → Dice → Res (List D)
  | [], d => .ok [] d
  | x :: r, d => match st x with
    | none => .bad
    | some env => (f env d).noerr.bind fun o d' => (lcLoop st f r d').bind fun ys d'' => .ok (match o with | some y => y :: ys | none => ys) d''
def lcLoop2 (st : D → Option Env) (f : Env → Dice → Res (List D)) : List D → Dice → Res (List D)
  | [], d => .ok [] d
  | x :: r, d => match st x with
    | none => .bad
    | some env => (f env d).noerr.bind fun o d' => (lcLoop2 st f r d').bind fun ys d'' => .ok (o ++ ys) d''
def ev (cf : CF) : E → Env → Dice → Res D
  | .nil, _, d => .ok (.tup []) d
  | .cons a r, env, d => (ev cf a env d).bind fun x d => (ev cf r env d).bind fun xs d => .ok (.tup (x :: tups xs)) d
  | .var i, env, d => .of (env.get i) d
  | .non, _, d => .ok .non d
  | .bl b, _, d => .ok (.bl b) d
  | .int i, _, d => .ok (.int i) d
  | .str s, _, d => .ok (.str s) d
  | .tup es, env, d => ev cf es env d
  | .lst es, env, d => (ev cf es env d).bind fun x d => .ok (.lst (tups x)) d
  | .bin o a b, env, d => (ev cf a env d).bind fun x d => (ev cf b env d).bind fun y d => .of (opBin o x y) d
  | .neg a, env, d => (ev cf a env d).bind fun x d => match x with | .int i => .ok (.int (-i)) d | _ => .bad
  | .cmp o a b, env, d => (ev cf a env d).bind fun x d => (ev cf b env d).bind fun y d => .of ((opCmp o x y).map .bl) d
  | .chain o p a b c, env, d => (ev cf a env d).bind fun x d => (ev cf b env d).bind fun y d => match opCmp o x y with
    | some true => (ev cf c env d).bind fun z d => .of ((opCmp p y z).map .bl) d
    | some false => .ok (.bl false) d
    | none => .bad
  | .isn n a, env, d => (ev cf a env d).bind fun x d => .ok (.bl (match x with | .non => !n | _ => n)) d
  | .and a b, env, d => (ev cf a env d).bind fun x d => match x with
    | .bl true => ev cf b env d
    | .bl false => .ok (.bl false) d
    | _ => .bad
  | .or a b, env, d => (ev cf a env d).bind fun x d => match x with
    | .bl false => ev cf b env d
    | .bl true => .ok (.bl true) d
    | _ => .bad
  | .and3 a b c, env, d => (ev cf a env d).bind fun x d => match x with
    | .bl true => (ev cf b env d).bind fun y d => match y with
      | .bl true => ev cf c env d
      | .bl false => .ok (.bl false) d
      | _ => .bad
    | .bl false => .ok (.bl false) d
    | _ => .bad
  | .or3 a b c, env, d => (ev cf a env d).bind fun x d => match x with
    | .bl false => (ev cf b env d).bind fun y d => match y with
      | .bl false => ev cf c env d
      | .bl true => .ok (.bl true) d
      | _ => .bad
    | .bl true => .ok (.bl true) d
    | _ => .bad
  | .not a, env, d => (ev cf a env d).bind fun x d => match x with
    | .bl b => .ok (.bl (!b)) d
    | _ => .bad
  | .ite c a b, env, d => (ev cf c env d).bind fun x d => match truth x with
    | some true => ev cf a env d
    | some false => ev cf b env d
    | none => .bad
  | .call f es, env, d => (ev cf es env d).bind fun x d => cf f (tups x) d
  | .bi f es, env, d => (ev cf es env d).bind fun x d => .of (opBi f (tups x)) d
  | .isi t a, env, d => (ev cf a env d).bind fun x d => .of ((isI t x).map .bl) d
  | .meth m o a, env, d => (ev cf o env d).bind fun x d => (ev cf a env d).bind fun y d => .of (opMe m x [y]) d
  | .ix a b, env, d => (ev cf a env d).bind fun x d => (ev cf b env d).bind fun y d => .of (opIx x y) d
  | .sl a lo hi, env, d => (ev cf a env d).bind fun x d =>
      (ev cf lo env d).bind fun y d => (Res.of (part lo y) d).bind fun l d => (ev cf hi env d).bind fun z d => (Res.of (part hi z) d).bind fun h d => .of (opSl x l h) d
  | .rev a, env, d => (ev cf a env d).bind fun x d => .of (opRev x) d
  | .rng1 a, env, d => (ev cf a env d).bind fun x d => match x with
    | .int n => if smallR 0 n then .ok (.lst (rangeL 0 n)) d else .bad
    | _ => .bad
  | .rng2 a b, env, d => (ev cf a env d).bind fun x d => (ev cf b env d).bind fun y d => match x, y with
    | .int m, .int n => if smallR m n then .ok (.lst (rangeL m n)) d else .bad
    | _, _ => .bad
  | .enum a, env, d => (ev cf a env d).bind fun x d => .of ((items x).map fun l => .lst (enumL 0 l)) d
  | .zip a b, env, d => (ev cf a env d).bind fun x d => (ev cf b env d).bind fun y d => .of ((items x).bind fun l => (items y).map fun m => .lst (zipL l m)) d
  | .trng a, env, d => (ev cf a env d).bind fun x d => match x with
    | .int n => if smallR 0 n then .ok (.tup (rangeL 0 n)) d else .bad
    | _ => .bad
  | .lenum a, env, d => (ev cf a env d).bind fun x d => .of ((items x).bind fun l => if l.length ≤ lim then some (.lst (enumL 0 l)) else none) d
  | .ssort a, env, d => (ev cf a env d).bind fun x d => match x with
    | .lst xs => .of (ssortO xs) d
    | _ => .bad
  | .lc elt tg it own, env, d => (ev cf it env d).bind fun x d => match items x with
    | none => .bad
    | some l => if l.length ≤ lim then (lcLoop (fun y => asg tg y (env.wipe own)) (fun env d => (ev cf elt env d).bind fun y d => .ok (some y) d) l d).bind fun ys d => .ok (.lst ys) d else .bad
  | .lcif elt tg it c own, env, d => (ev cf it env d).bind fun x d => match items x with
    | none => .bad
    | some l => if l.length ≤ lim then (lcLoop (fun y => asg tg y (env.wipe own)) (fun env d => (ev cf c env d).bind fun b d => match truth b with
        | some true => (ev cf elt env d).bind fun y d => .ok (some y) d
        | some false => .ok none d
        | none => .bad) l d).bind fun ys d => .ok (.lst ys) d else .bad
  | .lc2 elt tg1 it1 tg2 it2 own own2, env, d => (ev cf it1 env d).bind fun x d => match items x with
    | none => .bad
    | some l => if l.length ≤ 1000 then (lcLoop2 (fun y => asg tg1 y (env.wipe own)) (fun env d => (ev cf it2 env d).bind fun x2 d => match items x2 with
        | none => .bad
        | some l2 => if l2.length ≤ 1000 then lcLoop (fun y => asg tg2 y (env.wipe own2)) (fun env d => (ev cf elt env d).bind fun y d => .ok (some y) d) l2 d else .bad) l d).bind fun ys d => .ok (.lst ys) d else .bad
  | .dget kvs e, env, d => (ev cf e env d).bind fun x d => match x with
    | .str s => .of (lookS s kvs) d
    | _ => .bad
  | .dgets kvs e, env, d => (ev cf e env d).bind fun x d => match x with
    | .str s => .of (lookSS s kvs) d
    | _ => .bad
  | .oix i e, env, d => (ev cf e env d).bind fun y d => .of ((env.getO i).bind fun xs => opIx (.lst xs) y) d
  | .oit i, env, d => .of ((env.getO i).map .lst) d
  | .olen i, env, d => .of ((env.getO i).map fun xs => .int xs.length) d
  | .dix i j, env, d => match env.get i with
    | some .die => if j = 0 then .ok (.int d.1) d else if j = 1 then .ok (.int d.2) d else .bad
    | _ => .bad
  | .told e, env, d => match ev cf e env d with
    | .err k d => if k < 11 then .ok (errD k) d else .bad
    | r => r
inductive Out where
  | nx (e : Env) (d : Dice) | rt (v : D) (d : Dice) | er (c : Nat) (d : Dice) | bad
def Out.then (o : Out) (f : Env → Dice → Out) : Out := match o with
  | .nx e d => f e d
  | o => o
def Res.out {α : Type} (r : Res α) (f : α → Dice → Out) : Out := match r with
  | .ok a d => f a d
  | .err c d => .er c d
  | .bad => .bad
def Out.ofE (o : Option Env) (d : Dice) : Out := match o with
  | some e => .nx e d
  | none => .bad
def forLoop (tg : E) (f : Env → Dice → Out) : List D → Env → Dice → Out
  | [], env, d => .nx env d
  | x :: r, env, d => match asg tg x env with
    | none => .bad
    | some env' => (f env' d).then fun env'' d' => forLoop tg f r env'' d'
def whileLoop (c : Env → Dice → Res D) (f : Env → Dice → Out) : Nat → Env → Dice → Out
  | 0, _, _ => .bad
  | n + 1, env, d => (c env d).out fun x d => match truth x with
    | some true => (f env d).then fun env' d' => whileLoop c f n env' d'
    | some false => .nx env d
    | none => .bad
def evS (cf : CF) : S → Env → Dice → Out
  | .nil, env, d => .nx env d
  | .seq a r, env, d => (evS cf a env d).then fun env d => evS cf r env d
  | .set tg e, env, d => (ev cf e env d).out fun x d => .ofE (asg tg x env) d
  | .own i, env, d => .ofE (env.put i (.ow [])) d
  | .par i j a b, env, d => (ev cf a env d).out fun x d => (ev cf b env d).out fun y d => .ofE ((env.put i (.sh x)).bind fun env' => env'.put j (.sh y)) d
  | .parO i j a, env, d => (ev cf a env d).out fun x d => .ofE ((env.put i (.sh x)).bind fun env' => env'.put j (.ow [])) d
  | .par3 i j l a b c, env, d => (ev cf a env d).out fun x d => (ev cf b env d).out fun y d => (ev cf c env d).out fun z d => .ofE ((env.put i (.sh x)).bind fun env' => (env'.put j (.sh y)).bind fun env'' => env''.put l (.sh z)) d
  | .nev, _, _ => .bad
  | .frz i, env, d => match env.getO i with
    | some xs => .ofE (env.put i (.sh (.lst xs))) d
    | none => .bad
  | .app i e, env, d => match env.getO i with
    | some xs => (ev cf e env d).out fun x d => if xs.length < lim then .ofE (env.put i (.ow (xs ++ [x]))) d else .bad
    | none => .bad
  | .sti i a e, env, d => (ev cf e env d).out fun x d => match env.getO i with
    | some xs => (ev cf a env d).out fun y d => match y with
      | .int k => match ixP xs.length k with
        | some j => .ofE (env.put i (.ow (xs.set j x))) d
        | none => .bad
      | _ => .bad
    | none => .bad
  | .swp i a b, env, d => (ev cf b env d).out fun y d => (ev cf a env d).out fun x d => match env.getO i, x, y with
    | some xs, .int k, .int l => match ixP xs.length k, ixP xs.length l with
      | some p, some q => .ofE (env.put i (.ow ((xs.set p (xs.getD q .non)).set q (xs.getD p .non)))) d
      | _, _ => .bad
    | _, _, _ => .bad
  | .ret e, env, d => (ev cf e env d).out fun x d => .rt x d
  | .ifs c a b, env, d => (ev cf c env d).out fun x d => match truth x with
    | some true => evS cf a env d
    | some false => evS cf b env d
    | none => .bad
  | .fors tg it b, env, d => (ev cf it env d).out fun x d => match items x with
    | some l => forLoop tg (fun env d => evS cf b env d) l env d
    | none => .bad
  | .whl n c b, env, d => whileLoop (fun env d => ev cf c env d) (fun env d => evS cf b env d) n env d
  | .ex e, env, d => (ev cf e env d).out fun _ d => .nx env d
  | .rse c, _, d => .er c d
  | .ownR i z e, env, d => (ev cf e env d).out fun x d => match x with
    | .int k => if decide (0 ≤ k) && decide (k ≤ 1000) then .ofE (env.put i (.ow (List.replicate k.toNat (.int z)))) d else .bad
    | _ => .bad
  | .aug i e, env, d => match env.get i with
    | some (.int a) => (ev cf e env d).out fun x d => match x with
      | .int b => .ofE (env.put i (.sh (.int (a + b)))) d
      | _ => .bad
    | _ => .bad
  | .dst i j e, env, d => match env.get i with
    | some .die => (ev cf e env d).out fun x d => match x with
      | .int z => if j = 0 then .nx env (z, d.2) else if j = 1 then .nx env (d.1, z) else .bad
      | _ => .bad
    | _ => .bad
structure Df where
  ps : Nat
  n : Nat
  body : S
def Out.res : Out → Res D
  | .nx _ d => .ok .non d
  | .rt v d => .ok v d
  | .er c d => .err c d
  | .bad => .bad
def startE (n : Nat) (xs : List D) : Env := xs.map .sh ++ List.replicate (n - xs.length) .no
def drawn (cell k : Int) : Int :=
  let a := (cell * 6364136223846793005 + (k + 1) * 1442695040888963407).fmod 340282366920938463463374607431768211507
  let b := (a * a).fmod 340282366920938463463374607431768211297
  let c := (b.fmod 18446744073709551557 + 1) * (b.fdiv 18446744073709551557 + 1) * b
  c.fmod 340282366920938463463374607431768211507
def roll (d : Dice) (m : Int) : Int × Dice :=
  if d.1 ≥ 10 ^ 18 then (d.1.fmod m, (d.1.fdiv m, d.2))
  else (((drawn d.1 (d.2 + 1)).fdiv 8).fmod m, (d.1, d.2 + 1))
def evCall (defs : Nat → Option Df) : Nat → CF
  | 0, _, _, _ => .bad
  | k + 1, f, xs, d => match defs f with
    | some df => if xs.length = df.ps then (evS (evCall defs k) df.body (startE df.n xs) d).res else .bad
    | none => .bad
end SG
namespace SG
open PySem PySem.Spec PyProof.Rows L2
structure Cn where
  dc : Addr
  T : List (Addr × Str)
  cl : Nat → Addr
mutual
inductive Dq (dc : Addr) (F : Addr → Prop) (H : Hp) : V → D → Prop
  | non : Dq dc F H .non .non
  | bl (b : Bool) : Dq dc F H (.bl b) (.bl b)
  | int (i : Int) : Dq dc F H (.int i) (.int i)
  | str (s : List Nat) (h : ∀ c ∈ s, c < 128) : Dq dc F H (.str ⟨s.toArray⟩) (.str s)
  | tup {a : Addr} {xs : List V} {ds : List D} (h : H a = some (.tup xs)) (r : DqA dc F H xs ds) : Dq dc F H (.ref a) (.tup ds)
  | lst {a : Addr} {xs : List V} {ds : List D} (f : F a) (h : H a = some (.lst xs)) (r : DqA dc F H xs ds) : Dq dc F H (.ref a) (.lst ds)
  | die : Dq dc F H (.ref dc) .die
inductive DqA (dc : Addr) (F : Addr → Prop) (H : Hp) : List V → List D → Prop
  | nil : DqA dc F H [] []
  | cons {v : V} {vs : List V} {d : D} {ds : List D} (r : Dq dc F H v d) (t : DqA dc F H vs ds) : DqA dc F H (v :: vs) (d :: ds)
end
structure Le (F : Addr → Prop) (H : Hp) (F' : Addr → Prop) (H' : Hp) : Prop where
  sub : ∀ b, F b → F' b
  lst : ∀ b xs, F b → H b = some (.lst xs) → H' b = some (.lst xs)
  tup : ∀ b xs, H b = some (.tup xs) → H' b = some (.tup xs)
section
variable {dc : Addr} {F F' : Addr → Prop} {H H' : Hp}
mutual
theorem Dq.mono (l : Le F H F' H') : ∀ {v : V} {d : D}, Dq dc F H v d → Dq dc F' H' v d
  | _, _, .non => .non
  | _, _, .bl b => .bl b
  | _, _, .int i => .int i
  | _, _, .str s h => .str s h
  | _, _, .tup h r => .tup (l.tup _ _ h) (DqA.mono l r)
  | _, _, .lst f h r => .lst (l.sub _ f) (l.lst _ _ f h) (DqA.mono l r)
  | _, _, .die => .die
theorem DqA.mono (l : Le F H F' H') : ∀ {v : List V} {d : List D}, DqA dc F H v d → DqA dc F' H' v d
  | _, _, .nil => .nil
  | _, _, .cons r t => .cons (Dq.mono l r) (DqA.mono l t)
end
theorem DqA.length : ∀ {vs : List V} {ds : List D}, DqA dc F H vs ds → vs.length = ds.length
  | _, _, .nil => rfl
  | _, _, .cons _ t => by simp [DqA.length t]
theorem DqA.get : ∀ {vs : List V} {ds : List D} {i : Nat} {d : D}, DqA dc F H vs ds → ds[i]? = some d → ∃ v, vs[i]? = some v ∧ Dq dc F H v d
  | _, _, _, _, .nil, e => by simp at e
  | _, _, 0, _, .cons r _, e => by simp at e; subst e; exact ⟨_, rfl, r⟩
  | _, _, i + 1, d, .cons _ t, e => by
    obtain ⟨u, h1, h2⟩ := DqA.get (i := i) (d := d) t (by simpa using e)
    exact ⟨u, by simpa using h1, h2⟩
theorem DqA.get' : ∀ {vs : List V} {ds : List D} {i : Nat} {v : V}, DqA dc F H vs ds → vs[i]? = some v → ∃ d, ds[i]? = some d ∧ Dq dc F H v d
  | _, _, _, _, .nil, e => by simp at e
  | _, _, 0, _, .cons r _, e => by simp at e; subst e; exact ⟨_, rfl, r⟩
  | _, _, i + 1, v, .cons _ t, e => by
    obtain ⟨u, h1, h2⟩ := DqA.get' (i := i) (v := v) t (by simpa using e)
    exact ⟨u, by simpa using h1, h2⟩
theorem DqA.append : ∀ {xs ys : List V} {us ws : List D}, DqA dc F H xs us → DqA dc F H ys ws → DqA dc F H (xs ++ ys) (us ++ ws)
  | _, _, _, _, .nil, s => s
  | _, _, _, _, .cons r t, s => .cons r (DqA.append t s)
theorem DqA.take : ∀ {xs : List V} {us : List D} (n : Nat), DqA dc F H xs us → DqA dc F H (xs.take n) (us.take n)
  | _, _, 0, _ => .nil
  | _, _, _ + 1, .nil => .nil
  | _, _, n + 1, .cons r t => .cons r (DqA.take n t)
theorem DqA.drop : ∀ {xs : List V} {us : List D} (n : Nat), DqA dc F H xs us → DqA dc F H (xs.drop n) (us.drop n)
  | _, _, 0, r => r
  | _, _, _ + 1, .nil => .nil
  | _, _, n + 1, .cons _ t => DqA.drop n t
theorem DqA.set {v : V} {d : D} (r : Dq dc F H v d) : ∀ {xs : List V} {us : List D} (i : Nat), DqA dc F H xs us → DqA dc F H (xs.set i v) (us.set i d)
  | _, _, _, .nil => .nil
  | _, _, 0, .cons _ t => .cons r t
  | _, _, i + 1, .cons q t => .cons q (DqA.set r i t)
theorem DqA.rep {xs : List V} {us : List D} (h : DqA dc F H xs us) : ∀ k : Nat, DqA dc F H (List.replicate k xs).flatten (List.replicate k us).flatten
  | 0 => .nil
  | k + 1 => by rw [List.replicate_succ, List.replicate_succ, List.flatten_cons, List.flatten_cons]; exact h.append (DqA.rep h k)
theorem DqA.reverse {xs : List V} {us : List D} (h : DqA dc F H xs us) : DqA dc F H xs.reverse us.reverse := by
  have aux : ∀ (xs : List V) (us : List D) (as : List V) (bs : List D), DqA dc F H xs us → DqA dc F H as bs → DqA dc F H (xs.reverseAux as) (us.reverseAux bs) := by
    intro xs
    induction xs with
    | nil => intro us as bs h h2; cases h; exact h2
    | cons x xs ih => intro us as bs h h2; cases h with | cons r t => rename_i d ds; exact ih ds (x :: as) (d :: bs) t (.cons r h2)
  exact aux _ _ _ _ h .nil
theorem DqA.of : ∀ {vs : List V} {ds : List D}, vs.length = ds.length → (∀ (i : Nat) v d, vs[i]? = some v → ds[i]? = some d → Dq dc F H v d) → DqA dc F H vs ds
  | [], [], _, _ => .nil
  | v :: vs, d :: ds, hl, h => .cons (h 0 v d rfl rfl) (DqA.of (by simpa using hl) fun i v' d' e1 e2 => h (i + 1) v' d' (by simpa using e1) (by simpa using e2))
  | [], _ :: _, hl, _ => by simp at hl
  | _ :: _, [], hl, _ => by simp at hl
theorem DqA.snoc {vs : List V} {ds : List D} {v : V} {d : D} (h : DqA dc F H vs ds) (r : Dq dc F H v d) : DqA dc F H (vs ++ [v]) (ds ++ [d]) := h.append (.cons r .nil)
end
def Nn (H : Hp) (b : Addr) : Prop := ∀ o, H b = some o → ∃ ps, o = .tbl ps
structure Step (dc : Addr) (F : Addr → Prop) (H : Hp) (F' : Addr → Prop) (H' : Hp) : Prop where
  sub : ∀ b, F b → F' b
  new : ∀ b, F' b → F b ∨ Nn H b ∨ b = dc
  keep : ∀ b o, H b = some o → b ≠ dc → (∀ ps, o ≠ .tbl ps) → H' b = some o
structure Wf (c : Cn) (F : Addr → Prop) (H : Hp) (d : Dice) : Prop where
  dom : ∀ b, F b → ∃ xs, H b = some (.lst xs)
  nd : ¬ F c.dc
  die : H c.dc = some (.lst [.int d.1, .int d.2])
  tabs : LamX.Tabs c.T H
section
variable {c : Cn} {F F1 F2 : Addr → Prop} {H H1 H2 : Hp} {d d1 d2 : Dice}
theorem Nn.of {H : Hp} {b : Addr} (h : H b = none) : Nn H b := fun o e => by rw [h] at e; cases e
theorem Nn.not {H : Hp} {b : Addr} {xs : List V} (n : Nn H b) (h : H b = some (.lst xs)) : False := by obtain ⟨ps, e⟩ := n _ h; cases e
theorem Nn.ne {H : Hp} {p b : Addr} {o : HO} (n : Nn H p) (e : H b = some o) (t : ∀ ps, o ≠ .tbl ps) : b ≠ p := fun z => by subst z; obtain ⟨ps, q⟩ := n _ e; exact t ps q
theorem Step.refl {dc : Addr} : Step dc F H F H := ⟨fun _ h => h, fun _ h => .inl h, fun _ _ h _ _ => h⟩
theorem Step.back {dc x : Addr} (s : Step dc F H F1 H1) (n : x ≠ dc) (z : Nn H1 x) : Nn H x := fun o e => Classical.byContradiction fun hn => hn (z o (s.keep x o e n fun ps q => hn ⟨ps, q⟩))
theorem Step.trans {dc : Addr} (a : Step dc F H F1 H1) (b : Step dc F1 H1 F2 H2) : Step dc F H F2 H2 :=
  ⟨fun x h => b.sub x (a.sub x h), fun x h => (b.new x h).elim (fun z => a.new x z) (fun z => .inr (if hx : x = dc then .inr hx else .inl (a.back hx (z.elim id fun q => absurd q hx)))), fun x o h n t => b.keep x o (a.keep x o h n t) n t⟩
theorem Step.le (s : Step c.dc F H F1 H1) (w : Wf c F H d) : Le F H F1 H1 :=
  ⟨s.sub, fun b xs f e => s.keep b _ e (fun z => w.nd (z ▸ f)) (by intro ps z; cases z), fun b xs e => s.keep b _ e (fun z => by rw [z, w.die] at e; cases e) (by intro ps z; cases z)⟩
theorem Wf.fresh_ne (w : Wf c F H d) {p : Addr} (hp : H p = none) : p ≠ c.dc := fun z => by rw [z, w.die] at hp; cases hp
theorem Wf.fresh_F (w : Wf c F H d) {p : Addr} (hp : H p = none) : ¬ F p := fun z => by obtain ⟨o, e⟩ := w.dom p z; rw [hp] at e; cases e
theorem upd_keep {p : Addr} {o : HO} (hp : H p = none) : ∀ b q, H b = some q → upd H p o b = some q := fun b q e => by rw [upd_ne (ne_of_none e hp)]; exact e
theorem Step.new' {dc : Addr} {p : Addr} {o : HO} (hp : H p = none) : Step dc F H F (upd H p o) :=
  ⟨fun _ h => h, fun _ h => .inl h, fun b q e _ _ => upd_keep hp b q e⟩
theorem Wf.new' (w : Wf c F H d) {p : Addr} {o : HO} (hp : H p = none) : Wf c F (upd H p o) d :=
  ⟨fun b f => by obtain ⟨q, e⟩ := w.dom b f; exact ⟨q, upd_keep hp b _ e⟩, w.nd, upd_keep hp _ _ w.die, w.tabs.ext (upd_keep hp)⟩
def addF (F : Addr → Prop) (p : Addr) : Addr → Prop := fun b => F b ∨ b = p
theorem Step.newF {dc : Addr} {p : Addr} {o : HO} (hp : H p = none) : Step dc F H (addF F p) (upd H p o) :=
  ⟨fun _ h => .inl h, fun b h => h.elim .inl fun z => .inr (.inl (.of (z ▸ hp))), fun b q e _ _ => upd_keep hp b q e⟩
theorem Wf.newF (w : Wf c F H d) {p : Addr} {xs : List V} (hp : H p = none) : Wf c (addF F p) (upd H p (.lst xs)) d :=
  ⟨fun b f => f.elim (fun f => (w.new' hp).dom b f) fun z => ⟨xs, by rw [z, upd_same]⟩, fun z => z.elim w.nd fun e => w.fresh_ne hp e.symm, (w.new' hp).die, (w.new' hp).tabs⟩
theorem le_new {p : Addr} {o : HO} (hp : H p = none) : Le F H F (upd H p o) := ⟨fun _ h => h, fun b xs _ e => upd_keep hp b _ e, fun b xs e => upd_keep hp b _ e⟩
theorem le_newF {p : Addr} {o : HO} (hp : H p = none) : Le F H (addF F p) (upd H p o) := ⟨fun _ h => .inl h, fun b xs _ e => upd_keep hp b _ e, fun b xs e => upd_keep hp b _ e⟩
theorem Dq.newT (w : Wf c F H d) {p : Addr} {xs : List V} {ds : List D} (hp : H p = none) (r : DqA c.dc F H xs ds) : Dq c.dc F (upd H p (.tup xs)) (.ref p) (.tup ds) := .tup upd_same (r.mono (le_new hp))
theorem Dq.newL (w : Wf c F H d) {p : Addr} {xs : List V} {ds : List D} (hp : H p = none) (r : DqA c.dc F H xs ds) : Dq c.dc (addF F p) (upd H p (.lst xs)) (.ref p) (.lst ds) := .lst (.inr rfl) upd_same (r.mono (le_newF hp))
end
def Aft (c : Cn) (F : Addr → Prop) (H : Hp) (d : Dice) (x : D) (Q : VK) : Prop := ∀ v H' F', Step c.dc F H F' H' → Wf c F' H' d → Dq c.dc F' H' v x → Q v H'
section
variable {c : Cn} {F : Addr → Prop} {H : Hp} {d : Dice} {Q : VK}
theorem Aft.here {x : D} {v : V} (a : Aft c F H d x Q) (w : Wf c F H d) (r : Dq c.dc F H v x) : Q v H := a v H F .refl w r
theorem Aft.newT {xs : List V} {ds : List D} (a : Aft c F H d (.tup ds) Q) (w : Wf c F H d) (r : DqA c.dc F H xs ds) : ∀ p, H p = none → Q (.ref p) (upd H p (.tup xs)) := fun p hp => a _ _ F (.new' hp) (w.new' hp) (.newT w hp r)
theorem Aft.newL {xs : List V} {ds : List D} (a : Aft c F H d (.lst ds) Q) (w : Wf c F H d) (r : DqA c.dc F H xs ds) : ∀ p, H p = none → Q (.ref p) (upd H p (.lst xs)) := fun p hp => a _ _ (addF F p) (.newF hp) (w.newF hp) (.newL w hp r)
end
theorem lim_line : lim ≤ sizeLine := by rw [sizeLine_eq]; decide
mutual
theorem dep_py : ∀ {x : D}, x.dep ≤ 64 → x.py.depth = x.dep
  | .non, _ => by simp [D.py, D.dep, PyData.depth]
  | .bl _, _ => by simp [D.py, D.dep, PyData.depth]
  | .int _, _ => by simp [D.py, D.dep, PyData.depth]
  | .str _, _ => by simp [D.py, D.dep, PyData.depth]
  | .die, h => by simp [D.dep] at h
  | .tup xs, h => by
    have h' : D.deps xs ≤ 64 := by simp [D.dep] at h; omega
    simp [D.py, D.dep, PyData.depth, deps_py h']
  | .lst xs, h => by
    have h' : D.deps xs ≤ 64 := by simp [D.dep] at h; omega
    simp [D.py, D.dep, PyData.depth, deps_py h']
theorem deps_py : ∀ {xs : List D}, D.deps xs ≤ 64 → PyData.depthAll (D.pys xs) = D.deps xs
  | [], _ => by simp [D.pys, D.deps, PyData.depthAll]
  | x :: xs, h => by
    have h' : D.dep x ≤ 64 ∧ D.deps xs ≤ 64 := by simp [D.deps] at h; omega
    simp [D.pys, D.deps, PyData.depthAll, dep_py h'.1, deps_py h'.2]
end
mutual
theorem eq_py : ∀ (x y : D), x.dep ≤ 64 → y.dep ≤ 64 → PyData.eqv x.py y.py = D.eq x y
  | .die, _, h, _ => by simp [D.dep] at h
  | .non, y, _, h => by cases y <;> simp_all [D.py, D.eq, PyData.eqv, D.dep]
  | .bl _, y, _, h => by cases y <;> simp_all [D.py, D.eq, PyData.eqv, D.dep]
  | .int _, y, _, h => by cases y <;> simp_all [D.py, D.eq, PyData.eqv, D.dep]
  | .str s, y, _, h => by
    cases y with
    | str t =>
      simp only [D.py, D.eq, PyData.eqv]
      by_cases e : s = t
      · subst e; simp
      · rw [beq_eq_false_iff_ne.mpr e, beq_eq_false_iff_ne]
        intro z
        have z' := congrArg (fun a : Str => a.cps.toList) z
        exact e (by simpa using z')
    | _ => simp_all [D.py, D.eq, PyData.eqv, D.dep]
  | .tup xs, y, h0, h => by
    have h' : D.deps xs ≤ 64 := by simp [D.dep] at h0; omega
    cases y with
    | tup ys =>
      have h2 : D.deps ys ≤ 64 := by simp [D.dep] at h; omega
      simp [D.py, D.eq, PyData.eqv, eqs_py xs ys h' h2]
    | _ => simp_all [D.py, D.eq, PyData.eqv, D.dep]
  | .lst xs, y, h0, h => by
    have h' : D.deps xs ≤ 64 := by simp [D.dep] at h0; omega
    cases y with
    | lst ys =>
      have h2 : D.deps ys ≤ 64 := by simp [D.dep] at h; omega
      simp [D.py, D.eq, PyData.eqv, eqs_py xs ys h' h2]
    | _ => simp_all [D.py, D.eq, PyData.eqv, D.dep]
theorem eqs_py : ∀ (xs ys : List D), D.deps xs ≤ 64 → D.deps ys ≤ 64 → PyData.eqvAll (D.pys xs) (D.pys ys) = D.eqs xs ys
  | [], [], _, _ => by simp [D.pys, D.eqs, PyData.eqvAll]
  | x :: xs, [], _, _ => by simp [D.pys, D.eqs, PyData.eqvAll]
  | [], y :: ys, _, _ => by simp [D.pys, D.eqs, PyData.eqvAll]
  | x :: xs, y :: ys, h, h2 => by
    have h' : D.dep x ≤ 64 ∧ D.deps xs ≤ 64 := by simp [D.deps] at h; omega
    have h2' : D.dep y ≤ 64 ∧ D.deps ys ≤ 64 := by simp [D.deps] at h2; omega
    simp [D.pys, D.eqs, PyData.eqvAll, eq_py x y h'.1 h2'.1, eqs_py xs ys h'.2 h2'.2]
end
theorem strOk_ascii {s : List Nat} (h : ∀ c ∈ s, c < 128) : PyData.strOk ⟨s.toArray⟩ = true := by
  unfold PyData.strOk
  rw [Array.all_eq_true']
  intro x hx
  have := h x (by simpa using hx)
  exact decide_eq_true (by omega)
section
variable {dc : Addr} {F : Addr → Prop} {H : Hp} {K : PySem.W.Frag}
mutual
theorem Dq.dp : ∀ {v : V} {x : D}, Dq dc F H v x → x.dep ≤ 64 → Dp K H v x.py
  | _, _, .non, _ => .non
  | _, _, .bl b, _ => .bl b
  | _, _, .int i, _ => .int i
  | _, _, .str s h, _ => .str _
  | _, .tup ds, .tup h r, g => .tup (SqT.of h) (DqA.dp r (by simp [D.dep] at g; omega))
  | _, .lst ds, .lst f h r, g => .lst (SqL.of h) (DqA.dp r (by simp [D.dep] at g; omega))
  | _, _, .die, g => by simp [D.dep] at g
theorem DqA.dp : ∀ {v : List V} {x : List D}, DqA dc F H v x → D.deps x ≤ 64 → DpAll K H v (D.pys x)
  | _, _, .nil, _ => .nil
  | _, d :: ds, .cons r t, g => .cons (Dq.dp r (by simp [D.deps] at g; omega)) (DqA.dp t (by simp [D.deps] at g; omega))
end
mutual
theorem Dq.lay : ∀ {v : V} {x : D}, Dq dc F H v x → x.dep ≤ 64 → x.py.canLay0 = true
  | _, _, .non, _ => by simp [D.py, PyData.canLay0]
  | _, _, .bl b, _ => by simp [D.py, PyData.canLay0]
  | _, _, .int i, _ => by simp [D.py, PyData.canLay0]
  | _, _, .str s h, _ => by simp [D.py, PyData.canLay0, strOk_ascii h]
  | _, .tup ds, .tup h r, g => by simp [D.py, PyData.canLay0, DqA.lay r (by simp [D.dep] at g; omega)]
  | _, .lst ds, .lst f h r, g => by simp [D.py, PyData.canLay0, DqA.lay r (by simp [D.dep] at g; omega)]
  | _, _, .die, g => by simp [D.dep] at g
theorem DqA.lay : ∀ {v : List V} {x : List D}, DqA dc F H v x → D.deps x ≤ 64 → PyData.canLayAll0 (D.pys x) = true
  | _, _, .nil, _ => by simp [D.pys, PyData.canLayAll0]
  | _, d :: ds, .cons r t, g => by simp [D.pys, PyData.canLayAll0, Dq.lay r (by simp [D.deps] at g; omega), DqA.lay t (by simp [D.deps] at g; omega)]
end
theorem Dq.shaped {v : V} {x : D} (r : Dq dc F H v x) (g : x.dep ≤ 64) : SeqAt.shaped x.py = true := by
  unfold SeqAt.shaped
  rw [r.lay g, dep_py g, decide_eq_true g]; rfl
end
end SG
namespace SG
open PySem PySem.Spec PyProof.Rows L2
def R2D (c : Cn) (f : D → D → Option D) : R2 := fun x y H Q => ∃ F d a b z, Wf c F H d ∧ Dq c.dc F H x a ∧ Dq c.dc F H y b ∧ f a b = some z ∧ Aft c F H d z Q
theorem OpR.imp {X : Cx} {f : Value → Value → Sem Value} {r r' : R2} (h : OpR X f r) (i : ∀ x y H Q, r' x y H Q → r x y H Q) : OpR X f r' := fun pins s σ H x y v u Q I rx ry q => h pins s σ H x y v u Q I rx ry (i x y H Q q)
section
variable {X : Cx} {c : Cn}
theorem small_log {i : Int} (h : smallI i = true) : i.natAbs.log2 < 8000 := PySem.Flt.log2_lt_of (by decide) (of_decide_eq_true h)
theorem op_fdivX : OpR X (binaryOp .FloorDiv) (rI (fun _ j => j ≠ 0 ∧ j.natAbs.log2 < 9000) fun i j => .int (i.fdiv j)) := opI fun _ _ _ _ _ _ _ hc q => floordiv_int hc.1 q (.inl (PyProof.noPylong_of_log2 hc.2))
theorem bop_sub : OpR X (binaryOp .Sub) (R2D c (opBin .sub)) := OpR.imp op_sub fun x y H Q ⟨F, d, a, b, z, w, ra, rb, e, k⟩ => by
  cases a <;> cases b <;> simp [opBin] at e
  cases ra; cases rb; subst e
  exact ⟨_, _, rfl, rfl, k.here w (.int _)⟩
theorem bop_fdiv : OpR X (binaryOp .FloorDiv) (R2D c (opBin .fdiv)) := OpR.imp op_fdivX fun x y H Q ⟨F, d, a, b, z, w, ra, rb, e, k⟩ => by
  cases a <;> cases b <;> simp [opBin] at e
  cases ra; cases rb
  obtain ⟨⟨h1, h2⟩, e⟩ := e
  subst e
  exact ⟨_, _, rfl, rfl, ⟨h1, Nat.lt_trans (small_log h2) (by decide)⟩, k.here w (.int _)⟩
theorem bop_mod : OpR X (binaryOp .Mod) (R2D c (opBin .mod)) := OpR.imp op_modN fun x y H Q ⟨F, d, a, b, z, w, ra, rb, e, k⟩ => by
  cases a <;> cases b <;> simp [opBin] at e
  cases ra; cases rb
  obtain ⟨h1, e⟩ := e
  subst e
  exact ⟨_, _, rfl, rfl, h1, k.here w (.int _)⟩
theorem bop_pow : OpR X (binaryOp .Pow) (R2D c (opBin .pow)) := OpR.imp op_pow fun x y H Q ⟨F, d, a, b, z, w, ra, rb, e, k⟩ => by
  cases a <;> cases b <;> simp [opBin] at e
  cases ra; cases rb
  obtain ⟨⟨⟨h1, h2⟩, h3⟩, e⟩ := e
  subst e
  refine ⟨_, _, rfl, rfl, ⟨h1, by omega, ?_⟩, k.here w (.int _)⟩
  exact Nat.lt_of_lt_of_le h3 (by decide)
theorem str_app (a b : List Nat) : (⟨a.toArray⟩ : Str) ++ (⟨b.toArray⟩ : Str) = ⟨(a ++ b).toArray⟩ := by
  show Str.append _ _ = _
  simp [Str.append]
theorem str_len (a : List Nat) : (⟨a.toArray⟩ : Str).length = a.length := by simp [Str.length]
theorem vec_lt {a b : List Nat} (h : ∀ c ∈ a, c < 128) (h2 : ∀ c ∈ b, c < 128) : ∀ c ∈ a ++ b, c < 128 := fun c hc => (List.mem_append.mp hc).elim (h c) (h2 c)
theorem bop_add : OpR X (binaryOp .Add) (R2D c (opBin .add)) := OpR.imp (OpR.or op_add (OpR.or op_add_str (OpR.or op_catA op_cat))) fun x y H Q ⟨F, d, a, b, z, w, ra, rb, e, k⟩ => by
  cases a <;> cases b <;> simp [opBin] at e
  · cases ra; cases rb; subst e
    exact .inl ⟨_, _, rfl, rfl, k.here w (.int _)⟩
  · cases ra with | str s h => cases rb with | str t h2 =>
    unfold mkS at e
    split at e <;> cases e
    rename_i hl
    refine .inr (.inl ⟨_, _, rfl, rfl, ?_, ?_⟩)
    · rw [str_len, str_len]; have := lim_line; rw [List.length_append] at hl; omega
    · rw [str_app]; exact k.here w (.str _ (vec_lt h h2))
  · cases ra with | tup ha r => cases rb with | tup hb r2 =>
    unfold mkT at e
    split at e <;> cases e
    rename_i hl
    rw [List.length_append, ← r.length, ← r2.length] at hl
    refine .inr (.inr (.inl ⟨_, _, _, _, rfl, rfl, SqT.of ha, SqT.of hb, ?_, fun z => ?_, fun _ z => ?_, fun _ _ => ?_⟩))
    · have := lim_line; omega
    · subst z; cases r; exact k.here w (.tup hb r2)
    · subst z; cases r2; rw [List.append_nil] at k; exact k.here w (.tup ha r)
    · exact k.newT w (r.append r2)
  · cases ra with | lst fa ha r => cases rb with | lst fb hb r2 =>
    unfold mkL at e
    split at e <;> cases e
    rename_i hl
    rw [List.length_append, ← r.length, ← r2.length] at hl
    refine .inr (.inr (.inr ⟨_, _, _, _, rfl, rfl, ha, hb, ?_, ?_⟩))
    · have := lim_line; omega
    · exact k.newL w (r.append r2)
theorem rep_mem {α : Type} {n : Int} {xs : List α} {x : α} (h : x ∈ rep n xs) : x ∈ xs := by
  unfold rep at h
  obtain ⟨l, hl, hx⟩ := List.mem_flatten.mp h
  rw [(List.mem_replicate.mp hl).2] at hx
  exact hx
theorem foldl_arr (a : List Nat) : ∀ (n : Nat) (b : List Nat), List.foldl (· ++ ·) b.toArray (List.replicate n a.toArray) = (b ++ (List.replicate n a).flatten).toArray
  | 0, b => by simp
  | n + 1, b => by
    rw [List.replicate_succ, List.foldl_cons, show b.toArray ++ a.toArray = (b ++ a).toArray by simp, foldl_arr a n (b ++ a), List.replicate_succ, List.flatten_cons, List.append_assoc]
theorem txt_mul {s : List Nat} {n : Int} (h : 0 ≤ n) : Txt.mul ⟨s.toArray⟩ n = ⟨(rep n s).toArray⟩ := by
  unfold Txt.mul rep
  by_cases h1 : n < 1
  · have : n = 0 := by omega
    subst this
    simp [Str.empty]
  · rw [if_neg h1]
    split
    · rename_i hc
      simp only [Bool.or_eq_true, beq_iff_eq, str_len] at hc
      rcases hc with hc | hc
      · subst hc; simp
      · have : s = [] := List.eq_nil_of_length_eq_zero hc
        subst this; simp
    · have := foldl_arr s n.toNat []
      simp only [List.nil_append] at this
      exact congrArg Str.mk this
theorem op_mulS : OpR X (binaryOp .Mult) (fun x y H Q => ∃ (s : List Nat) (n : Int), x = .str ⟨s.toArray⟩ ∧ y = .int n ∧ 0 ≤ n ∧ n ≤ 1000 ∧ s.length ≤ 1000 ∧ Q (.str ⟨(rep n s).toArray⟩) H) := by
  intro pins s σ H x y v u Q I rx ry h
  obtain ⟨a, n, rfl, rfl, h0, h1, h2, q⟩ := h
  obtain ⟨t, rfl⟩ := rx
  obtain ⟨t', rfl⟩ := ry
  refine SB.mul ⟨?_, fun g _ => ?_, fun g _ => ?_⟩ fun t' k => ?_
  · rw [decide_eq_false (by omega), decide_eq_false (by omega)]; rfl
  · rw [str_len]
    have hd : (1000 : Int) ≤ (2 ^ 63 - 1) / n := by
      refine (Int.le_ediv_iff_mul_le (by omega)).mpr ?_
      omega
    omega
  · rw [str_len]
    have : a.length * n.toNat ≤ 1000 * 1000 := Nat.mul_le_mul h2 (by omega)
    unfold Builtin.Str.tooLong
    have e := sizeLine_eq
    exact decide_eq_false (by omega)
  · rw [txt_mul h0]; exact ⟨.str _, H, I.tok _, ⟨_, rfl⟩, q⟩
open AutoSeq1 in
theorem tuple_mul1 (l : Addr) (items : Array Value) (n : Nat) (sl : Array (Option Value)) (dd : Option Addr) (u : Tok) :
    Meets (Builtin.«tuple.__mul__» ⟨[.ref l, .int 1 u], []⟩) (fun _ R s => s.heap.get? l = some { cls := .type "tuple", dict := dd, data := .seq items n, slots := sl } ∧ R (.ok (.ret (Value.ref l))) s) :=
  .of_wp fun prog w A R s h => by
    obtain ⟨hp, g, d, tk, os⟩ := s
    obtain ⟨hl, h⟩ := h
    have f1 := AutoSeq1.idx_int
    have c1 : (items.isEmpty || (1 : Int) == 1) = true := by simp
    wp_walk using wpAny_loadPart' hl
    repeat (first
      | (refine wpAny_ite_true (decide_eq_true (by exact c1)) ?_; wp_walk using wpAny_loadPart' hl)
      | (refine wpAny_ite_false (decide_eq_false (by decide)) ?_; wp_walk using wpAny_loadPart' hl))
    exact ⟨_, rfl, h⟩
theorem op_rep1 : OpR X (binaryOp .Mult) (fun x y H Q => ∃ l xs, x = .ref l ∧ y = .int 1 ∧ SqT X.K H l xs ∧ Q (.ref l) H) := by
  intro pins s σ H x y v u Q I rx ry h
  obtain ⟨l, xs, rfl, rfl, hT, q⟩ := h
  cases rx
  obtain ⟨t, rfl⟩ := ry
  obtain ⟨its, r, ⟨⟨cls, dd, data, sl⟩, ho, hc, n, hd⟩, hs⟩ := I.tuple hT
  simp only at hc hd
  subst hc hd
  refine wpAny_binaryOp_repeat_ref (T := "tuple") (U := "int") (by decide) ⟨_, ho, rfl⟩ (fun s' => typeIs_int s' 1 t) noFill_tuple_mul F.fills_int_mul F.slot_int_rmul repeat_tuple F.slot_int_index.lookup
    (call_meets F.slot_int_rmul (typeIs_int s 1 t) F.entry_int_rmul (F.args_int_rmul_2 _ _) (int_rmul_tuple 1 t l its.toArray n dd sl)
      ⟨ho, rfl, ⟨_, ho, rfl⟩, call_meets F.slot_tuple_mul ⟨_, ho, rfl⟩ F.entry_tuple_mul (F.args_tuple_mul_2 _ _) (tuple_mul1 l its.toArray n sl dd t) ⟨ho, ?_⟩⟩)
  exact ⟨.ref l, H, I, rfl, q⟩
open AutoSeq1 in
theorem tuple_mul0 (l : Addr) (items : Array Value) (n : Nat) (sl : Array (Option Value)) (dd : Option Addr) (u : Tok) (hne : items.isEmpty = false) :
    Meets (Builtin.«tuple.__mul__» ⟨[.ref l, .int 0 u], []⟩) (fun _ R s => s.heap.get? l = some { cls := .type "tuple", dict := dd, data := .seq items n, slots := sl } ∧
      R (.ok (.ret (Value.ref s.heap.objs.size))) { s with heap := s.heap.push { cls := Value.type "tuple", data := Data.seq #[] }, toks := s.toks }) :=
  .of_wp fun prog w A R s h => by
    obtain ⟨hp, g, d, tk, os⟩ := s
    obtain ⟨hl, h⟩ := h
    have f1 := AutoSeq1.idx_int
    have c1 : (items.isEmpty || (0 : Int) == 1) = false := by rw [hne]; rfl
    have c2 : (decide ((0 : Int) ≤ 0) || items.isEmpty) = true := rfl
    wp_walk using wpAny_loadPart' hl
    repeat (first
      | (refine wpAny_ite_false (decide_eq_false (by rw [c1]; exact Bool.false_ne_true)) ?_; wp_walk using wpAny_loadPart' hl)
      | (refine wpAny_ite_true (decide_eq_true (by exact c2)) ?_; wp_walk using wpAny_loadPart' hl)
      | (refine wpAny_ite_false (decide_eq_false (by decide)) ?_; wp_walk using wpAny_loadPart' hl))
    exact ⟨_, rfl, h⟩
theorem op_rep0 : OpR X (binaryOp .Mult) (fun x y H Q => ∃ l xs, x = .ref l ∧ y = .int 0 ∧ SqT X.K H l xs ∧ xs ≠ [] ∧ ∀ p, H p = none → Q (.ref p) (upd H p (.tup []))) := by
  intro pins s σ H x y v u Q I rx ry h
  obtain ⟨l, xs, rfl, rfl, hT, hne, q⟩ := h
  cases rx
  obtain ⟨t, rfl⟩ := ry
  obtain ⟨its, r, ⟨⟨cls, dd, data, sl⟩, ho, hc, n, hd⟩, hs⟩ := I.tuple hT
  simp only at hc hd
  subst hc hd
  have hle : its.length = xs.length := r.length.symm
  have hi : its.toArray.isEmpty = false := by
    cases its with
    | nil => exact absurd (List.eq_nil_of_length_eq_zero hle.symm) hne
    | cons a b => rfl
  refine wpAny_binaryOp_repeat_ref (T := "tuple") (U := "int") (by decide) ⟨_, ho, rfl⟩ (fun s' => typeIs_int s' 0 t) noFill_tuple_mul F.fills_int_mul F.slot_int_rmul repeat_tuple F.slot_int_index.lookup
    (call_meets F.slot_int_rmul (typeIs_int s 0 t) F.entry_int_rmul (F.args_int_rmul_2 _ _) (int_rmul_tuple 0 t l its.toArray n dd sl)
      ⟨ho, rfl, ⟨_, ho, rfl⟩, call_meets F.slot_tuple_mul ⟨_, ho, rfl⟩ F.entry_tuple_mul (F.args_tuple_mul_2 _ _) (tuple_mul0 l its.toArray n sl dd t hi) ⟨ho, ?_⟩⟩)
  refine ⟨.ref s.heap.objs.size, _, I.laid (t' := s.toks) (o := .tup []) (fun b ob q => Heap.get?_push_of_some _ q) (Nat.le_refl _) ?_, rfl, q _ (I.hok.fresh (Nat.le_refl _))⟩
  exact ⟨Nat.zero_le _, _, .nil, IsTup.new _ _⟩
theorem bop_mul : OpR X (binaryOp .Mult) (R2D c (opBin .mul)) := OpR.imp (OpR.or (OpR.or op_mul op_mulW) (OpR.or op_mulS (OpR.or (OpR.or (OpR.or op_rep0 op_rep1) op_repT) op_rep))) fun x y H Q ⟨F, d, a, b, z, w, ra, rb, e, k⟩ => by
  cases a <;> cases b <;> simp [opBin] at e
  · cases ra; cases rb
    obtain ⟨h0, e⟩ := e
    subst e
    unfold mulOk s64 at h0
    simp only [Bool.or_eq_true, Bool.and_eq_true, decide_eq_true_eq] at h0
    rcases h0 with h0 | ⟨h1, h2⟩
    · exact .inl (.inl ⟨_, _, rfl, rfl, h0, k.here w (.int _)⟩)
    · have a1 := small_log h1
      have a2 := small_log h2
      refine .inl (.inr ⟨_, _, rfl, rfl, ?_, k.here w (.int _)⟩)
      unfold CMulW
      omega
  · cases rb; cases ra with | str s h =>
    obtain ⟨⟨⟨h1, h2⟩, h3⟩, e⟩ := e
    subst e
    exact .inr (.inl ⟨_, _, rfl, rfl, h1, h2, h3, k.here w (.str _ fun c hc => h c (rep_mem hc))⟩)
  · cases rb; cases ra with | tup ha r =>
    obtain ⟨⟨⟨⟨h1, h2⟩, h3⟩, h4⟩, e⟩ := e
    subst e
    rename_i j _ _ _
    have hne' : ∀ {vs : List V} {ds : List D}, DqA c.dc F H vs ds → ¬ ds = [] → vs ≠ [] := fun r h z => by
      subst z
      cases r
      simp at h
    have hne := hne' r h4
    by_cases hj0 : j = 0
    · subst hj0
      exact .inr (.inr (.inl (.inl (.inl ⟨_, _, rfl, rfl, SqT.of ha, hne, k.newT w .nil⟩))))
    by_cases hj : j = 1
    · subst hj
      refine .inr (.inr (.inl (.inl (.inr ⟨_, _, rfl, rfl, SqT.of ha, k.here w (.tup ha ?_)⟩))))
      have e1 : ∀ l : List D, rep 1 l = l := fun l => by simp [rep]
      rw [e1]
      exact r
    · refine .inr (.inr (.inl (.inr ⟨_, _, _, rfl, rfl, SqT.of ha, ?_, by omega, h2, by rw [r.length]; exact h3, k.newT w (r.rep _)⟩)))
      intro z
      subst z
      cases r
      simp at h4
  · cases rb; cases ra with | lst fa ha r =>
    obtain ⟨⟨⟨h1, h2⟩, h3⟩, e⟩ := e
    subst e
    refine .inr (.inr (.inr ⟨_, _, _, rfl, rfl, ha, by omega, by omega, ?_, k.newL w (r.rep _)⟩))
    exact Nat.le_trans (Nat.mul_le_mul (by rw [r.length]; exact h3) (by omega : _ ≤ 1000)) (by rw [sizeLine_eq]; decide)
theorem lt_py {x y : D} (h : PySem.W.alike x.py y.py = true) : D.lt x y = PySem.W.dataLt x.py y.py := by
  cases x <;> cases y <;> simp_all [D.lt, D.py, PySem.W.alike, PySem.W.dataLt_int]
theorem alike_symm_int {x y : D} (h : PySem.W.alike x.py y.py = true) : PySem.W.alike y.py x.py = true := PySem.W.alike_comm _ _ ▸ h
structure Ord (x y : D) : Prop where
  al : PySem.W.alike x.py y.py = true
  dx : x.dep ≤ 64
  dy : y.dep ≤ 64
  nn : x.py ≠ .none
theorem ord_of {x y : D} (h : D.ordB x y = true) : Ord x y := by
  unfold D.ordB at h
  simp only [Bool.and_eq_true, decide_eq_true_eq, Bool.not_eq_true'] at h
  obtain ⟨⟨⟨a, b⟩, c⟩, e⟩ := h
  refine ⟨a, b, c, ?_⟩
  cases x <;> simp_all [D.py, D.dep]
section
variable (hu : X.A.units + 66 < cLine)
include hu
theorem cop_eq : OpR X (compareOp .Eq) (R2D c fun a b => (opCmp .eq a b).map .bl) := OpR.imp (op_eqD (by omega)) fun x y H Q ⟨F, d, a, b, z, w, ra, rb, e, k⟩ => by
  simp [opCmp] at e
  obtain ⟨⟨h1, h2⟩, e⟩ := e
  subst e
  exact ⟨_, _, ra.dp h1, rb.dp h2, ra.shaped h1, rb.shaped h2, by rw [eq_py a b h1 h2]; exact k.here w (.bl _)⟩
theorem cop_ne : OpR X (compareOp .NotEq) (R2D c fun a b => (opCmp .ne a b).map .bl) := OpR.imp (op_neD (by omega)) fun x y H Q ⟨F, d, a, b, z, w, ra, rb, e, k⟩ => by
  simp [opCmp] at e
  obtain ⟨⟨h1, h2⟩, e⟩ := e
  subst e
  exact ⟨_, _, ra.dp h1, rb.dp h2, ra.shaped h1, rb.shaped h2, by rw [eq_py a b h1 h2]; exact k.here w (.bl _)⟩
theorem cop_lt : OpR X (compareOp .Lt) (R2D c fun a b => (opCmp .lt a b).map .bl) := by
  intro pins s σ H x y v u Q I rx ry ⟨F, d, a, b, z, w, ra, rb, e, k⟩
  simp [opCmp] at e
  obtain ⟨h1, e⟩ := e
  subst e
  have o := ord_of h1
  obtain ⟨as, p⟩ := Dp.reads I a.py x v (ra.dp o.dx) rx
  obtain ⟨bs, q⟩ := Dp.reads I b.py y u (rb.dp o.dy) ry
  refine PySem.W.lt_data p q o.al o.nn ?_ ⟨.bl _, H, I, rfl, ?_⟩
  · rw [dep_py o.dx, dep_py o.dy]; have := o.dx; omega
  · rw [← lt_py o.al]; exact k.here w (.bl _)
theorem cop_gt : OpR X (compareOp .Gt) (R2D c fun a b => (opCmp .gt a b).map .bl) := by
  intro pins s σ H x y v u Q I rx ry ⟨F, d, a, b, z, w, ra, rb, e, k⟩
  simp [opCmp] at e
  obtain ⟨h1, e⟩ := e
  subst e
  have o := ord_of h1
  obtain ⟨as, p⟩ := Dp.reads I a.py x v (ra.dp o.dx) rx
  obtain ⟨bs, q⟩ := Dp.reads I b.py y u (rb.dp o.dy) ry
  refine PySem.W.gt_data p q o.al o.nn ?_ ⟨.bl _, H, I, rfl, ?_⟩
  · rw [dep_py o.dx, dep_py o.dy]; have := o.dx; omega
  · rw [← lt_py (alike_symm_int o.al)]; exact k.here w (.bl _)
theorem cop_le : OpR X (compareOp .LtE) (R2D c fun a b => (opCmp .le a b).map .bl) := by
  intro pins s σ H x y v u Q I rx ry ⟨F, d, a, b, z, w, ra, rb, e, k⟩
  simp [opCmp] at e
  obtain ⟨h1, e⟩ := e
  subst e
  have o := ord_of h1
  obtain ⟨as, p⟩ := Dp.reads I a.py x v (ra.dp o.dx) rx
  obtain ⟨bs, q⟩ := Dp.reads I b.py y u (rb.dp o.dy) ry
  refine PySem.W.le_data p q o.al o.nn ?_ ⟨.bl _, H, I, rfl, ?_⟩
  · rw [dep_py o.dx, dep_py o.dy]; have := o.dx; omega
  · rw [← lt_py (alike_symm_int o.al)]; exact k.here w (.bl _)
theorem cop_ge : OpR X (compareOp .GtE) (R2D c fun a b => (opCmp .ge a b).map .bl) := by
  intro pins s σ H x y v u Q I rx ry ⟨F, d, a, b, z, w, ra, rb, e, k⟩
  simp [opCmp] at e
  obtain ⟨h1, e⟩ := e
  subst e
  have o := ord_of h1
  obtain ⟨as, p⟩ := Dp.reads I a.py x v (ra.dp o.dx) rx
  obtain ⟨bs, q⟩ := Dp.reads I b.py y u (rb.dp o.dy) ry
  refine PySem.W.ge_data p q o.al o.nn ?_ ⟨.bl _, H, I, rfl, ?_⟩
  · rw [dep_py o.dx, dep_py o.dy]; have := o.dx; omega
  · rw [← lt_py o.al]; exact k.here w (.bl _)
end
theorem flat_V {dc : Addr} {F : Addr → Prop} {H : Hp} {v : V} {x : D} (r : Dq dc F H v x) (f : flat x = true) : flatV v = true := by
  cases r <;> simp_all [flat, flatV]
theorem flat_all {dc : Addr} {F : Addr → Prop} {H : Hp} : ∀ {vs : List V} {xs : List D}, DqA dc F H vs xs → xs.all flat = true → vs.all flatV = true
  | _, _, .nil, _ => rfl
  | _, _, .cons r t, f => by
    simp only [List.all_cons, Bool.and_eq_true] at f ⊢
    exact ⟨flat_V r f.1, flat_all t f.2⟩
theorem eqV_D {dc : Addr} {F : Addr → Prop} {H : Hp} {v u : V} {x y : D} (r : Dq dc F H v x) (q : Dq dc F H u y) (f : flat x = true) (g : flat y = true) : eqV v u = D.eq x y := by
  cases r <;> cases q <;> simp_all [flat, eqV, D.eq]
  rename_i s h t h2
  by_cases e : s = t
  · subst e; simp
  · rw [beq_eq_false_iff_ne.mpr e, beq_eq_false_iff_ne]
    intro z
    exact e (by simpa using congrArg (fun a : Str => a.cps.toList) z)
theorem inV_D {dc : Addr} {F : Addr → Prop} {H : Hp} {v : V} {x : D} (r : Dq dc F H v x) (f : flat x = true) : ∀ {vs : List V} {xs : List D}, DqA dc F H vs xs → xs.all flat = true → inV v vs = xs.any fun z => D.eq z x
  | _, _, .nil, _ => rfl
  | _, _, .cons r' t, g => by
    simp only [List.all_cons, Bool.and_eq_true] at g
    have ih := inV_D r f t g.2
    unfold inV at ih ⊢
    rw [List.any_cons, List.any_cons, ih, eqV_D r' r g.1 f]
theorem pys_any {x : D} (h : x.dep ≤ 64) : ∀ {ys : List D}, D.deps ys ≤ 64 → ((D.pys ys).any fun z => PyData.eqv z x.py) = ys.any fun z => D.eq z x
  | [], _ => by simp [D.pys]
  | y :: ys, g => by
    have g' : D.dep y ≤ 64 ∧ D.deps ys ≤ 64 := by simp [D.deps] at g; omega
    rw [D.pys, List.any_cons, List.any_cons, pys_any h g'.2, eq_py y x g'.1 h]
theorem cop_in (hu : X.A.units + 66 < cLine) : OpR X (compareOp .In) (R2D c fun a b => (opCmp .inn a b).map .bl) := OpR.imp (OpR.or op_in_sign (OpR.or (op_inD (by omega)) op_in_seq)) fun x y H Q ⟨F, d, a, b, z, w, ra, rb, e, k⟩ => by
  cases b <;> simp [opCmp, inD] at e
  · rename_i t
    split at e <;> simp at e
    rename_i s ch
    cases rb
    cases ra
    refine .inl ⟨_, _, rfl, rfl, ?_⟩
    have : decide (ch ∈ (⟨t.toArray⟩ : Str).cps.toList) = decide (ch ∈ t) := by simp
    rw [this]
    rcases e with ⟨hm, e⟩ | ⟨hm, e⟩
    · subst e; rw [decide_eq_false hm]; exact k.here w (.bl _)
    · subst e; rw [decide_eq_true hm]; exact k.here w (.bl _)
  · obtain ⟨⟨h1, h2⟩, e⟩ := e
    subst e
    cases rb with | tup hb r =>
    refine .inr (.inr ⟨_, _, rfl, .inr (SqT.of hb), flat_V ra h1, flat_all r (by simpa using h2), ?_⟩)
    rw [if_neg (by decide), inV_D ra h1 r (by simpa using h2)]
    exact k.here w (.bl _)
  · obtain ⟨⟨h1, h2⟩, e⟩ := e
    subst e
    rename_i ys
    have g : (D.lst ys).dep ≤ 64 := by simp [D.dep]; omega
    refine .inr (.inl ⟨_, _, ra.dp (by omega), rb.dp g, ra.shaped (by omega), rb.shaped g, ?_⟩)
    rw [pys_any (by omega) (by omega)]
    exact k.here w (.bl _)
theorem cop_notin (hu : X.A.units + 66 < cLine) : OpR X (compareOp .NotIn) (R2D c fun a b => (opCmp .notin a b).map .bl) := OpR.imp (OpR.or op_notIn_sign (OpR.or (op_notInD (by omega)) op_notIn_seq)) fun x y H Q ⟨F, d, a, b, z, w, ra, rb, e, k⟩ => by
  cases b <;> simp [opCmp, inD] at e
  · rename_i t
    split at e <;> simp at e
    rename_i s ch
    cases rb
    cases ra
    refine .inl ⟨_, _, rfl, rfl, ?_⟩
    have : decide (ch ∈ (⟨t.toArray⟩ : Str).cps.toList) = decide (ch ∈ t) := by simp
    rw [this]
    rcases e with ⟨hm, e⟩ | ⟨hm, e⟩
    · subst e; rw [decide_eq_false hm]; exact k.here w (.bl _)
    · subst e; rw [decide_eq_true hm]; exact k.here w (.bl _)
  · obtain ⟨⟨h1, h2⟩, e⟩ := e
    subst e
    cases rb with | tup hb r =>
    refine .inr (.inr ⟨_, _, rfl, .inr (SqT.of hb), flat_V ra h1, flat_all r (by simpa using h2), ?_⟩)
    rw [if_pos rfl, inV_D ra h1 r (by simpa using h2)]
    exact k.here w (by simpa using Dq.bl _)
  · obtain ⟨⟨h1, h2⟩, e⟩ := e
    subst e
    rename_i ys
    have g : (D.lst ys).dep ≤ 64 := by simp [D.dep]; omega
    refine .inr (.inl ⟨_, _, ra.dp (by omega), rb.dp g, ra.shaped (by omega), rb.shaped g, ?_⟩)
    rw [pys_any (by omega) (by omega)]
    exact k.here w (by simpa using Dq.bl _)
end
end SG
namespace SG
open PySem PySem.Spec PyProof.Rows L2
def RLD (c : Cn) (f : List D → Option D) : List V → Hp → VK → Prop := fun xs H Q => ∃ F d as z, Wf c F H d ∧ DqA c.dc F H xs as ∧ f as = some z ∧ Aft c F H d z Q
theorem CallR.imp {X : Cx} {f : Value} {r r' : List V → Hp → VK → Prop} (h : CallR X f r) (i : ∀ xs H Q, r' xs H Q → r xs H Q) : CallR X f r' := fun pins s σ H xs us Q I rx q => h pins s σ H xs us Q I rx (i xs H Q q)
theorem CallR.or' {X : Cx} {f : Value} {r r' : List V → Hp → VK → Prop} (h : CallR X f r) (h' : CallR X f r') : CallR X f (fun xs H Q => r xs H Q ∨ r' xs H Q) := fun pins s σ H xs us Q I rx q => q.elim (h pins s σ H xs us Q I rx) (h' pins s σ H xs us Q I rx)
section
variable {dc : Addr} {F : Addr → Prop} {H : Hp}
theorem DqA.one {vs : List V} {x : D} (r : DqA dc F H vs [x]) : ∃ v, vs = [v] ∧ Dq dc F H v x := by
  cases r with | cons r t => cases t; exact ⟨_, rfl, r⟩
theorem DqA.two {vs : List V} {x y : D} (r : DqA dc F H vs [x, y]) : ∃ v u, vs = [v, u] ∧ Dq dc F H v x ∧ Dq dc F H u y := by
  cases r with | cons r t => cases t with | cons r2 t => cases t; exact ⟨_, _, rfl, r, r2⟩
theorem DqA.bools : ∀ {vs : List V} {xs : List D} {bs : List Bool}, DqA dc F H vs xs → SG.bools xs = some bs → vs = bs.map V.bl
  | _, _, _, .nil, e => by simp [SG.bools] at e; subst e; rfl
  | _, x :: xs, bs, .cons r t, e => by
    cases x <;> simp [SG.bools] at e
    obtain ⟨b, e1, e2⟩ := e
    subst e2
    cases r
    simp [DqA.bools t e1]
theorem DqA.ints : ∀ {vs : List V} {xs : List D} {bs : List Int}, DqA dc F H vs xs → intsOf xs = some bs → vs = bs.map V.int
  | _, _, _, .nil, e => by simp [intsOf] at e; subst e; rfl
  | _, x :: xs, bs, .cons r t, e => by
    cases x <;> simp [intsOf] at e
    obtain ⟨b, e1, e2⟩ := e
    subst e2
    cases r
    simp [DqA.ints t e1]
theorem DqA.strs : ∀ {vs : List V} {xs : List D} {bs : List (List Nat)}, DqA dc F H vs xs → strsOf xs = some bs → vs = (bs.map fun s => (⟨s.toArray⟩ : Str)).map V.str ∧ ∀ s ∈ bs, ∀ c ∈ s, c < 128
  | _, _, _, .nil, e => by simp [strsOf] at e; subst e; exact ⟨rfl, by simp⟩
  | _, x :: xs, bs, .cons r t, e => by
    cases x <;> simp [strsOf] at e
    obtain ⟨b, e1, e2⟩ := e
    subst e2
    cases r with | str s h =>
    obtain ⟨h1, h2⟩ := DqA.strs t e1
    refine ⟨by rw [h1]; simp, fun s' hs => ?_⟩
    rcases List.mem_cons.mp hs with z | z
    · rw [z]; exact h
    · exact h2 s' z
end
section
variable {X : Cx} {c : Cn}
theorem bi_len : CallR X (.builtin "len") (RLD c (opBi .len)) := CallR.imp call_len fun xs H Q ⟨F, d, as, z, w, r, e, k⟩ => by
  replace e : biLen as = some z := e
  unfold biLen at e
  split at e <;> simp at e
  · obtain ⟨v, rfl, q⟩ := r.one
    obtain ⟨hl, e⟩ := e
    subst e
    cases q
    refine ⟨_, _, rfl, ⟨?_, rfl⟩, ?_⟩
    · rw [str_len]; exact Nat.le_trans hl lim_line
    · rw [str_len]; exact k.here w (.int _)
  · obtain ⟨v, rfl, q⟩ := r.one
    subst e
    cases q with | tup h r =>
    exact ⟨_, _, rfl, .inr ⟨_, SqT.of h, rfl⟩, by rw [r.length]; exact k.here w (.int _)⟩
  · obtain ⟨v, rfl, q⟩ := r.one
    subst e
    cases q with | lst f h r =>
    exact ⟨_, _, rfl, .inl ⟨_, SqL.of h, rfl⟩, by rw [r.length]; exact k.here w (.int _)⟩
theorem bi_all (hc : X.calm = true) : CallR X (.builtin "all") (RLD c (opBi .all)) := CallR.imp (cr_all hc) fun xs H Q ⟨F, d, as, z, w, r, e, k⟩ => by
  replace e : biAll as = some z := e
  unfold biAll at e
  split at e <;> simp at e
  obtain ⟨v, rfl, q⟩ := r.one
  obtain ⟨bs, e1, e2⟩ := e
  cases q with | lst f h r =>
  have := r.bools e1
  subst this
  subst e2
  exact ⟨_, bs, rfl, SqL.of h, by simpa using k.here w (.bl _)⟩
theorem bi_any (hc : X.calm = true) : CallR X (.builtin "any") (RLD c (opBi .any)) := CallR.imp (cr_any hc) fun xs H Q ⟨F, d, as, z, w, r, e, k⟩ => by
  replace e : biAny as = some z := e
  unfold biAny at e
  split at e <;> simp at e
  obtain ⟨v, rfl, q⟩ := r.one
  obtain ⟨bs, e1, e2⟩ := e
  cases q with | lst f h r =>
  have := r.bools e1
  subst this
  subst e2
  exact ⟨_, bs, rfl, SqL.of h, by simpa using k.here w (.bl _)⟩
theorem bi_sum (hc : X.calm = true) : CallR X (.builtin "sum") (RLD c (opBi .sum)) := CallR.imp (cr_sum hc) fun xs H Q ⟨F, d, as, z, w, r, e, k⟩ => by
  replace e : biSum as = some z := e
  unfold biSum at e
  split at e <;> simp at e
  obtain ⟨v, rfl, q⟩ := r.one
  obtain ⟨bs, e1, e2⟩ := e
  cases q with | lst f h r =>
  have := r.ints e1
  subst this
  subst e2
  exact ⟨_, bs, rfl, SqL.of h, k.here w (.int _)⟩
theorem bi_min2 (hc : X.calm = true) : CallR X (.builtin "min") (RLD c (opBi .min2)) := CallR.imp (call_min2 hc) fun xs H Q ⟨F, d, as, z, w, r, e, k⟩ => by
  replace e : biMin2 as = some z := e
  unfold biMin2 at e
  split at e <;> simp at e
  obtain ⟨v, u, rfl, q, q2⟩ := r.two
  subst e
  cases q; cases q2
  exact ⟨_, _, rfl, k.here w (.int _)⟩
theorem bi_max2 (hc : X.calm = true) : CallR X (.builtin "max") (RLD c (opBi .max2)) := CallR.imp (call_max2 hc) fun xs H Q ⟨F, d, as, z, w, r, e, k⟩ => by
  replace e : biMax2 as = some z := e
  unfold biMax2 at e
  split at e <;> simp at e
  obtain ⟨v, u, rfl, q, q2⟩ := r.two
  subst e
  cases q; cases q2
  exact ⟨_, _, rfl, k.here w (.int _)⟩
theorem bi_abs : CallR X (.builtin "abs") (RLD c (opBi .abs)) := CallR.imp call_abs fun xs H Q ⟨F, d, as, z, w, r, e, k⟩ => by
  replace e : biAbs as = some z := e
  unfold biAbs at e
  split at e <;> simp at e
  obtain ⟨v, rfl, q⟩ := r.one
  subst e
  cases q
  exact ⟨_, rfl, k.here w (.int _)⟩
theorem bi_int : CallR X (.type "int") (RLD c (opBi .int)) := CallR.imp call_int1 fun xs H Q ⟨F, d, as, z, w, r, e, k⟩ => by
  replace e : biInt as = some z := e
  unfold biInt at e
  split at e <;> simp at e
  · obtain ⟨v, rfl, q⟩ := r.one
    subst e
    cases q
    exact .inl ⟨_, rfl, k.here w (.int _)⟩
  · obtain ⟨v, rfl, q⟩ := r.one
    subst e
    cases q
    exact .inr ⟨_, rfl, k.here w (.int _)⟩
theorem bi_tuple : CallR X (.type "tuple") (RLD c (opBi .tuple)) := CallR.imp call_tuple_of fun xs H Q ⟨F, d, as, z, w, r, e, k⟩ => by
  replace e : biTuple as = some z := e
  unfold biTuple at e
  split at e <;> simp at e
  · obtain ⟨v, rfl, q⟩ := r.one
    subst e
    cases q with | lst f h r =>
    exact ⟨_, _, rfl, .inl ⟨SqL.of h, k.newT w r⟩⟩
  · obtain ⟨v, rfl, q⟩ := r.one
    subst e
    cases q with | tup h r =>
    exact ⟨_, _, rfl, .inr ⟨SqT.of h, k.here w (.tup h r)⟩⟩
theorem cr_list_str (hc : X.calm = true) : CallR X (.type "list") (fun xs H Q => ∃ z : List Nat, xs = [.str ⟨z.toArray⟩] ∧ z.length ≤ sizeLine ∧ ∀ p, H p = none → Q (.ref p) (upd H p (.lst (z.map fun ch => V.str ⟨#[ch]⟩)))) := by
  intro pins s σ H xs us Q I r h
  obtain ⟨z, rfl, hz, q⟩ := h
  obtain ⟨u, rfl, tk, rfl⟩ := vals1 r
  refine PySem.call_list_str (I.ok.hd hc) ⟨z.toArray⟩ tk (fun h' t' acc n kp e hacc => ?_) (by show z.toArray.size ≤ sizeLine; rw [List.size_toArray]; exact hz)
  have hsz : acc.size = z.length := by rw [hacc.1]; show z.toArray.size = _; rw [List.size_toArray]
  refine ⟨.ref s.heap.objs.size, _, I.laid (t' := t') kp (Nat.le_refl _) (show ObjOk X.prog X.w _ h' _ (.lst (z.map fun ch => V.str ⟨#[ch]⟩)) from ⟨by rw [List.length_map]; exact hz, acc.toList, n, ?_, by rw [Array.toArray_toList]; exact e⟩), rfl, q _ (I.hok.fresh (Nat.le_refl _))⟩
  refine vals_of_at (by rw [List.length_map]; have := hsz; simp only [← Array.length_toList] at this; omega) fun i x v h1 h2 => ?_
  rw [List.getElem?_map] at h1
  cases e1 : z[i]? with
  | none => rw [e1] at h1; cases h1
  | some ch =>
    rw [e1] at h1
    cases h1
    have := hacc.2 i v (by rw [← Array.getElem?_toList]; exact h2)
    obtain ⟨c2, t2, e2, rfl⟩ := this
    have e3 : z[i]? = some c2 := by simpa using e2
    rw [e1] at e3
    cases e3
    exact ⟨t2, rfl⟩
theorem DqA.signs {dc : Addr} {F : Addr → Prop} {H : Hp} : ∀ {z : List Nat}, (∀ ch ∈ z, ch < 128) → DqA dc F H (z.map fun ch => V.str ⟨#[ch]⟩) (z.map fun ch => D.str [ch])
  | [], _ => .nil
  | ch :: z, h => .cons (.str [ch] fun q hq => h q (by rw [List.mem_singleton] at hq; rw [hq]; exact List.mem_cons_self)) (DqA.signs fun q hq => h q (List.mem_cons_of_mem _ hq))
theorem bi_list (hc : X.calm = true) : CallR X (.type "list") (RLD c (opBi .list)) := CallR.imp (CallR.or' call_list_of (cr_list_str hc)) fun xs H Q ⟨F, d, as, z, w, r, e, k⟩ => by
  replace e : biList as = some z := e
  unfold biList at e
  split at e <;> simp at e
  · obtain ⟨v, rfl, q⟩ := r.one
    subst e
    cases q with | lst f h r =>
    exact .inl ⟨_, _, rfl, .inl (SqL.of h), k.newL w r⟩
  · obtain ⟨v, rfl, q⟩ := r.one
    subst e
    cases q with | tup h r =>
    exact .inl ⟨_, _, rfl, .inr (SqT.of h), k.newL w r⟩
  · obtain ⟨v, rfl, q⟩ := r.one
    obtain ⟨hl, e⟩ := e
    subst e
    cases q with | str s hs =>
    exact .inr ⟨_, rfl, Nat.le_trans hl lim_line, k.newL w (DqA.signs hs)⟩
mutual
theorem py_inj : ∀ {x y : D}, x.dep ≤ 64 → y.dep ≤ 64 → x.py = y.py → x = y
  | .die, _, h, _, _ => by simp [D.dep] at h
  | .non, y, _, h, e => by cases y <;> simp_all [D.py, D.dep]
  | .bl _, y, _, h, e => by cases y <;> simp_all [D.py, D.dep]
  | .int _, y, _, h, e => by cases y <;> simp_all [D.py, D.dep]
  | .str _, y, _, h, e => by cases y <;> simp_all [D.py, D.dep]
  | .tup xs, y, h0, h, e => by
    cases y <;> simp_all [D.py, D.dep]
    rename_i ys
    exact pys_inj (by omega) (by omega) e
  | .lst xs, y, h0, h, e => by
    cases y <;> simp_all [D.py, D.dep]
    rename_i ys
    exact pys_inj (by omega) (by omega) e
theorem pys_inj : ∀ {x y : List D}, D.deps x ≤ 64 → D.deps y ≤ 64 → D.pys x = D.pys y → x = y
  | [], [], _, _, _ => rfl
  | [], y :: ys, _, _, e => by simp [D.pys] at e
  | x :: xs, [], _, _, e => by simp [D.pys] at e
  | x :: xs, y :: ys, h, h2, e => by
    simp [D.pys] at e
    simp [D.deps] at h h2
    rw [py_inj (by omega) (by omega) e.1, pys_inj (by omega) (by omega) e.2]
end
theorem pys_map : ∀ xs : List D, D.pys xs = xs.map D.py
  | [] => by simp [D.pys]
  | x :: xs => by simp [D.pys, pys_map xs]
theorem ordAll_get {xs : List D} (h : ordAll xs = true) {x y : D} (hx : x ∈ xs) (hy : y ∈ xs) : Ord x y := by
  unfold ordAll at h
  exact ord_of (List.all_eq_true.mp (List.all_eq_true.mp h x hx) y hy)
theorem deps_le {n : Nat} : ∀ {xs : List D}, (∀ x ∈ xs, x.dep ≤ n) → D.deps xs ≤ n
  | [], _ => by simp [D.deps]
  | x :: xs, h => by
    have h1 := h x (by simp)
    have h2 := deps_le (xs := xs) fun y hy => h y (by simp [hy])
    simp [D.deps]; omega
theorem ordAll_dep {xs : List D} (h : ordAll xs = true) : D.deps xs ≤ 64 := deps_le fun x hx => (ordAll_get h hx hx).dx
theorem ordAll_alike {xs : List D} (h : ordAll xs = true) : PySem.W.AlikeAll (D.pys xs) := by
  rw [pys_map]
  refine ⟨fun a ha b hb => ?_, fun a ha => ?_⟩
  · obtain ⟨x, hx, rfl⟩ := List.mem_map.mp ha
    obtain ⟨y, hy, rfl⟩ := List.mem_map.mp hb
    exact (ordAll_get h hx hy).al
  · obtain ⟨x, hx, rfl⟩ := List.mem_map.mp ha
    exact (ordAll_get h hx hx).nn
theorem least_mem : ∀ (xs : List D) (x : D), least x xs ∈ x :: xs
  | [], x => by simp [least]
  | y :: r, x => by
    have := least_mem r (if D.lt y x then y else x)
    unfold least
    rcases List.mem_cons.mp this with h | h
    · rw [h]; split <;> simp
    · simp [h]
theorem most_mem : ∀ (xs : List D) (x : D), most x xs ∈ x :: xs
  | [], x => by simp [most]
  | y :: r, x => by
    have := most_mem r (if D.lt x y then y else x)
    unfold most
    rcases List.mem_cons.mp this with h | h
    · rw [h]; split <;> simp
    · simp [h]
theorem mem_pick {p : Bool} {a x y : D} {r : List D} (h : a ∈ (if p = true then y else x) :: r) : a ∈ x :: y :: r := by
  rcases List.mem_cons.mp h with h | h
  · rw [h]; split <;> simp
  · simp [h]
theorem least_py : ∀ (xs : List D) (x : D), (∀ a ∈ x :: xs, ∀ b ∈ x :: xs, PySem.W.alike a.py b.py = true) → (least x xs).py = PySem.W.minD x.py (D.pys xs)
  | [], x, _ => by simp [least, D.pys, PySem.W.minD]
  | y :: r, x, h => by
    unfold least
    have e : D.lt y x = PySem.W.dataLt y.py x.py := lt_py (h y (by simp) x (by simp))
    rw [least_py r _ (fun a ha b hb => h a (mem_pick ha) b (mem_pick hb)), D.pys]
    unfold PySem.W.minD
    rw [List.foldl_cons, e]
    congr 1
    split <;> simp_all
theorem most_py : ∀ (xs : List D) (x : D), (∀ a ∈ x :: xs, ∀ b ∈ x :: xs, PySem.W.alike a.py b.py = true) → (most x xs).py = PySem.W.maxD x.py (D.pys xs)
  | [], x, _ => by simp [most, D.pys, PySem.W.maxD]
  | y :: r, x, h => by
    unfold most
    have e : D.lt x y = PySem.W.dataLt x.py y.py := lt_py (h x (by simp) y (by simp))
    rw [most_py r _ (fun a ha b hb => h a (mem_pick ha) b (mem_pick hb)), D.pys]
    unfold PySem.W.maxD
    rw [List.foldl_cons, e]
    congr 1
    split <;> simp_all
theorem list_get {xs : List D} {i : Nat} (h : i < (D.pys xs).length) : ∃ x, xs[i]? = some x ∧ (D.pys xs)[i]? = some x.py := by
  rw [pys_map] at h ⊢
  rw [List.length_map] at h
  exact ⟨xs[i], by simp [h], by simp [h]⟩
theorem Vals.get'' {vs : List V} {us : List Value} {i : Nat} {u : Value} (r : Vals vs us) (e : us[i]? = some u) : ∃ v, vs[i]? = some v ∧ RelV v u := by
  cases h : vs[i]? with
  | none => rw [Vals.none_of r h] at e; cases e
  | some v =>
    obtain ⟨u', e', q⟩ := Vals.get r h
    rw [e] at e'; cases e'
    exact ⟨v, rfl, q⟩
theorem pick_same {I : Prop} {c : Cn} {F : Addr → Prop} {H : Hp} {h : Heap} {xs : List D} {vs : List V} {us : List Value} {i : Nat} {u : Value} {z : D} {bs : List Addr} (o : ordAll xs = true) (hz : z ∈ xs) (r : DqA c.dc F H vs xs) (rv : Vals vs us) (hu : us[i]? = some u)
    (rd : ∀ v x, Dq c.dc F H v x → x.dep ≤ 64 → RelV v u → ∃ as, Reads h u x.py as) (q : Reads h u z.py bs) : ∃ v, RelV v u ∧ Dq c.dc F H v z := by
  obtain ⟨v, hv, rl⟩ := Vals.get'' rv hu
  obtain ⟨x, hx, dq⟩ := r.get' hv
  have hm := List.mem_of_getElem? hx
  obtain ⟨as, q'⟩ := rd v x dq (ordAll_get o hm hm).dx rl
  have e := PySem.W.alike_unique x.py z.py u as bs (ordAll_get o hm hz).al q' q
  have := py_inj (ordAll_get o hm hm).dx (ordAll_get o hz hz).dx e
  subst this
  exact ⟨v, rl, dq⟩
theorem bi_min (hc : X.calm = true) (hu : X.A.units + 66 < cLine) : CallR X (.builtin "min") (RLD c (opBi .min)) := by
  intro pins s σ H vs us Q I rx ⟨F, d, as, z, w, r, e, k⟩
  replace e : biMin as = some z := e
  unfold biMin at e
  split at e <;> simp at e
  · rename_i x xs
    obtain ⟨o, e⟩ := e
    subst e
    obtain ⟨v, rfl, q⟩ := r.one
    cases q with | lst f h r =>
    rw [Vals.ref1 rx]
    obtain ⟨its, rv, hl, _⟩ := I.list (SqL.of h)
    obtain ⟨as, rds⟩ := Dp.readsAll I (D.pys (x :: xs)) _ its (r.dp (ordAll_dep o)) rv
    have al := ordAll_alike o
    rw [D.pys] at rds al
    refine PySem.W.min_list_data (vs := its.toArray) (I.ok.hd hc) hl.isList (by simpa using rds) al ?_ fun i u h' tk bs hi rd kp => ?_
    · have := deps_py (ordAll_dep o)
      rw [D.pys] at this
      rw [this]
      have := ordAll_dep o
      omega
    · have I' : Inv X pins σ H { s with heap := h', toks := tk } := I.kept kp
      rw [← least_py xs x (fun a ha b hb => (ordAll_get o ha hb).al)] at rd
      obtain ⟨v, rl, dq⟩ := pick_same (I := True) o (least_mem xs x) r rv (by simpa using hi) (fun v x dq g rl => Dp.reads I' x.py v u (dq.dp g) rl) rd
      exact ⟨v, H, I', rl, k.here w dq⟩
  · rename_i x xs
    obtain ⟨o, e⟩ := e
    subst e
    obtain ⟨v, rfl, q⟩ := r.one
    cases q with | tup h r =>
    rw [Vals.ref1 rx]
    obtain ⟨its, rv, hl, _⟩ := I.tuple (SqT.of h)
    obtain ⟨as, rds⟩ := Dp.readsAll I (D.pys (x :: xs)) _ its (r.dp (ordAll_dep o)) rv
    have al := ordAll_alike o
    rw [D.pys] at rds al
    refine PySem.W.min_tuple_data (vs := its.toArray) (I.ok.hd hc) hl (by simpa using rds) al ?_ fun i u h' tk bs hi rd kp => ?_
    · have := deps_py (ordAll_dep o)
      rw [D.pys] at this
      rw [this]
      have := ordAll_dep o
      omega
    · have I' : Inv X pins σ H { s with heap := h', toks := tk } := I.kept kp
      rw [← least_py xs x (fun a ha b hb => (ordAll_get o ha hb).al)] at rd
      obtain ⟨v, rl, dq⟩ := pick_same (I := True) o (least_mem xs x) r rv (by simpa using hi) (fun v x dq g rl => Dp.reads I' x.py v u (dq.dp g) rl) rd
      exact ⟨v, H, I', rl, k.here w dq⟩
theorem bi_max (hc : X.calm = true) (hu : X.A.units + 66 < cLine) : CallR X (.builtin "max") (RLD c (opBi .max)) := by
  intro pins s σ H vs us Q I rx ⟨F, d, as, z, w, r, e, k⟩
  replace e : biMax as = some z := e
  unfold biMax at e
  split at e <;> simp at e
  rename_i x xs
  obtain ⟨o, e⟩ := e
  subst e
  obtain ⟨v, rfl, q⟩ := r.one
  cases q with | lst f h r =>
  rw [Vals.ref1 rx]
  obtain ⟨its, rv, hl, _⟩ := I.list (SqL.of h)
  obtain ⟨as, rds⟩ := Dp.readsAll I (D.pys (x :: xs)) _ its (r.dp (ordAll_dep o)) rv
  have al := ordAll_alike o
  rw [D.pys] at rds al
  refine PySem.W.max_list_data (vs := its.toArray) (I.ok.hd hc) hl.isList (by simpa using rds) al ?_ fun i u h' tk bs hi rd kp => ?_
  · have := deps_py (ordAll_dep o)
    rw [D.pys] at this
    rw [this]
    have := ordAll_dep o
    omega
  · have I' : Inv X pins σ H { s with heap := h', toks := tk } := I.kept kp
    rw [← most_py xs x (fun a ha b hb => (ordAll_get o ha hb).al)] at rd
    obtain ⟨v, rl, dq⟩ := pick_same (I := True) o (most_mem xs x) r rv (by simpa using hi) (fun v x dq g rl => Dp.reads I' x.py v u (dq.dp g) rl) rd
    exact ⟨v, H, I', rl, k.here w dq⟩
theorem each_of {R : Value → D → Prop} : ∀ {us : List Value} {xs : List D}, us.length = xs.length → (∀ (i : Nat) u x, us[i]? = some u → xs[i]? = some x → R u x) → PySem.W.EachIs R us xs
  | [], [], _, _ => .nil
  | u :: us, x :: xs, hl, h => .cons (h 0 u x rfl rfl) (each_of (by simpa using hl) fun i v y e1 e2 => h (i + 1) v y (by simpa using e1) (by simpa using e2))
  | [], _ :: _, hl, _ => by simp at hl
  | _ :: _, [], hl, _ => by simp at hl
theorem vals_each {dc : Addr} {F : Addr → Prop} {H : Hp} : ∀ {us : List Value} {xs : List D}, PySem.W.EachIs (fun u x => ∃ v, RelV v u ∧ Dq dc F H v x) us xs → ∃ vs, Vals vs us ∧ DqA dc F H vs xs
  | _, _, .nil => ⟨[], .nil, .nil⟩
  | _, _, .cons ⟨v, r, q⟩ t => by
    obtain ⟨vs, h1, h2⟩ := vals_each t
    exact ⟨v :: vs, .cons r h1, .cons q h2⟩
theorem sort_same {xs : List D} (o : ordAll xs = true) : xs.mergeSort (fun a b => !D.lt b a) = xs.mergeSort (PySem.W.dataLe false D.py) := by
  refine PySem.W.sort_congr fun a ha b hb => ?_
  rw [lt_py (ordAll_get o hb ha).al]
  rfl
theorem bi_sorted (hu : X.A.units + 66 < cLine) : CallR X (.builtin "sorted") (RLD c (opBi .sorted)) := by
  intro pins s σ H vs us Q I rx ⟨F, d, as, z, w, r, e, k⟩
  replace e : biSorted as = some z := e
  unfold biSorted at e
  split at e <;> simp at e
  rename_i xs
  obtain ⟨ys, e, ez⟩ := e
  subst ez
  unfold sortD at e
  split at e <;> cases e
  rename_i oh
  simp only [Bool.and_eq_true] at oh
  obtain ⟨o, hh⟩ := oh
  obtain ⟨v, rfl, q⟩ := r.one
  cases q with | lst f h r =>
  rw [Vals.ref1 rx]
  obtain ⟨its, rv, hl, hz⟩ := I.list (SqL.of h)
  have len1 := rv.length
  have len2 := r.length
  rw [sort_same o] at k
  refine PySem.W.sorted_data (bs := xs) (enc := D.py) (R := fun u x => ∃ v, RelV v u ∧ Dq c.dc F H v x) hl.isList (each_of (by omega) fun i u x e1 e2 => ?_) (each_of (by omega) fun i u x e1 e2 => ?_) ?_ ?_ (by omega) (fun b hb => ?_) fun out hlen eo => ?_
  · obtain ⟨v, hv, rl⟩ := Vals.get'' rv e1
    obtain ⟨x', hx', dq⟩ := r.get' hv
    rw [e2] at hx'; cases hx'
    exact ⟨v, rl, dq⟩
  · obtain ⟨v, hv, rl⟩ := Vals.get'' rv e1
    obtain ⟨x', hx', dq⟩ := r.get' hv
    rw [e2] at hx'; cases hx'
    have hm := List.mem_of_getElem? e2
    exact Dp.reads I x.py v u (dq.dp (ordAll_get o hm hm).dx) rl
  · intro a ha b hb
    obtain ⟨x, hx, rfl⟩ := List.mem_map.mp ha
    obtain ⟨y, hy, rfl⟩ := List.mem_map.mp hb
    exact (ordAll_get o hx hy).al
  · unfold headNoTup at hh
    simp only [Bool.or_eq_true] at hh
    rcases hh with hh | hh
    · refine .inr fun a ha => ?_
      obtain ⟨x, hx, rfl⟩ := List.mem_map.mp ha
      refine ⟨(ordAll_get o hx hx).nn, fun xs z => ?_⟩
      have := List.all_eq_true.mp hh x hx
      cases x <;> simp_all [D.py]
    · refine .inl fun a ha => ?_
      obtain ⟨x, hx, rfl⟩ := List.mem_map.mp ha
      have := List.all_eq_true.mp hh x hx
      cases x with
      | tup l =>
        cases l with
        | nil => exact absurd this (by simp)
        | cons y l => exact ⟨y.py, D.pys l, by simp [D.py, D.pys]⟩
      | _ => exact absurd this (by simp)
  · have g := (ordAll_get o hb hb).dx
    rw [dep_py g]; omega
  · obtain ⟨ws, rw1, rw2⟩ := vals_each eo
    obtain ⟨ep, he'⟩ := PyProof.Rows.sortedAll_at s.heap its out.toArray
    have lw := rw1.length
    exact ⟨.ref _, upd H (s.heap.objs.size + 1) (.lst ws), I.laid (t' := s.toks) (fun _ _ => PyProof.Rows.sortedAll_old) (Nat.le_succ _) ⟨by omega, out, ep, rw1, he'⟩, rfl, k.newL w rw2 _ (I.hok.fresh (Nat.le_succ _))⟩
theorem ixP_eq : ixP = ixN := by funext n i; rfl
theorem atP_eq {α : Type} (xs : List α) (i : Int) : atP xs i = atI xs i := by unfold atP atI; rw [ixP_eq]
theorem at_bind {vs : List V} {xs : List D} {dc : Addr} {F : Addr → Prop} {H : Hp} {i : Int} {x : D} (r : DqA dc F H vs xs) (e : atP xs i = some x) : ∃ v, atI vs i = some v ∧ Dq dc F H v x := by
  unfold atP at e
  cases h : ixP xs.length i with
  | none => rw [h] at e; cases e
  | some j =>
    rw [h] at e
    obtain ⟨v, hv, q⟩ := r.get (show xs[j]? = some x from e)
    refine ⟨v, ?_, q⟩
    unfold atI
    rw [← ixP_eq, r.length, h]
    exact hv
theorem IxR.imp {r r' : R2} (h : IxR X r) (i : ∀ x y H Q, r' x y H Q → r x y H Q) : IxR X r' := fun a b pins s σ H x y v u Q I rx ry q => h a b pins s σ H x y v u Q I rx ry (i x y H Q q)
theorem ix_D : IxR X (R2D c opIx) := IxR.imp ix_seq fun x y H Q ⟨F, d, a, b, z, w, ra, rb, e, k⟩ => by
  cases b <;> try (cases a <;> simp [opIx] at e; done)
  rename_i i
  cases rb
  cases a <;> simp [opIx] at e
  · rename_i s
    obtain ⟨hl, ch, e1, e2⟩ := e
    subst e2
    cases ra with | str _ h =>
    rw [atP_eq] at e1
    refine .inr (.inr ⟨_, _, ch, rfl, rfl, ?_, by simpa using e1, ?_⟩)
    · rw [str_len]; exact Nat.le_trans hl lim_line
    · refine k.here w (.str [ch] fun c' hc => ?_)
      have : ch ∈ s := by
        obtain ⟨j, _, h2, _⟩ := atI_get e1
        exact List.mem_of_getElem? h2
      simp at hc
      rw [hc]; exact h ch this
  · cases ra with | tup h r =>
    obtain ⟨v, e1, q⟩ := at_bind r e
    exact .inr (.inl ⟨_, _, _, v, rfl, rfl, SqT.of h, e1, k.here w q⟩)
  · cases ra with | lst f h r =>
    obtain ⟨v, e1, q⟩ := at_bind r e
    exact .inl ⟨_, _, _, v, rfl, rfl, SqL.of h, e1, k.here w q⟩
theorem sIx_eq : SG.sIx = HT.sIx := by
  funext n d o
  cases o <;> rfl
theorem DqA.cut {vs : List V} {xs : List D} {dc : Addr} {F : Addr → Prop} {H : Hp} (r : DqA dc F H vs xs) (lo hi : Option Int) : DqA dc F H (cutV vs lo hi) (SG.cut xs lo hi) := by
  unfold cutV SG.cut
  rw [sIx_eq, r.length]
  exact (r.drop _).take _
theorem SlR.imp {r r' : V → Option Int → Option Int → Hp → VK → Prop} (h : SlR X r) (i : ∀ x lo hi H Q, r' x lo hi H Q → r x lo hi H Q) : SlR X r' := fun pins s σ H x v vl vu lo hi sl Q I rx hs pl pu q => h pins s σ H x v vl vu lo hi sl Q I rx hs pl pu (i x lo hi H Q q)
def RSD (c : Cn) : V → Option Int → Option Int → Hp → VK → Prop := fun x lo hi H Q => ∃ F d a z, Wf c F H d ∧ Dq c.dc F H x a ∧ opSl a lo hi = some z ∧ Aft c F H d z Q
theorem cut_all {α : Type} {xs : List α} {lo hi : Option Int} (h : HT.sIx xs.length 0 lo = 0 ∧ HT.sIx xs.length xs.length hi = xs.length) : SG.cut xs lo hi = xs := by
  unfold SG.cut
  rw [sIx_eq, h.1, h.2]
  simp
theorem sl_D : SlR X (RSD c) := SlR.imp (SlR.or sl_tupA (SlR.or sl_list sl_str)) fun x lo hi H Q ⟨F, d, a, z, w, ra, e, k⟩ => by
  cases a <;> simp [opSl] at e
  · rename_i s
    obtain ⟨hl, e⟩ := e
    subst e
    cases ra with | str _ h =>
    refine .inr (.inr ⟨_, rfl, ?_, ?_⟩)
    · rw [str_len]; exact Nat.le_trans hl lim_line
    · have : cutS ⟨s.toArray⟩ lo hi = ⟨(SG.cut s lo hi).toArray⟩ := by
        unfold cutS SG.cut
        rw [str_len, sIx_eq]
      rw [this]
      refine k.here w (.str _ fun c' hc => h c' ?_)
      unfold SG.cut at hc
      exact List.mem_of_mem_drop (List.mem_of_mem_take hc)
  · subst e
    cases ra with | tup h r =>
    refine .inl ⟨_, _, rfl, SqT.of h, fun g => ?_, fun _ => k.newT w (r.cut lo hi)⟩
    rw [r.length] at g
    rw [cut_all g] at k
    exact k.here w (.tup h r)
  · subst e
    cases ra with | lst f h r =>
    exact .inr (.inl ⟨_, _, rfl, SqL.of h, k.newL w (r.cut lo hi)⟩)
def RMD (c : Cn) (f : D → List D → Option D) : V → List V → Hp → VK → Prop := fun x xs H Q => ∃ F d a as z, Wf c F H d ∧ Dq c.dc F H x a ∧ DqA c.dc F H xs as ∧ f a as = some z ∧ Aft c F H d z Q
theorem MtR.imp {id : String} {r r' : V → List V → Hp → VK → Prop} (h : MtR X id r) (i : ∀ x xs H Q, r' x xs H Q → r x xs H Q) : MtR X id r' := fun pins s σ H x xs v us Q I rx rs q => h pins s σ H x xs v us Q I rx rs (i x xs H Q q)
theorem join_same (sep : List Nat) : ∀ ss : List (List Nat), Txt.join ⟨sep.toArray⟩ (ss.map fun s => (⟨s.toArray⟩ : Str)) = ⟨(joinS sep ss).toArray⟩ := fun ss => by
  rw [TL.join_eq]
  induction ss with
  | nil => rfl
  | cons x r ih =>
    cases r with
    | nil => rfl
    | cons y r =>
      rw [List.map_cons, List.map_cons, Str.join, joinS]
      · rw [List.map_cons] at ih
        rw [ih, str_app, str_app]
      · simp
theorem joinS_mem {sep : List Nat} {ch : Nat} : ∀ {ss : List (List Nat)}, ch ∈ joinS sep ss → ch ∈ sep ∨ ∃ s ∈ ss, ch ∈ s
  | [], h => by simp [joinS] at h
  | [x], h => .inr ⟨x, by simp, by simpa [joinS] using h⟩
  | x :: y :: r, h => by
    rw [joinS] at h
    rcases List.mem_append.mp h with h | h
    · rcases List.mem_append.mp h with h | h
      · exact .inr ⟨x, by simp, h⟩
      · exact .inl h
    · rcases joinS_mem h with h | ⟨s, hs, h⟩
      · exact .inl h
      · exact .inr ⟨s, by simp at hs ⊢; exact .inr hs, h⟩
theorem me_join : MtR X "str.join" (RMD c (opMe .join)) := MtR.imp mt_join fun x xs H Q ⟨F, d, a, as, z, w, ra, r, e, k⟩ => by
  replace e : meJoin a as = some z := e
  unfold meJoin at e
  have main : ∀ {p : Addr} {vs : List V} {ds : List D} {sep : List Nat}, (∀ c ∈ sep, c < 128) → DqA c.dc F H vs ds → joinR sep ds = some z → (SqL X.K H p vs ∨ SqT X.K H p vs) →
      ∃ a_1 p_1, ∃ ys : List Str, V.str ⟨sep.toArray⟩ = .str a_1 ∧ [V.ref p] = [.ref p_1] ∧ (SqL X.K H p_1 (ys.map V.str) ∨ SqT X.K H p_1 (ys.map V.str)) ∧ (ys.map (·.length)).sum + ys.length * a_1.length ≤ 16777216 ∧ Q (.str (Txt.join a_1 ys)) H := by
    intro p vs ds sep hs r2 e2 hq
    unfold joinR at e2
    cases e3 : strsOf ds with
    | none => rw [e3] at e2; cases e2
    | some ss =>
      rw [e3] at e2
      simp at e2
      obtain ⟨hl, e2⟩ := e2
      subst e2
      obtain ⟨h1, h2⟩ := r2.strs e3
      subst h1
      refine ⟨_, _, _, rfl, rfl, hq, ?_, ?_⟩
      · have : (ss.map fun s => (⟨s.toArray⟩ : Str)).map (·.length) = ss.map (·.length) := by
          rw [List.map_map]; exact List.map_congr_left fun s _ => str_len s
        rw [this, List.length_map, str_len]
        unfold lim at hl
        omega
      · rw [join_same]
        refine k.here w (.str _ fun ch hc => ?_)
        rcases joinS_mem hc with h | ⟨s, hs', h⟩
        · exact hs ch h
        · exact h2 s hs' ch h
  split at e
  · obtain ⟨v, rfl, q⟩ := r.one
    cases ra with | str s h => cases q with | lst f h' r2 =>
    exact main h r2 e (.inl (SqL.of h'))
  · obtain ⟨v, rfl, q⟩ := r.one
    cases ra with | str s h => cases q with | tup h' r2 =>
    exact main h r2 e (.inr (SqT.of h'))
  · cases e
theorem me_index : MtR X "str.index" (RMD c (opMe .index)) := MtR.imp mt_sindex fun x xs H Q ⟨F, d, a, as, z, w, ra, r, e, k⟩ => by
  replace e : meIndex a as = some z := e
  unfold meIndex at e
  split at e <;> simp at e
  obtain ⟨v, rfl, q⟩ := r.one
  obtain ⟨hs, e⟩ := e
  subst hs
  cases ra; cases q
  split at e
  · rename_i h; subst h; cases e
    exact ⟨_, _, 0, [], rfl, rfl, by decide +kernel, k.here w (.int _)⟩
  · split at e
    · rename_i h; subst h; cases e
      exact ⟨_, _, 1, [], rfl, rfl, by decide +kernel, k.here w (.int _)⟩
    · split at e
      · rename_i h; subst h; cases e
        exact ⟨_, _, 2, [], rfl, rfl, by decide +kernel, k.here w (.int _)⟩
      · cases e
theorem cnt_count (ch : Nat) : ∀ l : List Nat, PyProof.Rows.cnt ch l = ((l.count ch : Nat) : Int)
  | [] => rfl
  | n :: r => by
    rw [PyProof.Rows.cnt_cons, cnt_count ch r, List.count_cons]
    by_cases h : n = ch <;> simp [h]
    omega
theorem me_count : MtR X "str.count" (RMD c (opMe .count)) := MtR.imp mt_count fun x xs H Q ⟨F, d, a, as, z, w, ra, r, e, k⟩ => by
  replace e : meCount a as = some z := e
  unfold meCount at e
  split at e <;> simp at e
  obtain ⟨v, rfl, q⟩ := r.one
  subst e
  cases ra; cases q
  refine ⟨_, _, rfl, rfl, ?_⟩
  rw [PyProof.Rows.count_cnt, cnt_count]
  exact k.here w (.int _)
theorem splitS_ok (ch : Nat) : ∀ (s acc : List Nat), ch ∉ acc → splitS ch acc s ≠ [] ∧ (∀ p ∈ splitS ch acc s, ch ∉ p ∧ ∀ x ∈ p, x ∈ acc ∨ x ∈ s) ∧ joinS [ch] (splitS ch acc s) = acc.reverse ++ s
  | [], acc, h => ⟨by simp [splitS], by simpa [splitS] using h, by simp [splitS, joinS]⟩
  | x :: r, acc, h => by
    unfold splitS
    by_cases e : x = ch
    · subst e
      obtain ⟨h1, h2, h3⟩ := splitS_ok x r [] (by simp)
      rw [if_pos rfl]
      refine ⟨by simp, fun p hp => ?_, ?_⟩
      · rcases List.mem_cons.mp hp with z | z
        · subst z; exact ⟨by simpa using h, fun y hy => .inl (by simpa using hy)⟩
        · obtain ⟨a, b⟩ := h2 p z
          exact ⟨a, fun y hy => .inr (List.mem_cons_of_mem _ ((b y hy).resolve_left (by simp)))⟩
      · cases hs : splitS x [] r with
        | nil => exact absurd hs h1
        | cons q qs => rw [joinS, ← hs, h3]; simp
    · rw [if_neg e]
      obtain ⟨h1, h2, h3⟩ := splitS_ok ch r (x :: acc) (by simp; exact ⟨fun z => e z.symm, h⟩)
      refine ⟨h1, fun p hp => ?_, by rw [h3]; simp⟩
      obtain ⟨a, b⟩ := h2 p hp
      exact ⟨a, fun y hy => by
        rcases b y hy with z | z
        · rcases List.mem_cons.mp z with z | z
          · exact .inr (by rw [z]; exact List.mem_cons_self)
          · exact .inl z
        · exact .inr (List.mem_cons_of_mem _ z)⟩
theorem split_same {ch : Nat} (hc : ch < 128) (s : List Nat) : Txt.split ⟨s.toArray⟩ ⟨[ch].toArray⟩ = (splitS ch [] s).map fun p => (⟨p.toArray⟩ : Str) := by
  obtain ⟨h1, h2, h3⟩ := splitS_ok ch s [] (by simp)
  have h4 : (⟨s.toArray⟩ : Str) = Txt.join ⟨[ch].toArray⟩ ((splitS ch [] s).map fun p => (⟨p.toArray⟩ : Str)) := by rw [join_same, h3]; rfl
  rw [h4]
  refine TL.split_join (s := ch) (S := []) rfl ?_ (by simpa using h1) fun p hp => ?_
  · simp; omega
  · obtain ⟨q, hq, rfl⟩ := List.mem_map.mp hp
    show ch ∉ q.toArray.toList
    simpa using (h2 q hq).1
theorem strs_dq {F : Addr → Prop} {H : Hp} : ∀ {l : List (List Nat)}, (∀ p ∈ l, ∀ x ∈ p, x < 128) → DqA c.dc F H ((l.map fun p => (⟨p.toArray⟩ : Str)).map V.str) (l.map .str)
  | [], _ => .nil
  | p :: l, h => .cons (.str p (h p List.mem_cons_self)) (strs_dq fun q hq => h q (List.mem_cons_of_mem _ hq))
theorem me_split : MtR X "str.split" (RMD c (opMe .split)) := MtR.imp mt_split fun x xs H Q ⟨F, d, a, as, z, w, ra, r, e, k⟩ => by
  replace e : meSplit a as = some z := e
  unfold meSplit at e
  split at e <;> simp at e
  obtain ⟨v, rfl, q⟩ := r.one
  obtain ⟨hl, e⟩ := e
  subst e
  rename_i s ch _
  cases ra with | str _ hs => cases q with | str _ hc =>
  have hc' : ch < 128 := hc ch (by simp)
  refine ⟨_, _, rfl, rfl, rfl, ?_, ?_⟩
  · rw [str_len]; exact Nat.le_trans hl lim_line
  · rw [split_same hc']
    have h2 := (splitS_ok ch s [] (by simp)).2.1
    exact k.newL w (strs_dq fun p hp y hy => hs y (((h2 p hp).2 y hy).resolve_left (by simp)))
end
end SG
namespace SG
open PySem PySem.Spec PyProof.Rows L2
inductive Kd where | lst (a : Addr) | tup (a : Addr) | str (s : List Nat)
def Kd.val : Kd → V
  | .lst a => .ref a | .tup a => .ref a | .str s => .str ⟨s.toArray⟩
def IterAt : Kd → Addr → Nat → Heap → Prop
  | .lst a, it, i, h => h.IsListIter it a i
  | .tup a, it, i, h => h.IsTupleIter it a i
  | .str s, it, i, h => ∃ t, h.IsStrIter it (strIterType ⟨s.toArray⟩) ⟨s.toArray⟩ t i
def Gd : Kd → List V → Hp → Prop
  | .lst a, vs, H => H a = some (.lst vs)
  | .tup a, vs, H => H a = some (.tup vs)
  | .str s, vs, _ => vs = s.map fun c => V.str ⟨#[c]⟩
theorem IterAt.at {kd : Kd} {it : Addr} {i : Nat} {h h' : Heap} (x : IterAt kd it i h) (k : ∀ o, h.get? it = some o → h'.get? it = some o) : IterAt kd it i h' := by
  cases kd with
  | lst a => exact Heap.IsListIter.at x k
  | tup a => exact Heap.IsTupleIter.at x k
  | str s => obtain ⟨t, o, e, r⟩ := x; exact ⟨t, o, k o e, r⟩
theorem IterAt.obj {kd : Kd} {it : Addr} {i : Nat} {h : Heap} (x : IterAt kd it i h) : ∃ o, h.get? it = some o ∧ ∀ v, o.data ≠ .cell v := by
  cases kd with
  | lst a => obtain ⟨o, e, c, d⟩ := x; exact ⟨o, e, fun v z => by rw [d] at z; cases z⟩
  | tup a => obtain ⟨o, e, c, d⟩ := x; exact ⟨o, e, fun v z => by rw [d] at z; cases z⟩
  | str s => obtain ⟨t, o, e, c, d⟩ := x; exact ⟨o, e, fun v z => by rw [d] at z; cases z⟩
section
variable {X : Cx} {pins : List (Addr × Obj)} {σ : L2.St} {H : Hp} {s : Shared} {A : Around}
theorem draws_of (I : Inv X pins σ H s) (hh : A.handled = none) {kd : Kd} {vs : List V} (g : Gd kd vs H) {it : Addr} {i : Nat} (hit : H it = none) (st : IterAt kd it i s.heap) :
    ∃ fp P St, Draws X.prog X.w A it fp vs.length P St ∧ it ∈ fp ∧ (∀ b ∈ fp, b = it ∨ ∃ o, H b = some o) ∧ St i s.heap ∧ (∀ j h', St j h' → IterAt kd it j h') ∧ ∀ j v, P j v → ∃ x, vs[j]? = some x ∧ RelV x v := by
  cases kd with
  | lst a =>
    obtain ⟨its, rv, p, hz⟩ := I.list (SqL.of g)
    have hne : a ≠ it := ne_of_none g hit
    have D := Draws.list (prog := X.prog) (w := X.w) hh it a hne its.toArray
    rw [List.size_toArray, ← rv.length] at D
    refine ⟨_, _, _, D, by simp, fun b hb => ?_, ⟨st, p.isList⟩, fun j h' q => q.1, fun j v q => ?_⟩
    · rcases (by simpa using hb : b = it ∨ b = a) with z | z
      · exact .inl z
      · exact .inr ⟨_, by rw [z]; exact g⟩
    · obtain ⟨x, hx, rl⟩ := Vals.get'' rv (show its[j]? = some v by simpa using q)
      exact ⟨x, hx, rl⟩
  | tup a =>
    obtain ⟨its, rv, p, hz⟩ := I.tuple (SqT.of g)
    have hne : a ≠ it := ne_of_none g hit
    have D := Draws.tuple (prog := X.prog) (w := X.w) hh it a hne its.toArray
    rw [List.size_toArray, ← rv.length] at D
    refine ⟨_, _, _, D, by simp, fun b hb => ?_, ⟨st, p⟩, fun j h' q => q.1, fun j v q => ?_⟩
    · rcases (by simpa using hb : b = it ∨ b = a) with z | z
      · exact .inl z
      · exact .inr ⟨_, by rw [z]; exact g⟩
    · obtain ⟨x, hx, rl⟩ := Vals.get'' rv (show its[j]? = some v by simpa using q)
      exact ⟨x, hx, rl⟩
  | str t =>
    obtain ⟨tk, st⟩ := st
    have D := Draws.text (prog := X.prog) (w := X.w) hh it ⟨t.toArray⟩ tk
    have e : (⟨t.toArray⟩ : Str).cps.size = vs.length := by rw [show vs = _ from g]; simp
    rw [e] at D
    refine ⟨_, _, _, D, by simp, fun b hb => .inl (by simpa using hb), st, fun j h' q => ⟨tk, q⟩, fun j v q => ?_⟩
    obtain ⟨c, u, hc, rfl⟩ := q
    refine ⟨.str ⟨#[c]⟩, ?_, ⟨u, rfl⟩⟩
    rw [show vs = _ from g, List.getElem?_map]
    have : t[j]? = some c := by simpa using hc
    rw [this]; rfl
end
def Iek (kd : Kd) (vs : List V) : It :=
  ⟨fun i H => Gd kd vs H ∧ i < vs.length, fun i H v H' => ∃ T x, v = .ref T ∧ H T = none ∧ H' = upd H T (.tup [.int (i : Nat), x]) ∧ vs[i]? = some x, fun i H => Gd kd vs H ∧ vs.length ≤ i⟩
theorem turn_enumK {P : Program} {w : World} {K : PySem.W.Frag} {elts : List Expr} {kk : Nat} {tpos : Pos} (kd : Kd) (vs : List V) (e it : Addr) :
    Turn P w K (.Tuple elts kk tpos) (Iek kd vs) [e, it] e (fun i h => (∃ old, IsEnum h e it ((i : Nat) : Int) old) ∧ IterAt kd it i h ∧ e ≠ it ∧ i ≤ vs.length) where
  mem := by simp
  obj := fun i h st b hb => by
    obtain ⟨⟨old, he⟩, hi, _⟩ := st
    have e' : b = e ∨ b = it := by simpa using hb
    rcases e' with z | z
    · rw [z]; exact ⟨_, he, fun v q => nomatch q⟩
    · rw [z]; exact hi.obj
  keep := fun i h h' st k => let ⟨⟨old, he⟩, hi, hne⟩ := st; ⟨⟨old, k e (by simp) _ he⟩, hi.at fun o q => k it (by simp) o q, hne⟩
  item := by
    intro X hP hw hK hc i pins s σ H E I hf st hg
    subst hP hw hK
    obtain ⟨⟨old, he⟩, hit, hne, _⟩ := st
    obtain ⟨g, hlt⟩ := hg
    obtain ⟨fp, P, St, D, m1, m2, st0, m3, m4⟩ := draws_of (A := X.A.in1) I (I.ok.hd hc) g (hf it (by simp)).1 hit
    have hel : e < s.heap.objs.size := Heap.lt_size he
    have hil : it < s.heap.objs.size := by obtain ⟨_, q, _⟩ := hit.obj; exact Heap.lt_size q
    have hef : e ∉ fp := fun z => by
      rcases m2 e z with q | ⟨o, q⟩
      · exact hne q
      · rw [(hf e (by simp)).1] at q; cases q
    refine wpAny_pyNext_enum_itemD D he st0 hlt hne hef fun u h' tk hP ho hst' hT hsz hk => ?_
    obtain ⟨x, hx, ru⟩ := m4 i u hP
    have hit' := m3 _ _ hst'
    refine ⟨_, rfl, wpAny_letOwnedTupleGo_enum (s := { s with heap := h', toks := tk + 1 }) ho fun h'' he' sb => ?_⟩
    have hT2 : h''.get? s.heap.objs.size = some { cls := .type "tuple", data := .seq #[.int i tk, u] } := (sb.2 _ (Nat.ne_of_gt hel)).trans hT
    have new : ObjOk X.prog X.w (upd H s.heap.objs.size (.tup [.int (i : Nat), x])) h'' s.heap.objs.size (.tup [.int (i : Nat), x]) :=
      ⟨by show 2 ≤ sizeLine; decide, [.int i tk, u], .cons ⟨_, rfl⟩ (.cons ru .nil), ⟨_, hT2, rfl, _, rfl⟩⟩
    have I1 : Inv X pins σ (upd H s.heap.objs.size (.tup [.int (i : Nat), x])) { s with heap := h'', toks := tk + 1 } :=
      I.turnedNew (ch := [e, it]) (fun b ob hb q => (sb.2 b (fun z => hb (by simp [z]))).trans (hk b ob (fun z => hb (by simp [z])) (fun z => hb (by simp [z])) q)) hf (Nat.le_refl _) new
    refine ⟨.ref s.heap.objs.size, _, I1, rfl, ⟨_, x, rfl, I.hok.fresh (Nat.le_refl _), rfl, hx⟩, ⟨⟨u, ?_⟩, hit'.at fun o q => (sb.2 it (Ne.symm hne)).trans q, hne, hlt⟩, fun b hb => ?_⟩
    · have e1 : ((i + 1 : Nat) : Int) = (i : Int) + 1 := by omega
      rw [e1]; exact he'
    · have hb' : b < s.heap.objs.size := by
        have e' : b = e ∨ b = it := by simpa using hb
        rcases e' with z | z
        · rw [z]; exact hel
        · rw [z]; exact hil
      rw [upd_ne (Nat.ne_of_lt hb')]
      exact (hf b hb).1
  done := by
    intro X hP hw hK hc i pins s σ H E I hf st hg
    subst hP hw hK
    obtain ⟨⟨old, he⟩, hit, hne, hle⟩ := st
    obtain ⟨g, hge⟩ := hg
    obtain ⟨fp, P, St, D, m1, m2, st0, m3, m4⟩ := draws_of (A := X.A.in1) I (I.ok.hd hc) g (hf it (by simp)).1 hit
    obtain ⟨f0, f1, f2, f3, f4, f5⟩ := hf it (by simp)
    have ei : i = vs.length := Nat.le_antisymm hle hge
    subst ei
    exact wpAny_pyNext_enum_endD D he st0 fun h' eb => ⟨rfl, I.turned (t' := s.toks) (fun b o hb q => eb b o hb q) f0 f1 f3 f4 f5⟩
  self := fun A i s Q E st h => let ⟨⟨_, he⟩, _⟩ := st; wpAny_pyIter_enum he h
theorem meets_enum1 {v : Value} {o : Obj} {HH : Heap → Prop} (B : Begins v o HH) :
    Meets (Builtin.«enumerate.__new__» ⟨[.type "enumerate", v], []⟩) (fun _ R s => HH s.heap ∧
      R (.ok (.ret (.ref (s.heap.push o).objs.size)))
        { s with heap := (s.heap.push o).push { cls := .type "enumerate", data := .fields #[.none, .bool false, .ref s.heap.objs.size, rawInt 0, .none, .none] } }) :=
  .of_wp fun prog w A R s h => by
    obtain ⟨hp, g, d, tk, os⟩ := s; obtain ⟨hl, h⟩ := h
    have hsub := sub_enumerate
    have q1 : ∀ {A' : Around} {E : Value → Shared → Prop} {Q : Value → Shared → Prop}, Q (.ref hp.objs.size) ⟨(hp.push o), g, d, tk, os⟩ → wpAny (model prog w) A' (pyIter v) Q E ⟨hp, g, d, tk, os⟩ :=
      fun q => B.iter prog w _ _ ⟨hp, g, d, tk, os⟩ _ hl q
    wp_walk
    refine wpAny_stack_any fun st => wpAny_pure ?_
    split
    · rename_i c _ _ _ _ _
      cases (c == Value.type "enumerate")
      · wp_walk using q1
        exact ⟨_, rfl, h⟩
      · wp_walk using q1
        exact ⟨_, rfl, h⟩
    · wp_walk using q1
      exact ⟨_, rfl, h⟩
section
variable {prog : Program} {w : World} {A : Around} {E : Value → Shared → Prop} {s : Shared}
theorem call_enum1 {v : Value} {o : Obj} {HH : Heap → Prop} {Q : Value → Shared → Prop} (B : Begins v o HH) (hH : HH s.heap)
    (h : ∀ h', IsEnum h' (s.heap.objs.size + 1) s.heap.objs.size 0 .none → h'.get? s.heap.objs.size = some o →
      (∀ b o, s.heap.get? b = some o → h'.get? b = some o) → Q (.ref (s.heap.objs.size + 1)) { s with heap := h' }) :
    wpAny (model prog w) A (call (.type "enumerate") [v]) Q E s := by
  refine callType_new F.called_enumerate (by decide) (F.typeCall_enumerate_1 _) (F.newCall_enumerate_1 _) (fun obj => F.args_object_init_2 obj _) F.entry_enumerate_new
    (meets_enum1 B) ⟨hH, ?_⟩
  have hz : (s.heap.push o).objs.size = s.heap.objs.size + 1 := Heap.size_push ..
  show _ ∧ _
  rw [hz]
  have he : IsEnum ((s.heap.push o).push
      { cls := .type "enumerate", data := .fields #[.none, .bool false, .ref s.heap.objs.size, rawInt 0, .none, .none] }) (s.heap.objs.size + 1) s.heap.objs.size 0 .none := by
    have := Heap.get?_push_size (s.heap.push o)
      (o := { cls := .type "enumerate", data := .fields #[.none, .bool false, .ref s.heap.objs.size, rawInt 0, .none, .none] }) rfl
    rw [hz] at this; exact this
  exact ⟨⟨_, he, rfl⟩, h _ he (Heap.get?_push_of_some _ (Heap.get?_push_size _ B.free)) fun b o y => Heap.get?_push_of_some _ (Heap.get?_push_of_some _ y)⟩
end
section
variable {X : Cx} {pins : List (Addr × Obj)} {σ : L2.St} {H : Hp} {s : Shared}
theorem begins_of (I : Inv X pins σ H s) {kd : Kd} {vs : List V} (g : Gd kd vs H) {u : Value} (r : RelV kd.val u) :
    ∃ o HH, Begins u o HH ∧ HH s.heap ∧ ∀ it h, h.get? it = some o → IterAt kd it 0 h := by
  cases kd with
  | lst a =>
    cases r
    obtain ⟨its, rv, p, hz⟩ := I.list (SqL.of g)
    exact ⟨_, _, begins_list a its.toArray, p.isList, fun it h e => ⟨_, e, rfl, rfl⟩⟩
  | tup a =>
    cases r
    obtain ⟨its, rv, p, hz⟩ := I.tuple (SqT.of g)
    exact ⟨_, _, begins_tuple a its.toArray, p, fun it h e => ⟨_, e, rfl, rfl⟩⟩
  | str t =>
    obtain ⟨tk, rfl⟩ := r
    exact ⟨_, _, begins_text ⟨t.toArray⟩ tk, trivial, fun it h e => ⟨tk, _, e, rfl, rfl⟩⟩
def iEnumK (ta : TA) : TI := fun σ H R => ta σ H fun vs H1 => ∃ kd xs, vs = [Kd.val kd] ∧ Gd kd xs H1 ∧ R (Iek kd xs) H1
theorem pi_enumK {e : Expr} {ta : TA} {p pos tpos : Pos} {elts : List Expr} {kk : Nat} (hg : Gl X "enumerate") (hm : X.mg "enumerate" = none) (ha : PA X [e] ta) (hs : starEach [e] X.env = [(false, eval e X.env)]) :
    PI X (.Tuple elts kk tpos) (.Call (.Name "enumerate" p) [e] [] pos) (iEnumK ta) := by
  refine ⟨fun pins s σ H R I h => ?_⟩
  refine Call_ (ld_blt I hg hm boot_enumerate (PyProof.Rows.callWith_type1 (thn (ha.run pos pins s σ H _ I h) fun us s1 ⟨vs, H1, I1, r1, q1⟩ => ?_) hs rfl))
  obtain ⟨kd, xs, ex, hq, q⟩ := q1
  subst ex
  obtain ⟨u, rfl, rl⟩ := vals1 r1
  obtain ⟨o, HH, B, hB, hit⟩ := begins_of I1 hq rl
  refine call_enum1 B hB fun h' he ho hk => wpAny_pyIter_enum he ?_
  have I2 : Inv X pins σ H1 { s1 with heap := h' } := I1.kept (t' := s1.toks) hk
  refine ⟨s1.heap.objs.size + 1, [s1.heap.objs.size + 1, s1.heap.objs.size], _, _, H1, rfl, I2, turn_enumK kd xs (s1.heap.objs.size + 1) s1.heap.objs.size, ⟨⟨.none, he⟩, hit _ _ ho, Nat.succ_ne_self _, Nat.zero_le _⟩, fun b hb => ?_, q⟩
  have e' : b = s1.heap.objs.size + 1 ∨ b = s1.heap.objs.size := by simpa using hb
  have hle : s1.heap.objs.size ≤ b := by
    rcases e' with z | z
    · rw [z]; exact Nat.le_add_right _ _
    · rw [z]; exact Nat.le_refl _
  exact I1.fpOk hle (I1.hok.fresh hle)
end
theorem walk_enumK (kd : Kd) (vs : List V) : Walk (Iek kd vs) vs.length (fun H => Gd kd vs H) (YPair (fun i => some (.int (i : Nat))) (fun i => vs[i]?)) where
  goes := fun i H hi g => ⟨g, hi⟩
  stops := fun H g => ⟨g, Nat.le_refl _⟩
  yields := fun i H x H' hi g y => by
    obtain ⟨T, z, e1, e2, e3, e4⟩ := y
    exact ⟨T, .int (i : Nat), z, e1, e2, e3, rfl, e4⟩
def Izk (k1 k2 : Kd) (vs ws : List V) : It :=
  ⟨fun i H => Gd k1 vs H ∧ Gd k2 ws H ∧ i < vs.length ∧ i < ws.length, fun i H v H' => ∃ T x y, v = .ref T ∧ H T = none ∧ H' = upd H T (.tup [x, y]) ∧ vs[i]? = some x ∧ ws[i]? = some y, fun i H => Gd k1 vs H ∧ Gd k2 ws H ∧ (vs.length ≤ i ∨ ws.length ≤ i)⟩
structure Apart5 (z TI TO i1 i2 : Addr) : Prop where
  a1 : TI ≠ z
  a2 : TO ≠ z
  a3 : TI ≠ TO
  a4 : TI ≠ i1
  a5 : TI ≠ i2
  a6 : z ≠ i1
  a7 : z ≠ i2
  a8 : TO ≠ i1
  a9 : TO ≠ i2
  a10 : i1 ≠ i2
theorem apart_n (n : Nat) : Apart5 (n + 4) (n + 2) (n + 3) n (n + 1) := by
  constructor <;> exact fun (z : (_ : Nat) = _) => by omega
theorem turn_zipK {P : Program} {w : World} {K : PySem.W.Frag} {elts : List Expr} {kk : Nat} {tpos : Pos} (k1 k2 : Kd) (vs ws : List V) {z TI TO i1 i2 : Addr} (ap : Apart5 z TI TO i1 i2) :
    Turn P w K (.Tuple elts kk tpos) (Izk k1 k2 vs ws) [z, TI, TO, i1, i2] z
      (fun i h => IsZip h z TI TO .none ∧ IsTupOf2 h TI (.ref i1) (.ref i2) ∧ (∃ x y, IsTupOf2 h TO x y) ∧ IterAt k1 i1 i h ∧ IterAt k2 i2 i h ∧ i ≤ vs.length ∧ i ≤ ws.length) where
  mem := by simp
  obj := fun i h st b hb => by
    obtain ⟨hz, h1, ⟨x, y, h2⟩, h3, h4, _⟩ := st
    have e' : b = z ∨ b = TI ∨ b = TO ∨ b = i1 ∨ b = i2 := by simpa using hb
    rcases e' with q | q | q | q | q
    · rw [q]; exact ⟨_, hz, fun v q => nomatch q⟩
    · rw [q]; exact ⟨_, h1, fun v q => nomatch q⟩
    · rw [q]; exact ⟨_, h2, fun v q => nomatch q⟩
    · rw [q]; exact h3.obj
    · rw [q]; exact h4.obj
  keep := fun i h h' st k => let ⟨hz, h1, ⟨x, y, h2⟩, h3, h4, h5⟩ := st; ⟨k z (by simp) _ hz, k TI (by simp) _ h1, ⟨x, y, k TO (by simp) _ h2⟩, h3.at fun o q => k i1 (by simp) o q, h4.at fun o q => k i2 (by simp) o q, h5⟩
  item := by
    intro X hP hw hK hc i pins s σ H E I hf st hg
    subst hP hw hK
    obtain ⟨hz, h1, ⟨a1, a2, h2⟩, h3, h4, _, _⟩ := st
    obtain ⟨g1, g2, hl1, hl2⟩ := hg
    obtain ⟨fp1, P1, St1, D1, m1, m2, st1, m3, m4⟩ := draws_of (A := X.A.in1) I (I.ok.hd hc) g1 (hf i1 (by simp)).1 h3
    obtain ⟨fp2, P2, St2, D2, n1, n2, st2, n3, n4⟩ := draws_of (A := X.A.in1) I (I.ok.hd hc) g2 (hf i2 (by simp)).1 h4
    have nf1 : ∀ b, b ∈ [z, TI, TO, i1, i2] → b ≠ i1 → b ∉ fp1 := fun b hb hn hm => by
      rcases m2 b hm with q | ⟨o, q⟩
      · exact hn q
      · rw [(hf b hb).1] at q; cases q
    have nf2 : ∀ b, b ∈ [z, TI, TO, i1, i2] → b ≠ i2 → b ∉ fp2 := fun b hb hn hm => by
      rcases n2 b hm with q | ⟨o, q⟩
      · exact hn q
      · rw [(hf b hb).1] at q; cases q
    have S : ZipSep2 z TI TO i1 i2 fp1 fp2 := ⟨ap.a1, ap.a2, ap.a3, ap.a4, m1, nf1 z (by simp) ap.a6, nf1 TO (by simp) ap.a8, ap.a5, n1, nf2 z (by simp) ap.a7, nf2 TO (by simp) ap.a9, nf2 i1 (by simp) ap.a10, nf1 i2 (by simp) (Ne.symm ap.a10)⟩
    have lz : z < s.heap.objs.size := Heap.lt_size hz
    have lTI : TI < s.heap.objs.size := Heap.lt_size h1
    have lTO : TO < s.heap.objs.size := Heap.lt_size h2
    have l1 : i1 < s.heap.objs.size := by obtain ⟨_, q, _⟩ := h3.obj; exact Heap.lt_size q
    have l2 : i2 < s.heap.objs.size := by obtain ⟨_, q, _⟩ := h4.obj; exact Heap.lt_size q
    refine wpAny_pyNext_zipD2_item S D1 D2 hz h1 h2 st1 st2 hl1 hl2 fun u1 u2 h' tk p1 p2 hz' hTO' s1' s2' hT hsz hk => ?_
    obtain ⟨x, hx, rx⟩ := m4 i u1 p1
    obtain ⟨y, hy, ry⟩ := n4 i u2 p2
    refine ⟨_, rfl, wpAny_letOwnedTupleGo_zip (s := { s with heap := h', toks := tk }) hz' fun h'' hz2 sb => ?_⟩
    have hT2 : h''.get? s.heap.objs.size = some { cls := .type "tuple", data := .seq #[u1, u2] } := (sb.2 _ (Nat.ne_of_gt lz)).trans hT
    have new : ObjOk X.prog X.w (upd H s.heap.objs.size (.tup [x, y])) h'' s.heap.objs.size (.tup [x, y]) :=
      ⟨by show 2 ≤ sizeLine; decide, [u1, u2], .cons rx (.cons ry .nil), ⟨_, hT2, rfl, _, rfl⟩⟩
    have I1 : Inv X pins σ (upd H s.heap.objs.size (.tup [x, y])) { s with heap := h'', toks := tk } :=
      I.turnedNew (ch := [z, TI, TO, i1, i2]) (fun b ob hb q => (sb.2 b (fun e => hb (by simp [e]))).trans (hk b ob (fun e => hb (by simp [e])) (fun e => hb (by simp [e])) (fun e => hb (by simp [e])) (fun e => hb (by simp [e])) q)) hf (Nat.le_refl _) new
    refine ⟨.ref s.heap.objs.size, _, I1, rfl, ⟨_, x, y, rfl, I.hok.fresh (Nat.le_refl _), rfl, hx, hy⟩, ⟨hz2, ?_, ⟨u1, u2, ?_⟩, ?_, ?_, hl1, hl2⟩, fun b hb => ?_⟩
    · exact (sb.2 _ ap.a1).trans (hk _ _ ap.a1 ap.a3 ap.a4 ap.a5 h1)
    · exact (sb.2 _ ap.a2).trans hTO'
    · exact (m3 _ _ s1').at fun o q => (sb.2 i1 (Ne.symm ap.a6)).trans q
    · exact (n3 _ _ s2').at fun o q => (sb.2 i2 (Ne.symm ap.a7)).trans q
    · have hb' : b < s.heap.objs.size := by
        have e' : b = z ∨ b = TI ∨ b = TO ∨ b = i1 ∨ b = i2 := by simpa using hb
        rcases e' with q | q | q | q | q <;> rw [q] <;> assumption
      rw [upd_ne (Nat.ne_of_lt hb')]
      exact (hf b hb).1
  done := by
    intro X hP hw hK hc i pins s σ H E I hf st hg
    subst hP hw hK
    obtain ⟨hz, h1, ⟨a1, a2, h2⟩, h3, h4, le1, le2⟩ := st
    obtain ⟨g1, g2, hl⟩ := hg
    obtain ⟨fp1, P1, St1, D1, m1, m2, st1, m3, m4⟩ := draws_of (A := X.A.in1) I (I.ok.hd hc) g1 (hf i1 (by simp)).1 h3
    obtain ⟨fp2, P2, St2, D2, n1, n2, st2, n3, n4⟩ := draws_of (A := X.A.in1) I (I.ok.hd hc) g2 (hf i2 (by simp)).1 h4
    have nf1 : ∀ b, b ∈ [z, TI, TO, i1, i2] → b ≠ i1 → b ∉ fp1 := fun b hb hn hm => by
      rcases m2 b hm with q | ⟨o, q⟩
      · exact hn q
      · rw [(hf b hb).1] at q; cases q
    have nf2 : ∀ b, b ∈ [z, TI, TO, i1, i2] → b ≠ i2 → b ∉ fp2 := fun b hb hn hm => by
      rcases n2 b hm with q | ⟨o, q⟩
      · exact hn q
      · rw [(hf b hb).1] at q; cases q
    have S : ZipSep2 z TI TO i1 i2 fp1 fp2 := ⟨ap.a1, ap.a2, ap.a3, ap.a4, m1, nf1 z (by simp) ap.a6, nf1 TO (by simp) ap.a8, ap.a5, n1, nf2 z (by simp) ap.a7, nf2 TO (by simp) ap.a9, nf2 i1 (by simp) ap.a10, nf1 i2 (by simp) (Ne.symm ap.a10)⟩
    refine wpAny_pyNext_zipD2_end S D1 D2 hz h1 h2 st1 st2 le1 le2 (by omega) fun h' tk hk => ⟨rfl, ?_⟩
    exact I.turnedL (t' := tk) (ch := [z, TI, TO, i1, i2]) (fun b o hb q => hk b o (fun e => hb (by simp [e])) (fun e => hb (by simp [e])) (fun e => hb (by simp [e])) (fun e => hb (by simp [e])) q) hf
  self := fun A i s Q E st h => wpAny_pyIter_zip st.1 h
section
variable {X : Cx}
def iZipK (ta : TA) : TI := fun σ H R => ta σ H fun vs H1 => ∃ k1 k2 xs ys, vs = [Kd.val k1, Kd.val k2] ∧ Gd k1 xs H1 ∧ Gd k2 ys H1 ∧ R (Izk k1 k2 xs ys) H1
theorem pi_zipK {e e2 : Expr} {ta : TA} {p pos tpos : Pos} {elts : List Expr} {kk : Nat} (hg : Gl X "zip") (hm : X.mg "zip" = none) (ha : PA X [e, e2] ta)
    (hs : starEach [e, e2] X.env = (false, eval e X.env) :: starEach [e2] X.env) (hpl : (backTo pos (starEach [e2] X.env)).any (·.1) = false) :
    PI X (.Tuple elts kk tpos) (.Call (.Name "zip" p) [e, e2] [] pos) (iZipK ta) := by
  refine ⟨fun pins s σ H R I h => ?_⟩
  refine Call_ (ld_blt I hg hm boot_zip (PyProof.Rows.callWith_type1 (thn (ha.run pos pins s σ H _ I h) fun us s1 ⟨vs, H1, I1, r1, q1⟩ => ?_) hs hpl))
  obtain ⟨k1, k2, xs, ys, ex, hq, hq2, q⟩ := q1
  subst ex
  obtain ⟨u, u2, rfl, rl, rl2⟩ := vals2 r1
  obtain ⟨o, HH, B, hB, hit⟩ := begins_of I1 hq rl
  obtain ⟨o2, HH2, B2, hB2, hit2⟩ := begins_of I1 hq2 rl2
  refine zip_begins2 B B2 hB hB2 fun h' hz hTI hTO g1 g2 hsz hk => wpAny_pyIter_zip hz ?_
  have I2 : Inv X pins σ H1 { s1 with heap := h' } := I1.kept (t' := s1.toks) hk
  refine ⟨s1.heap.objs.size + 4, [s1.heap.objs.size + 4, s1.heap.objs.size + 2, s1.heap.objs.size + 3, s1.heap.objs.size, s1.heap.objs.size + 1], _, _, H1, rfl, I2,
    turn_zipK k1 k2 xs ys (apart_n _), ⟨hz, hTI, ⟨_, _, hTO⟩, hit _ _ g1, hit2 _ _ g2, Nat.zero_le _, Nat.zero_le _⟩, fun b hb => ?_, q⟩
  have hle : s1.heap.objs.size ≤ b := by
    have e' : b = s1.heap.objs.size + 4 ∨ b = s1.heap.objs.size + 2 ∨ b = s1.heap.objs.size + 3 ∨ b = s1.heap.objs.size ∨ b = s1.heap.objs.size + 1 := by simpa using hb
    rcases e' with z | z | z | z | z <;> rw [z] <;> first | exact Nat.le_add_right _ _ | exact Nat.le_refl _
  exact I1.fpOk hle (I1.hok.fresh hle)
theorem walk_zipK (k1 k2 : Kd) (vs ws : List V) : Walk (Izk k1 k2 vs ws) (min vs.length ws.length) (fun H => Gd k1 vs H ∧ Gd k2 ws H) (YPair (fun i => vs[i]?) (fun i => ws[i]?)) where
  goes := fun i H hi g => ⟨g.1, g.2, by omega, by omega⟩
  stops := fun H g => ⟨g.1, g.2, by omega⟩
  yields := fun i H x H' hi g y => by
    obtain ⟨T, a, b, e1, e2, e3, e4, e5⟩ := y
    exact ⟨T, a, b, e1, e2, e3, e4, e5⟩
end
end SG
namespace SG
open PySem PySem.Spec PyProof.Rows L2
structure Ck where
  N : List Str
  fnm : Nat → Option Str
  er : Nat → Option Str
  lam : Bool
def Ck.off (ck : Ck) : Ck := { ck with lam := false }
inductive Syn where
  | ex (e : Expr) | exs (l : List Expr) | tg (e : Expr) | tgs (l : List Expr) | it (e : Expr)
def notStar : Expr → Bool
  | .Starred _ _ => false
  | _ => true
def notSlice : Expr → Bool
  | .Slice _ _ _ _ => false
  | _ => true
def notSet : Expr → Bool
  | .Set _ _ _ => false
  | _ => true
def isTupE : Expr → Bool
  | .Tuple _ _ _ => true
  | _ => false
def okName (x : Str) : Bool := !(x == ("__debug__" : Str)) && !(x == ("__classdict__" : Str))
def visB (sc : Scope) (x : Str) : Bool := match sc.names.lookup x with
  | some .local => true | some .cell => true | some .free => true | _ => false
def locB (sc : Scope) (x : Str) : Bool := match sc.names.lookup x with
  | some .local => true | some .cell => true | _ => false
def glB (sc : Scope) (x : Str) : Bool := match sc.names.lookup x with
  | some .globalImplicit => true | _ => false
def bopO : Bop → Operator
  | .add => .Add | .sub => .Sub | .mul => .Mult | .fdiv => .FloorDiv | .mod => .Mod | .pow => .Pow
def copO : Cop → CmpOp
  | .eq => .Eq | .ne => .NotEq | .lt => .Lt | .le => .LtE | .gt => .Gt | .ge => .GtE | .inn => .In | .notin => .NotIn
def bopB (o : Bop) (op : Operator) : Bool := decide (op = bopO o)
def copB (o : Cop) (op : CmpOp) : Bool := decide (op = copO o)
def biN : Bi → String
  | .len => "len" | .all => "all" | .any => "any" | .sum => "sum" | .min => "min" | .max => "max" | .min2 => "min" | .max2 => "max" | .sorted => "sorted" | .tuple => "tuple" | .list => "list" | .abs => "abs" | .int => "int"
def tyN : Ty → String
  | .str => "str" | .int => "int" | .bool => "bool" | .tuple => "tuple"
def biAr : Bi → Nat
  | .min2 => 2 | .max2 => 2 | _ => 1
def isIt : E → Bool
  | .rng1 _ => true | .rng2 _ _ => true | .enum _ => true | .zip _ _ => true | _ => false
def synIt (e : E) (x : Expr) : Syn := if isIt e then .it x else .ex x
def tgIt (e : E) (tg : Expr) : Bool := match e with
  | .enum _ => isTupE tg | .zip _ _ => isTupE tg | _ => true
def asciiB (s : List Nat) : Bool := s.all fun c => decide (c < 128)
def ownP (N : List Str) (own : List Nat) : List (Str × Nat) := own.filterMap fun i => (N[i]?).map fun x => (x, i)
def tgSl : E → List Nat
  | .var i => [i]
  | .tup es => tgSl es
  | .cons a r => tgSl a ++ tgSl r
  | _ => []
def isStrE : E → Bool
  | .str _ => true | _ => false
def strE (s : List Nat) (x : Str) : Bool := decide (x.cps.toList = s)
def kvI : List (List Nat × Int) := [([43], 1), ([45], -1), ([48], 0)]
def kvS : List (List Nat × List Nat) := [([43], [45]), ([45], [43]), ([48], [48])]
def isDI : Expr → Bool
  | .Dict [some (.Constant (.str a) _ _), some (.Constant (.str b) _ _), some (.Constant (.str c) _ _)] [.Constant (.int u) _ _, .UnaryOp .USub (.Constant (.int v) _ _) _, .Constant (.int w) _ _] _ => strE [43] a && strE [45] b && strE [48] c && decide (u = 1) && decide (v = 1) && decide (w = 0)
  | _ => false
def isDS : Expr → Bool
  | .Dict [some (.Constant (.str a) _ _), some (.Constant (.str b) _ _), some (.Constant (.str c) _ _)] [.Constant (.str u) _ _, .Constant (.str v) _ _, .Constant (.str w) _ _] _ => strE [43] a && strE [45] b && strE [48] c && strE [45] u && strE [43] v && strE [48] w
  | _ => false
def isRevE : Expr → Bool
  | .Slice none none (some (.UnaryOp .USub (.Constant (.int i) _ _) _)) _ => decide (i = 1)
  | _ => false
def isConE : Expr → Bool
  | .Constant _ _ _ => true | _ => false
def isNamE : Expr → Bool
  | .Name _ _ => true | _ => false
def noPar : Arguments → Bool
  | ⟨[], [], none, [], [], none, []⟩ => true
  | _ => false
def chk : Ck → E → Scope → Syn → Bool
  | ck, .nil, _, s => match s with
    | .exs [] => true
    | .tgs [] => true
    | _ => false
  | ck, .cons a r, sc, s => match s with
    | .exs (x :: xs) => notStar x && chk ck a sc (.ex x) && chk ck r sc (.exs xs)
    | .tgs (x :: xs) => notStar x && chk ck a sc (.tg x) && chk ck r sc (.tgs xs)
    | _ => false
  | ck, .var i, sc, s => match s with
    | .ex (.Name x _) => decide (ck.N[i]? = some x) && visB sc x && okName x
    | .tg (.Name x _) => decide (ck.N[i]? = some x) && locB sc x
    | _ => false
  | ck, .non, _, s => match s with
    | .ex (.Constant .none _ _) => true
    | _ => false
  | ck, .bl b, _, s => match s with
    | .ex (.Constant (.bool c) _ _) => b == c
    | _ => false
  | ck, .int i, _, s => match s with
    | .ex (.Constant (.int c) _ _) => decide (i = c)
    | _ => false
  | ck, .str t, _, s => match s with
    | .ex (.Constant (.str x) _ _) => strE t x && asciiB t
    | _ => false
  | ck, .tup es, sc, s => match s with
    | .ex (.Tuple l _ _) => decide (l.length ≤ 1000) && chk ck es sc (.exs l)
    | .tg (.Tuple l _ _) => chk ck es sc (.tgs l)
    | _ => false
  | ck, .lst es, sc, s => match s with
    | .ex (.List l _) => decide (l.length ≤ 1000) && chk ck es sc (.exs l)
    | _ => false
  | ck, .bin o a b, sc, s => match s with
    | .ex (.BinOp l op r _) => bopB o op && chk ck a sc (.ex l) && chk ck b sc (.ex r)
    | _ => false
  | ck, .neg a, sc, s => match s with
    | .ex (.UnaryOp .USub l _) => chk ck a sc (.ex l)
    | _ => false
  | ck, .cmp o a b, sc, s => match s with
    | .ex (.Compare l [op] [r] _) => copB o op && notSet r && chk ck a sc (.ex l) && chk ck b sc (.ex r)
    | _ => false
  | ck, .chain o p a b c, sc, s => match s with
    | .ex (.Compare l [op, op2] [m, r] _) => copB o op && copB p op2 && notSet r && chk ck a sc (.ex l) && chk ck b sc (.ex m) && chk ck c sc (.ex r)
    | _ => false
  | ck, .isn n a, sc, s => match s with
    | .ex (.Compare l [.Is] [.Constant .none _ _] _) => !n && chk ck a sc (.ex l)
    | .ex (.Compare l [.IsNot] [.Constant .none _ _] _) => n && chk ck a sc (.ex l)
    | _ => false
  | ck, .and a b, sc, s => match s with
    | .ex (.BoolOp .And [x, y] _) => chk ck a sc (.ex x) && chk ck b sc (.ex y)
    | _ => false
  | ck, .or a b, sc, s => match s with
    | .ex (.BoolOp .Or [x, y] _) => chk ck a sc (.ex x) && chk ck b sc (.ex y)
    | _ => false
  | ck, .and3 a b c, sc, s => match s with
    | .ex (.BoolOp .And [x, y, z] _) => chk ck a sc (.ex x) && chk ck b sc (.ex y) && chk ck c sc (.ex z)
    | _ => false
  | ck, .or3 a b c, sc, s => match s with
    | .ex (.BoolOp .Or [x, y, z] _) => chk ck a sc (.ex x) && chk ck b sc (.ex y) && chk ck c sc (.ex z)
    | _ => false
  | ck, .not a, sc, s => match s with
    | .ex (.UnaryOp .Not l _) => chk ck a sc (.ex l)
    | _ => false
  | ck, .ite c a b, sc, s => match s with
    | .ex (.IfExp t x y _) => chk ck c sc (.ex t) && chk ck a sc (.ex x) && chk ck b sc (.ex y)
    | _ => false
  | ck, .call f es, sc, s => match s with
    | .ex (.Call (.Name x _) (a :: l) [] _) => decide (ck.fnm f = some x) && glB sc x && chk ck es sc (.exs (a :: l))
    | _ => false
  | ck, .bi f es, sc, s => match s with
    | .ex (.Call (.Name x _) (a :: l) [] _) => decide (x = Str.ofString (biN f)) && glB sc x && decide ((a :: l).length = biAr f) && chk ck es sc (.exs (a :: l))
    | _ => false
  | ck, .isi t a, sc, s => match s with
    | .ex (.Call (.Name x _) [e, .Name y _] [] _) => decide (x = Str.ofString "isinstance") && glB sc x && decide (y = Str.ofString (tyN t)) && glB sc y && notStar e && chk ck a sc (.ex e)
    | _ => false
  | ck, .meth m o a, sc, s => match s with
    | .ex (.Call (.Attribute ob nm ap) [e] [] cp) => (match m with
        | .join => decide (nm = Str.ofString "join") && isConE ob && isStrE o
        | .index => decide (nm = Str.ofString "index") && isConE ob && isStrE o
        | .count => decide (nm = Str.ofString "count") && isNamE ob && isStrE a
        | .split => decide (nm = Str.ofString "split") && isNamE ob && isStrE a
        | _ => false) && (ap.endLine == cp.line) && notStar e && chk ck o sc (.ex ob) && chk ck a sc (.ex e)
    | _ => false
  | ck, .ix a b, sc, s => match s with
    | .ex (.Subscript l r _) => notSlice r && chk ck a sc (.ex l) && chk ck b sc (.ex r)
    | _ => false
  | ck, .sl a lo hi, sc, s => match s with
    | .ex (.Subscript l (.Slice x y none _) _) => chk ck a sc (.ex l) && (match x with | none => isNil lo | some x => chk ck lo sc (.ex x)) && (match y with | none => isNil hi | some y => chk ck hi sc (.ex y))
    | _ => false
  | ck, .rev a, sc, s => match s with
    | .ex (.Subscript l r _) => isRevE r && chk ck a sc (.ex l)
    | _ => false
  | ck, .rng1 a, sc, s => match s with
    | .it (.Call (.Name x _) [e] [] _) => decide (x = Str.ofString "range") && glB sc x && notStar e && chk ck a sc (.ex e)
    | _ => false
  | ck, .rng2 a b, sc, s => match s with
    | .it (.Call (.Name x _) [e, f] [] _) => decide (x = Str.ofString "range") && glB sc x && notStar e && notStar f && chk ck a sc (.ex e) && chk ck b sc (.ex f)
    | _ => false
  | ck, .enum a, sc, s => match s with
    | .it (.Call (.Name x _) [e] [] _) => decide (x = Str.ofString "enumerate") && glB sc x && notStar e && chk ck a sc (.ex e)
    | _ => false
  | ck, .zip a b, sc, s => match s with
    | .it (.Call (.Name x _) [e, f] [] _) => decide (x = Str.ofString "zip") && glB sc x && notStar e && notStar f && chk ck a sc (.ex e) && chk ck b sc (.ex f)
    | _ => false
  | ck, .trng a, sc, s => match s with
    | .ex (.Call (.Name x _) [.Call (.Name y _) [e] [] _] [] _) => decide (x = Str.ofString "tuple") && glB sc x && decide (y = Str.ofString "range") && glB sc y && notStar e && chk ck a sc (.ex e)
    | _ => false
  | ck, .lenum a, sc, s => match s with
    | .ex (.Call (.Name x _) [.Call (.Name y _) [e] [] _] [] _) => decide (x = Str.ofString "list") && glB sc x && decide (y = Str.ofString "enumerate") && glB sc y && notStar e && chk ck a sc (.ex e)
    | _ => false
  | ck, .ssort a, sc, s => match s with
    | .ex (.Call (.Name x _) [.Call (.Name y _) [e] [] _] [] _) => decide (x = Str.ofString "sorted") && glB sc x && decide (y = Str.ofString "set") && glB sc y && notStar e && chk ck a sc (.ex e)
    | _ => false
  | ck, .lc elt tg it own, sc, s => match s with
    | .ex (.ListComp el [⟨tg', it', [], 0⟩] scope _) => decide ((ownP ck.N own).map (·.2) = own) && blkC ck.N sc scope (ownP ck.N own) && tgIt it tg' && notSet it' && (tgSl tg).all (own.contains ·) && chk ck it sc (synIt it it') && chk ck tg scope (.tg tg') && chk ck elt (relS scope sc) (.ex el)
    | _ => false
  | ck, .lcif elt tg it c own, sc, s => match s with
    | .ex (.ListComp el [⟨tg', it', [cd], 0⟩] scope _) => decide ((ownP ck.N own).map (·.2) = own) && blkC ck.N sc scope (ownP ck.N own) && tgIt it tg' && notSet it' && (tgSl tg).all (own.contains ·) && chk ck it sc (synIt it it') && chk ck tg scope (.tg tg') && chk ck c (relS scope sc) (.ex cd) && chk ck elt (relS scope sc) (.ex el)
    | _ => false
  | ck, .lc2 elt tg1 it1 tg2 it2 own own2, sc, s => match s with
    | .ex (.ListComp el [⟨tg1', it1', [], 0⟩, ⟨tg2', it2', [], 0⟩] scope _) => decide ((ownP ck.N own).map (·.2) = own) && blkC ck.N sc scope (ownP ck.N own) && tgIt it1 tg1' && notSet it1' && (tgSl tg1).all (own.contains ·) && tgIt it2 tg2' && notSet it2' && (tgSl tg2).all (own2.contains ·) && own2.all (own.contains ·) && chk ck it1 sc (synIt it1 it1') && chk ck tg1 scope (.tg tg1') && chk ck it2 (relS scope sc) (synIt it2 it2') && chk ck tg2 scope (.tg tg2') && true && chk ck elt (relS scope sc) (.ex el)
    | _ => false
  | ck, .dget kvs e, sc, s => match s with
    | .ex (.Subscript l r _) => decide (kvs = kvI) && isDI l && notSlice r && chk ck e sc (.ex r)
    | _ => false
  | ck, .dgets kvs e, sc, s => match s with
    | .ex (.Subscript l r _) => decide (kvs = kvS) && isDS l && notSlice r && chk ck e sc (.ex r)
    | _ => false
  | ck, .oix _ _, _, _ => false
  | ck, .oit _, _, _ => false
  | ck, .olen _, _, _ => false
  | ck, .told e, sc, s => match s with
    | .ex (.Call (.Name x _) [.Lambda params body scope _] [] _) => ck.lam && decide (x = "_law_told") && glB sc x && LamX.lamSB sc scope && noPar params && chk ck.off e scope (.ex body)
    | _ => false
  | ck, .dix i j, sc, s => match s with
    | .ex (.Subscript (.Name x _) (.Constant (.int z) _ _) _) => decide (ck.N[i]? = some x) && visB sc x && okName x && decide (z = (j : Int)) && decide (j < 2)
    | _ => false
structure ES (c : Cn) (env : Env) (d : Dice) (F : Addr → Prop) (σ : L2.St) (H : Hp) : Prop where
  wf : Wf c F H d
  len : env.length = σ.length
  sh : ∀ (i : Nat) x, env[i]? = some (.sh x) → ∃ v, σ[i]? = some (some v) ∧ Dq c.dc F H v x
  ow : ∀ (i : Nat) xs, env[i]? = some (.ow xs) → ∃ p vs, σ[i]? = some (some (.ref p)) ∧ H p = some (.lst vs) ∧ DqA c.dc F H vs xs ∧ ¬ F p ∧ p ≠ c.dc
  inj : ∀ (i j : Nat) xs ys p, env[i]? = some (.ow xs) → env[j]? = some (.ow ys) → σ[i]? = some (some (.ref p)) → σ[j]? = some (some (.ref p)) → i = j
section
variable {c : Cn} {env : Env} {d d' : Dice} {F F' : Addr → Prop} {σ : L2.St} {H H' : Hp}
theorem ES.step (es : ES c env d F σ H) (st : Step c.dc F H F' H') (w : Wf c F' H' d') : ES c env d' F' σ H' where
  wf := w
  len := es.len
  sh := fun i x e => by
    obtain ⟨v, e1, q⟩ := es.sh i x e
    exact ⟨v, e1, q.mono (st.le es.wf)⟩
  ow := fun i xs e => by
    obtain ⟨p, vs, e1, h, r, nf, nd⟩ := es.ow i xs e
    refine ⟨p, vs, e1, st.keep p _ h nd (by intro ps z; cases z), r.mono (st.le es.wf), fun z => ?_, nd⟩
    rcases st.new p z with z | z | z
    · exact nf z
    · exact z.not h
    · exact nd z
  inj := es.inj
theorem ES.wipe (es : ES c env d F σ H) : ∀ vs : List Nat, ES c (env.wipe vs) d F (L2.wipe σ vs) H
  | [] => es
  | v :: vs => by
    have ih := ES.wipe es vs
    have key : ∀ (i : Nat) s, s ≠ Sl.no → ((Env.wipe env vs).set v .no)[i]? = some s → (Env.wipe env vs)[i]? = some s ∧ ((L2.wipe σ vs).set v none)[i]? = (L2.wipe σ vs)[i]? := fun i s hs e => by
      by_cases hv : i = v
      · subst hv
        rw [List.getElem?_set] at e
        simp at e
        exact absurd e.2.symm hs
      · rw [List.getElem?_set_ne (Ne.symm hv)] at e ⊢
        exact ⟨e, rfl⟩
    refine ⟨ih.wf, ?_, fun i x e => ?_, fun i xs e => ?_, fun i j xs ys p e1 e2 e3 e4 => ?_⟩
    · show ((Env.wipe env vs).set v .no).length = ((L2.wipe σ vs).set v none).length
      simpa using ih.len
    · obtain ⟨e', q⟩ := key i _ (by simp) e
      show ∃ w, ((L2.wipe σ vs).set v none)[i]? = some (some w) ∧ _
      rw [q]; exact ih.sh i x e'
    · obtain ⟨e', q⟩ := key i _ (by simp) e
      show ∃ p ws, ((L2.wipe σ vs).set v none)[i]? = some (some (.ref p)) ∧ _
      rw [q]; exact ih.ow i xs e'
    · obtain ⟨e1', q1⟩ := key i _ (by simp) e1
      obtain ⟨e2', q2⟩ := key j _ (by simp) e2
      replace e3 : ((L2.wipe σ vs).set v none)[i]? = some (some (.ref p)) := e3
      replace e4 : ((L2.wipe σ vs).set v none)[j]? = some (some (.ref p)) := e4
      rw [q1] at e3
      rw [q2] at e4
      exact ih.inj i j xs ys p e1' e2' e3 e4
theorem ES.put (es : ES c env d F σ H) {i : Nat} {x : D} {v : V} {env' : Env} (q : Dq c.dc F H v x) (e : env.put i (.sh x) = some env') : ES c env' d F (σ.set i (some v)) H := by
  unfold Env.put at e
  split at e <;> cases e
  rename_i hi
  have hi' : i < σ.length := es.len ▸ hi
  refine ⟨es.wf, by simpa using es.len, fun j y e1 => ?_, fun j xs e1 => ?_, fun j k xs ys p e1 e2 e3 e4 => ?_⟩
  · by_cases hj : j = i
    · subst hj
      rw [List.getElem?_set_self hi] at e1
      cases e1
      exact ⟨v, by rw [List.getElem?_set_self hi'], q⟩
    · rw [List.getElem?_set_ne (Ne.symm hj)] at e1 ⊢
      exact es.sh j y e1
  · by_cases hj : j = i
    · subst hj
      rw [List.getElem?_set_self hi] at e1
      cases e1
    · rw [List.getElem?_set_ne (Ne.symm hj)] at e1 ⊢
      exact es.ow j xs e1
  · have hj : j ≠ i := fun z => by subst z; rw [List.getElem?_set_self hi] at e1; cases e1
    have hk : k ≠ i := fun z => by subst z; rw [List.getElem?_set_self hi] at e2; cases e2
    rw [List.getElem?_set_ne (Ne.symm hj)] at e1 e3
    rw [List.getElem?_set_ne (Ne.symm hk)] at e2 e4
    exact es.inj j k xs ys p e1 e2 e3 e4
end
theorem ES.sameOut {c : Cn} {env : Env} {d : Dice} {F : Addr → Prop} {σ : L2.St} {H : Hp} (es : ES c env d F σ H) {i : Nat} {v : V} {x : D} {env' : Env} (e : env.put i (.sh x) = some env') : (σ.set i (some v)).length = σ.length ∧ ∀ j : Nat, j ≠ i → (σ.set i (some v))[j]? = σ[j]? :=
  ⟨by simp, fun j hj => by rw [List.getElem?_set_ne (Ne.symm hj)]⟩
section
variable (c : Cn) (W : WX) (σ : L2.St)
def RG {α : Type} (F : Addr → Prop) (H : Hp) (r : Res α) (P : α → Dice → (Addr → Prop) → Hp → Prop) : Prop := match r with
  | .ok x d' => ∀ H' F', Step c.dc F H F' H' → Wf c F' H' d' → P x d' F' H'
  | .err k d' => ∀ H' F', Step c.dc F H F' H' → Wf c F' H' d' → W (.ref (c.cl k)) none σ H'
  | .bad => False
end
section
variable {c : Cn} {W : WX} {σ : L2.St} {α β : Type} {F F1 : Addr → Prop} {H H1 : Hp} {r : Res α} {P P' : α → Dice → (Addr → Prop) → Hp → Prop}
theorem RG.step (h : RG c W σ F H r P) (st : Step c.dc F H F1 H1) : RG c W σ F1 H1 r P := by
  cases r with
  | ok x d => exact fun H' F' s w => h H' F' (st.trans s) w
  | err k d => exact fun H' F' s w => h H' F' (st.trans s) w
  | bad => exact h
theorem RG.bind {f : α → Dice → Res β} {P : β → Dice → (Addr → Prop) → Hp → Prop} (h : RG c W σ F H (r.bind f) P) : RG c W σ F H r (fun x d1 F1 H1 => RG c W σ F1 H1 (f x d1) P) := by
  cases r with
  | ok x d => exact fun H' F' s w => RG.step h s
  | err k d => exact h
  | bad => exact h
theorem RG.imp (h : RG c W σ F H r P) (i : ∀ x d' F' H', Step c.dc F H F' H' → Wf c F' H' d' → P x d' F' H' → P' x d' F' H') : RG c W σ F H r P' := by
  cases r with
  | ok x d => exact fun H' F' s w => i x d F' H' s w (h H' F' s w)
  | err k d => exact h
  | bad => exact h
theorem RG.of {o : Option α} {d : Dice} (h : RG c W σ F H (Res.of o d) P) : ∃ x, o = some x ∧ ∀ H' F', Step c.dc F H F' H' → Wf c F' H' d → P x d F' H' := by
  cases o with
  | some x => exact ⟨x, rfl, h⟩
  | none => exact h.elim
theorem RG.ok {x : α} {d : Dice} (h : RG c W σ F H (.ok x d) P) (w : Wf c F H d) : P x d F H := h H F .refl w
end
section
variable (c : Cn) (cf : CF) (W : WX) (e : E)
def tE : TE := fun σ H Q => ∃ env d F, ES c env d F σ H ∧ RG c W σ F H (ev cf e env d) fun x _ F' H' => ∀ v, Dq c.dc F' H' v x → Q v H'
def tA : TA := fun σ H Q => ∃ env d F, ES c env d F σ H ∧ RG c W σ F H (ev cf e env d) fun x _ F' H' => ∀ vs, DqA c.dc F' H' vs (tups x) → Q vs H'
def tT : TT := fun σ H Q => ∃ env d F, ES c env d F σ H ∧ RG c W σ F H (ev cf e env d) fun x _ F' H' => ∃ b, truth x = some b ∧ Q b H'
def ItOk (J : It) (F : Addr → Prop) (H : Hp) (l : List D) : Prop := ∃ G Y, Walk J l.length G Y ∧ (∀ H2 F2, Le F H F2 H2 → G H2) ∧
  ∀ (i : Nat) H2 F2 x H3 y, Le F H F2 H2 → l[i]? = some y → Y i H2 x H3 → (H3 = H2 ∧ Dq c.dc F2 H2 x y) ∨ ∃ T xs ys, x = .ref T ∧ H2 T = none ∧ H3 = upd H2 T (.tup xs) ∧ y = .tup ys ∧ DqA c.dc F2 H2 xs ys
def tI : TI := fun σ H R => ∃ env d F, ES c env d F σ H ∧ RG c W σ F H (ev cf e env d) fun x _ F' H' => ∃ l, items x = some l ∧ ∀ J, ItOk c J F' H' l → R J H'
def SameOut (vs : List Nat) (σ σ' : L2.St) : Prop := σ'.length = σ.length ∧ ∀ j : Nat, j ∉ vs → σ'[j]? = σ[j]?
def gT : TG := fun v σ H Q => ∃ env d F x, ES c env d F σ H ∧ Dq c.dc F H v x ∧ ∃ env', asg e x env = some env' ∧ ∀ σ', ES c env' d F σ' H → SameOut (tgSl e) σ σ' → Q σ' H
def gTs : TGs := fun vs σ H Q => ∃ env d F xs, ES c env d F σ H ∧ DqA c.dc F H vs xs ∧ ∃ env', asg e (.tup xs) env = some env' ∧ ∀ σ', ES c env' d F σ' H → SameOut (tgSl e) σ σ' → Q σ' H
end
theorem PE.imp {X : Cx} {x : Expr} {t t' : TE} (h : PE X x t) (i : ∀ σ H Q, t' σ H Q → t σ H Q) : PE X x t' := ⟨fun pins s σ H Q I q => h.run pins s σ H Q I (i σ H Q q)⟩
theorem PT.imp {X : Cx} {x : Expr} {t t' : TT} (h : PT X x t) (i : ∀ σ H Q, t' σ H Q → t σ H Q) : PT X x t' := ⟨fun pins s σ H Q I q => h.run pins s σ H Q I (i σ H Q q)⟩
theorem PA.imp {X : Cx} {x : List Expr} {t t' : TA} (h : PA X x t) (i : ∀ σ H Q, t' σ H Q → t σ H Q) : PA X x t' := ⟨fun pos pins s σ H Q I q => h.run pos pins s σ H Q I (i σ H Q q)⟩
theorem PI.imp {X : Cx} {tg x : Expr} {t t' : TI} (h : PI X tg x t) (i : ∀ σ H Q, t' σ H Q → t σ H Q) : PI X tg x t' := ⟨fun pins s σ H Q I q => h.run pins s σ H Q I (i σ H Q q)⟩
theorem PG.imp {X : Cx} {x : Expr} {t t' : TG} (h : PG X x t) (i : ∀ v σ H Q, t' v σ H Q → t v σ H Q) : PG X x t' := ⟨fun pins s σ H v u Q I r q => h.run pins s σ H v u Q I r (i v σ H Q q)⟩
theorem PGs.imp {X : Cx} {x : List Expr} {t t' : TGs} (h : PGs X x t) (i : ∀ v σ H Q, t' v σ H Q → t v σ H Q) : PGs X x t' := ⟨fun pins s σ H v u Q I r q => h.run pins s σ H v u Q I r (i v σ H Q q)⟩
theorem PS.imp {X : Cx} {x : Stmt} {t t' : TS} (h : PS X x t) (i : ∀ D σ H, t' D σ H → t D σ H) : PS X x t' := ⟨fun pins s σ H D I q => h.run pins s σ H D I (i D σ H q)⟩
theorem PSs.imp {X : Cx} {x : List Stmt} {t t' : TS} (h : PSs X x t) (i : ∀ D σ H, t' D σ H → t D σ H) : PSs X x t' := ⟨fun pins s σ H D I q => h.run pins s σ H D I (i D σ H q)⟩
def spF (c : Cn) (cf : CF) (f : Nat) : Sp := fun vs H Q E => ∃ F d xs, Wf c F H d ∧ DqA c.dc F H vs xs ∧ match cf f xs d with
  | .ok z d' => ∀ v H' F', Step c.dc F H F' H' → Wf c F' H' d' → Dq c.dc F' H' v z → Q v H'
  | .err k d' => ∀ H' F', Step c.dc F H F' H' → Wf c F' H' d' → E (.ref (c.cl k)) none H'
  | .bad => False
def bltNames : List String := ["len", "all", "any", "sum", "min", "max", "sorted", "tuple", "list", "abs", "int", "isinstance", "str", "bool", "range", "enumerate", "zip", "set"]
def tTold (c : Cn) (t : WX → TE) : TE := fun σ H Q => LamX.Tabs c.T H ∧ ∀ H1, LamX.ExtN H H1 → LamX.Tabs c.T H1 →
  t (fun cls dd _ H' => ∃ k, k < 11 ∧ cls = .ref (c.cl k) ∧ dd = none ∧ ∀ q H'', Same H' H'' → H'' q = some (.tup [.str ⟨errT.toArray⟩, .str ⟨(errS k).toArray⟩]) → Q (.ref q) H'') σ H1 Q
def CodeF (c : Cn) (X : Cx) : Prop := ∃ cc P, X.env.code = .ref cc ∧ LamX.TabB X.base X.mg cc P ∧ (P, X.env.qual ++ "<lambda>") ∈ c.T ∧ ∀ p ∈ c.T, p.1 = P → p.2 = X.env.qual ++ "<lambda>"
structure Alike (X Y : Cx) : Prop where
  prog : Y.prog = X.prog
  w : Y.w = X.w
  K : Y.K = X.K
  mg : Y.mg = X.mg
  base : Y.base = X.base
  N : Y.N = X.N
def ToldR (c : Cn) (k : Nat) (P : Program) (w : World) (K : PySem.W.Frag) (mg : Str → Option Value) (base : Heap) : Prop :=
  ∀ (X : Cx), X.prog = P → X.w = w → X.K = K → X.mg = mg → X.base = base → X.calm = true → Room (k + 2) X.A → CodeF c X →
    ∀ (params : Arguments) (body : Expr) (scope : Scope) (lpos p pos : Pos) (t : WX → TE), glB X.env.scope "_law_told" = true → LamX.lamSB X.env.scope scope = true → noPar params = true →
      (∀ (Y : Cx) (W : WX), Alike X Y → Y.calm = true → Room k Y.A → Y.env.scope = scope → L2N.Takes Y W → PE Y body (t W)) →
      PE X (.Call (.Name "_law_told" p) [.Lambda params body scope lpos] [] pos) (tTold c t)
structure Good (c : Cn) (ck : Ck) (cf : CF) (k : Nat) (X : Cx) : Prop where
  N : X.N = ck.N
  nd : ck.N.Nodup
  calm : X.calm = true
  room : Room k X.A
  blt : ∀ x ∈ bltNames, X.mg (Str.ofString x) = none
  fns : ∀ f nm, ck.fnm f = some nm → (nm == ("__debug__" : Str)) = false ∧ ∃ fa fd ps, X.mg nm = some (.ref fa) ∧ PySem.W.keepIn X.K (.ref fa) = true ∧ Binds X.K fd ps [] ∧ FnOk X.prog X.w X.K X.mg X.base (L2N.CX X.prog X.w) k fa fd ps (spF c cf f)
  lam : ck.lam = true → CodeF c X ∧ Room (k + 2) X.A ∧ ToldR c k X.prog X.w X.K X.mg X.base
def TgOk (X : Cx) (sc : Scope) : Prop := ∀ x, locB sc x = true → L2.Loc X.env.scope x ∧ (X.fn x = true ∨ X.env.scope.names.lookup x = some .local)
def Snd (c : Cn) (cf : CF) (X : Cx) (W : WX) (sc : Scope) (e : E) : Syn → Prop
  | .ex x => PE X x (tE c cf W e) ∧ PT X x (tT c cf W e)
  | .exs l => PA X l (tA c cf W e)
  | .tg x => TgOk X sc → PG X x (gT c e)
  | .tgs l => TgOk X sc → PGs X l (gTs c e)
  | .it x => ∀ tg, tgIt e tg = true → PI X tg x (tI c cf W e)
end SG
namespace SG
open PySem PySem.Spec PyProof.Rows L2
section
variable {c : Cn} {ck : Ck} {cf : CF} {k : Nat} {X : Cx} {W : WX}
theorem star1 {x : Expr} {l : List Expr} {env : PySem.Env} (h : notStar x = true) : starEach (x :: l) env = (false, eval x env) :: starEach l env := by
  cases x <;> first | rfl | (simp [notStar] at h)
theorem chk_star {e : E} {sc : Scope} : ∀ {l : List Expr}, chk ck e sc (.exs l) = true → l.all notStar = true := by
  induction e with
  | nil => intro l h; cases l with | nil => rfl | cons x r => exact absurd h (by simp [chk])
  | cons a r iha ihr =>
    intro l h
    cases l with
    | nil => rfl
    | cons x xs =>
      simp only [chk, Bool.and_eq_true] at h
      rw [List.all_cons, h.1.1, ihr h.2]; rfl
  | _ => intro l h; exact absurd h (by simp [chk])
theorem star_any {env : PySem.Env} {pos : Pos} : ∀ {l : List Expr}, l.all notStar = true → (backTo pos (starEach l env)).any (·.1) = false
  | [], _ => rfl
  | x :: l, h => by
    rw [List.all_cons, Bool.and_eq_true] at h
    rw [star1 h.1]
    have ih := star_any (pos := pos) (env := env) h.2
    simp only [backTo, List.map_cons, List.any_cons] at ih ⊢
    rw [ih]; rfl
theorem gl_of {x : Str} (h : glB X.env.scope x = true) : Gl X x := by
  show X.env.scope.names.lookup x = some .globalImplicit
  unfold glB at h
  split at h <;> simp_all
theorem vis_of {sc : Scope} {x : Str} (h : visB sc x = true) : Vis sc x := by
  unfold visB at h
  unfold Vis
  split at h <;> simp_all
theorem loc_of {sc : Scope} {x : Str} (h : locB sc x = true) : L2.Loc sc x := by
  unfold locB at h
  unfold L2.Loc
  split at h <;> simp_all
theorem nm_of {x : Str} (h : okName x = true) : (x == ("__debug__" : Str)) = false ∧ (x == ("__classdict__" : Str)) = false := by
  unfold okName at h
  simpa using h
theorem pt_of {x : Expr} {e : E} (h : PE X x (tE c cf W e)) (he : ∀ whole, isTrue x X.env whole = (do let v ← whole; standAt x.pos; holding [v] (truthy v))) : PT X x (tT c cf W e) :=
  PT.imp (pt_truth h he) fun σ H Q ⟨env, d, F, es, r⟩ => ⟨env, d, F, es, r.imp fun y d' F' H' st w ⟨b, hb, q⟩ v dq => by
    cases y <;> simp [truth] at hb
    · cases dq; subst hb; exact ⟨_, rfl, q⟩
    · cases dq
      refine ⟨b, ?_, q⟩
      show b = (_ != 0)
      cases b <;> simp_all [bne]⟩
theorem snd_ex {sc : Scope} {x : Expr} {e : E} (p : PE X x (tE c cf W e)) (he : ∀ whole, isTrue x X.env whole = (do let v ← whole; standAt x.pos; holding [v] (truthy v))) : Snd c cf X W sc e (.ex x) := ⟨p, pt_of p he⟩
theorem opBin_rule (o : Bop) {op : Operator} (h : bopB o op = true) : OpR X (binaryOp op) (R2D c (opBin o)) := by
  have e := of_decide_eq_true h
  subst e
  cases o
  · exact bop_add
  · exact bop_sub
  · exact bop_mul
  · exact bop_fdiv
  · exact bop_mod
  · exact bop_pow
theorem opCmp_rule (hu : X.A.units + 66 < cLine) (o : Cop) {op : CmpOp} (h : copB o op = true) : OpR X (compareOp op) (R2D c fun a b => (opCmp o a b).map .bl) := by
  have e := of_decide_eq_true h
  subst e
  cases o
  · exact cop_eq hu
  · exact cop_ne hu
  · exact cop_lt hu
  · exact cop_le hu
  · exact cop_gt hu
  · exact cop_ge hu
  · exact cop_in hu
  · exact cop_notin hu
theorem mark_of {op : CmpOp} {x : Expr} (h : notSet x = true) : behindInMarks op x = false := by
  cases x <;> first | rfl | (simp [notSet] at h)
theorem Good.units (G : Good c ck cf k X) : X.A.units + 66 < cLine := by have := G.room.un; omega
theorem s_nil {sc : Scope} {s : Syn} (h : chk ck .nil sc s = true) : Snd c cf X W sc .nil s := by
  simp only [chk] at h
  split at h
  · exact PA.imp pa_nil fun σ H Q ⟨env, d, F, es, r⟩ => r.ok es.wf _ .nil
  · exact fun _ => PGs.imp pgs_nil fun vs σ H Q ⟨env, d, F, xs, es, r, env', e, q⟩ => by
      cases xs with
      | nil =>
        cases r
        simp only [asg] at e
        cases e
        exact ⟨rfl, q σ es ⟨rfl, fun _ _ => rfl⟩⟩
      | cons x xs => simp [asg] at e
  · cases h
theorem tups_tup (x : D) (l : List D) : tups (.tup (x :: l)) = x :: l := rfl
theorem s_cons {a r : E} {sc : Scope} {s : Syn} (iha : ∀ s, chk ck a sc s = true → Snd c cf X W sc a s) (ihr : ∀ s, chk ck r sc s = true → Snd c cf X W sc r s) (h : chk ck (.cons a r) sc s = true) : Snd c cf X W sc (.cons a r) s := by
  simp only [chk] at h
  split at h
  · simp only [Bool.and_eq_true] at h
    obtain ⟨⟨h1, h2⟩, h3⟩ := h
    have pa := (iha _ h2).1
    have pr : PA X _ (tA c cf W r) := ihr _ h3
    exact PA.imp (pa_cons pa pr (star1 h1)) fun σ H Q ⟨env, d, F, es, q⟩ => by
      simp only [ev] at q
      exact ⟨env, d, F, es, q.bind.imp fun x d1 F1 H1 st w q1 v dq => ⟨env, d1, F1, es.step st w, q1.bind.imp fun y d2 F2 H2 st2 w2 q2 vs dqs => q2.ok w2 _ (.cons (dq.mono (st2.le w)) dqs)⟩⟩
  · simp only [Bool.and_eq_true] at h
    obtain ⟨⟨h1, h2⟩, h3⟩ := h
    rename_i x xs
    intro tgok
    have pa : PG X _ (gT c a) := iha _ h2 tgok
    have pr : PGs X _ (gTs c r) := ihr _ h3 tgok
    refine PGs.imp (pgs_cons pa pr ?_) fun vs σ H Q ⟨env, d, F, ys, es, q, env', e, k⟩ => ?_
    · cases x <;> first | rfl | (simp [notStar] at h1)
    · cases ys with
      | nil => simp [asg] at e
      | cons y ys =>
        cases q with
        | cons q qs =>
          simp only [asg] at e
          cases e1 : asg a y env with
          | none => rw [e1] at e; cases e
          | some env1 =>
            rw [e1] at e
            refine ⟨_, _, rfl, env, d, F, y, es, q, env1, e1, fun σ' es' so => ?_⟩
            refine ⟨env1, d, F, ys, es', qs, env', e, fun σ2 es2 so2 => k σ2 es2 ⟨so2.1.trans so.1, fun j hj => ?_⟩⟩
            simp only [tgSl, List.mem_append, not_or] at hj
            exact (so2.2 j hj.2).trans (so.2 j hj.1)
  · cases h
theorem s_var {i : Nat} {s : Syn} (G : Good c ck cf k X) (h : chk ck (.var i) X.env.scope s = true) : Snd c cf X W X.env.scope (.var i) s := by
  simp only [chk] at h
  split at h
  · simp only [Bool.and_eq_true] at h
    obtain ⟨⟨h1, h2⟩, h3⟩ := h
    have hn := of_decide_eq_true h1
    refine snd_ex (PE.imp (pe_var (i := i) (by rw [G.N]; exact hn) (vis_of h2) (nm_of h3).1 (nm_of h3).2) fun σ H Q ⟨env, d, F, es, q⟩ => by
      simp only [ev] at q
      obtain ⟨x, e, q⟩ := q.of
      unfold Env.get at e
      split at e <;> cases e
      rename_i he
      obtain ⟨v, e1, dq⟩ := es.sh i _ he
      exact ⟨v, e1, q H F .refl es.wf v dq⟩) fun _ => rfl
  · simp only [Bool.and_eq_true] at h
    obtain ⟨h1, h2⟩ := h
    have hn := of_decide_eq_true h1
    intro tgok
    exact PG.imp (pg_name (i := i) (by rw [G.N]; exact G.nd) (by rw [G.N]; exact hn) (tgok _ h2).1 (tgok _ h2).2) fun v σ H Q ⟨env, d, F, x, es, dq, env', e, q⟩ => by
      simp only [asg] at e
      refine q _ (es.put dq e) ?_
      have := es.sameOut (v := v) e
      exact ⟨this.1, fun j hj => this.2 j (by simpa [tgSl] using hj)⟩
  · cases h
theorem s_varT {i : Nat} {sc : Scope} {x : Expr} (G : Good c ck cf k X) (h : chk ck (.var i) sc (.tg x) = true) : Snd c cf X W sc (.var i) (.tg x) := by
  cases x with
  | Name x p =>
    simp only [chk, Bool.and_eq_true] at h
    obtain ⟨h1, h2⟩ := h
    have hn := of_decide_eq_true h1
    intro tgok
    exact PG.imp (pg_name (i := i) (by rw [G.N]; exact G.nd) (by rw [G.N]; exact hn) (tgok _ h2).1 (tgok _ h2).2) fun v σ H Q ⟨env, d, F, x, es, dq, env', e, q⟩ => by
      simp only [asg] at e
      refine q _ (es.put dq e) ?_
      have := es.sameOut (v := v) e
      exact ⟨this.1, fun j hj => this.2 j (by simpa [tgSl] using hj)⟩
  | _ => simp [chk] at h
theorem s_const {sc : Scope} {x : Expr} {v : V} {y : D} {e : E} (h : PE X x (tC v)) (he : ∀ whole, isTrue x X.env whole = (do let v ← whole; standAt x.pos; holding [v] (truthy v))) (hy : ∀ dc F H, Dq dc F H v y) (hev : ∀ env d, ev cf e env d = .ok y d) : Snd c cf X W sc e (.ex x) := by
  have p : PE X x (tE c cf W e) := PE.imp h fun σ H Q ⟨env, d, F, es, q⟩ => by
    rw [hev] at q
    exact q.ok es.wf _ (hy _ _ _)
  exact ⟨p, pt_of p he⟩
theorem str_of {t : List Nat} {x : Str} (h : strE t x = true) : x = ⟨t.toArray⟩ := by
  have := of_decide_eq_true h
  rw [← this]
theorem ascii_of {t : List Nat} (h : asciiB t = true) : ∀ c ∈ t, c < 128 := fun c hc => of_decide_eq_true (List.all_eq_true.mp h c hc)
theorem s_tupT {a : E} {sc : Scope} {l : List Expr} {q : Nat} {p : Pos} (G : Good c ck cf k X) (iha : ∀ l, chk ck a sc (.tgs l) = true → Snd c cf X W sc a (.tgs l)) (h : chk ck (.tup a) sc (.tg (.Tuple l q p)) = true) : Snd c cf X W sc (.tup a) (.tg (.Tuple l q p)) := by
  simp only [chk] at h
  intro tgok
  have pa : PGs X _ (gTs c a) := iha _ h tgok
  have hnn : ∀ (a : E) (l : List Expr), chk ck a sc (.tgs l) = true → l.all notStar = true := by
    intro a
    induction a with
    | nil => intro l h; cases l with | nil => rfl | cons x r => simp [chk] at h
    | cons a r iha ihr =>
      intro l h
      cases l with
      | nil => rfl
      | cons x xs =>
        simp only [chk, Bool.and_eq_true] at h
        rw [List.all_cons, h.1.1, ihr _ h.2]; rfl
    | _ => intro l h; simp [chk] at h
  have ns := hnn a l h
  have h1 : (assignEach l X.env).length = l.length ∧ (assignEach l X.env).findIdx? (·.1) = none := by
    clear h pa
    induction l with
    | nil => exact ⟨rfl, rfl⟩
    | cons x xs ih =>
      rw [List.all_cons, Bool.and_eq_true] at ns
      have e : assignEach (x :: xs) X.env = (false, assign x X.env) :: assignEach xs X.env := by
        cases x <;> first | rfl | (simp [notStar] at ns)
      obtain ⟨i1, i2⟩ := ih ns.2
      rw [e]
      refine ⟨by simp [i1], ?_⟩
      rw [List.findIdx?_cons, i2]; rfl
  have hlen : ∀ (a : E) (l : List Expr) (xs : List D) env env', chk ck a sc (.tgs l) = true → asg a (.tup xs) env = some env' → xs.length = l.length := by
    intro a
    induction a with
    | nil =>
      intro l xs env env' h e
      cases l with
      | nil => cases xs with | nil => rfl | cons x xs => simp [asg] at e
      | cons y l => simp [chk] at h
    | cons a r iha ihr =>
      intro l xs env env' h e
      cases l with
      | nil => simp [chk] at h
      | cons y l =>
        cases xs with
        | nil => simp [asg] at e
        | cons x xs =>
          simp only [chk, Bool.and_eq_true] at h
          simp only [asg] at e
          cases e1 : asg a x env with
          | none => rw [e1] at e; cases e
          | some env1 =>
            rw [e1] at e
            simp [ihr l xs env1 env' h.2 e]
    | _ => intro l xs env env' h e; simp [chk] at h
  exact PG.imp (pg_tup (n := l.length) G.calm pa h1.1 h1.2) fun v σ H Q ⟨env, d, F, x, es, dq, env', e, q⟩ => by
    cases x <;> simp [asg] at e
    cases dq with
    | tup ha r =>
      refine ⟨_, _, rfl, SqT.of ha, ?_, env, d, F, _, es, r, env', e, fun σ' es' so => q σ' es' so⟩
      rw [r.length]
      exact hlen a l _ _ _ h e
theorem s_tup {a : E} {sc : Scope} {s : Syn} (G : Good c ck cf k X) (iha : ∀ s, chk ck a sc s = true → Snd c cf X W sc a s) (tup : ∀ env d x d', ev cf a env d = .ok x d' → (∃ l, chk ck a sc (.exs l) = true) → x = .tup (tups x) ∧ ∀ l, chk ck a sc (.exs l) = true → (tups x).length = l.length) (h : chk ck (.tup a) sc s = true) : Snd c cf X W sc (.tup a) s := by
  simp only [chk] at h
  split at h
  · simp only [Bool.and_eq_true] at h
    obtain ⟨h1, h2⟩ := h
    have pa : PA X _ (tA c cf W a) := iha _ h2
    refine snd_ex (PE.imp (pe_tup pa) fun σ H Q ⟨env, d, F, es, q⟩ => by
      simp only [ev] at q
      refine ⟨env, d, F, es, ?_⟩
      cases e : ev cf a env d with
      | ok x d' =>
        rw [e] at q
        have ht := tup env d x d' e ⟨_, h2⟩
        intro H' F' st w vs dqs
        refine ⟨?_, fun p hp => ?_⟩
        · rw [dqs.length, ht.2 _ h2]
          have := of_decide_eq_true h1
          rw [sizeLine_eq]; omega
        · rw [ht.1] at q
          exact q _ F' (st.trans (.new' hp)) (w.new' hp) _ (.newT w hp dqs)
      | err n d' => rw [e] at q; exact q
      | bad => rw [e] at q; exact q) fun _ => rfl
  · exact s_tupT G (fun l h => iha _ h) (by simp only [chk]; exact h)
  · cases h
end
end SG
namespace SG
open PySem PySem.Spec PyProof.Rows L2
section
variable {c : Cn} {ck : Ck} {cf : CF} {k : Nat} {X : Cx} {W : WX}
theorem ev_list {a : E} {sc : Scope} : ∀ {l : List Expr} {env : Env} {d d' : Dice} {x : D}, chk ck a sc (.exs l) = true → ev cf a env d = .ok x d' → x = .tup (tups x) ∧ (tups x).length = l.length := by
  induction a with
  | nil =>
    intro l env d d' x h e
    cases l with
    | nil => simp only [ev] at e; cases e; exact ⟨rfl, rfl⟩
    | cons y l => simp [chk] at h
  | cons a r iha ihr =>
    intro l env d d' x h e
    cases l with
    | nil => simp [chk] at h
    | cons y l =>
      simp only [chk, Bool.and_eq_true] at h
      simp only [ev] at e
      cases e1 : ev cf a env d with
      | ok x1 d1 =>
        rw [e1] at e
        simp only [Res.bind] at e
        cases e2 : ev cf r env d1 with
        | ok x2 d2 =>
          rw [e2] at e
          cases e
          refine ⟨rfl, ?_⟩
          show (tups x2).length + 1 = l.length + 1
          rw [(ihr h.2 e2).2]
        | err n d2 => rw [e2] at e; cases e
        | bad => rw [e2] at e; cases e
      | err n d1 => rw [e1] at e; cases e
      | bad => rw [e1] at e; cases e
  | _ => intro l env d d' x h e; simp [chk] at h
theorem s_lst {a : E} {sc : Scope} {s : Syn} (iha : ∀ s, chk ck a sc s = true → Snd c cf X W sc a s) (h : chk ck (.lst a) sc s = true) : Snd c cf X W sc (.lst a) s := by
  simp only [chk] at h
  split at h
  · simp only [Bool.and_eq_true] at h
    obtain ⟨h1, h2⟩ := h
    have pa : PA X _ (tA c cf W a) := iha _ h2
    refine snd_ex (PE.imp (pe_lst pa) fun σ H Q ⟨env, d, F, es, q⟩ => ?_) fun _ => rfl
    simp only [ev] at q
    refine ⟨env, d, F, es, ?_⟩
    cases e : ev cf a env d with
    | ok x d' =>
      rw [e] at q
      have ht := ev_list h2 e
      intro H' F' st w vs dqs
      refine ⟨?_, fun p hp => ?_⟩
      · rw [dqs.length, ht.2]
        have := of_decide_eq_true h1
        rw [sizeLine_eq]; omega
      · exact q _ _ (st.trans (.newF hp)) (w.newF hp) _ (.newL w hp dqs)
    | err n d' => rw [e] at q; exact q
    | bad => rw [e] at q; exact q
  · cases h
theorem s_bin {o : Bop} {a b : E} {sc : Scope} {s : Syn} (iha : ∀ s, chk ck a sc s = true → Snd c cf X W sc a s) (ihb : ∀ s, chk ck b sc s = true → Snd c cf X W sc b s) (h : chk ck (.bin o a b) sc s = true) : Snd c cf X W sc (.bin o a b) s := by
  simp only [chk] at h
  split at h
  · simp only [Bool.and_eq_true] at h
    obtain ⟨⟨h1, h2⟩, h3⟩ := h
    refine snd_ex (PE.imp (pe_op (opBin_rule (c := c) o h1) (iha _ h2).1 (ihb _ h3).1) fun σ H Q ⟨env, d, F, es, q⟩ => ?_) fun _ => rfl
    simp only [ev] at q
    refine ⟨env, d, F, es, q.bind.imp fun x d1 F1 H1 st w q1 v dq => ⟨env, d1, F1, es.step st w, q1.bind.imp fun y d2 F2 H2 st2 w2 q2 u dq2 => ?_⟩⟩
    obtain ⟨z, ez, q3⟩ := q2.of
    exact ⟨F2, d2, x, y, z, w2, dq.mono (st2.le w), dq2, ez, fun v' H' F' s' w' r => q3 H' F' s' w' v' r⟩
  · cases h
theorem s_neg {a : E} {sc : Scope} {s : Syn} (iha : ∀ s, chk ck a sc s = true → Snd c cf X W sc a s) (h : chk ck (.neg a) sc s = true) : Snd c cf X W sc (.neg a) s := by
  simp only [chk] at h
  split at h
  · refine snd_ex (PE.imp (pe_un un_neg (iha _ h).1) fun σ H Q ⟨env, d, F, es, q⟩ => ?_) fun _ => rfl
    simp only [ev] at q
    refine ⟨env, d, F, es, q.bind.imp fun x d1 F1 H1 st w q1 v dq => ?_⟩
    cases x <;> first | exact q1.elim | skip
    cases dq
    exact ⟨_, rfl, q1.ok w _ (.int _)⟩
  · cases h
theorem cmp_go {o : Cop} {a b : E} {σ : L2.St} {H : Hp} {Q : VK} (h : tE c cf W (.cmp o a b) σ H Q) : tOp (R2D c fun a b => (opCmp o a b).map .bl) (tE c cf W a) (tE c cf W b) σ H Q := by
  obtain ⟨env, d, F, es, q⟩ := h
  simp only [ev] at q
  refine ⟨env, d, F, es, q.bind.imp fun x d1 F1 H1 st w q1 v dq => ⟨env, d1, F1, es.step st w, q1.bind.imp fun y d2 F2 H2 st2 w2 q2 u dq2 => ?_⟩⟩
  obtain ⟨z, ez, q3⟩ := q2.of
  exact ⟨F2, d2, x, y, z, w2, dq.mono (st2.le w), dq2, ez, fun v' H' F' s' w' r => q3 H' F' s' w' v' r⟩
theorem tT_of {e : E} {σ : L2.St} {H : Hp} {Q : Bool → Hp → Prop} (h : tT c cf W e σ H Q) (hb : ∀ env d x d', ev cf e env d = .ok x d' → ∃ b, x = .bl b) : tE c cf W e σ H (fun x H' => ∃ k, x = .bl k ∧ Q k H') := by
  obtain ⟨env, d, F, es, q⟩ := h
  refine ⟨env, d, F, es, ?_⟩
  cases e1 : ev cf e env d with
  | ok x d' =>
    rw [e1] at q
    obtain ⟨b, rfl⟩ := hb _ _ _ _ e1
    intro H' F' st w v dq
    obtain ⟨b', e2, q⟩ := q H' F' st w
    cases e2
    cases dq
    exact ⟨_, rfl, q⟩
  | err n d' => rw [e1] at q; exact q
  | bad => rw [e1] at q; exact q
theorem of_ok {α : Type} {o : Option α} {d d' : Dice} {x : α} (h : Res.of o d = .ok x d') : o = some x := by
  cases o <;> simp [Res.of] at h
  rw [h.1]
theorem bind_ok {α β : Type} {r : Res α} {f : α → Dice → Res β} {y : β} {d' : Dice} (h : r.bind f = .ok y d') : ∃ x d1, r = .ok x d1 ∧ f x d1 = .ok y d' := by
  cases r with
  | ok x d1 => exact ⟨x, d1, rfl, h⟩
  | err n d1 => cases h
  | bad => cases h
theorem map_bl {o : Option Bool} {x : D} (h : o.map D.bl = some x) : ∃ k, x = D.bl k := by
  cases o <;> cases h
  exact ⟨_, rfl⟩
theorem cmp_bl {o : Cop} {a b : E} {env : Env} {d d' : Dice} {x : D} (h : ev cf (.cmp o a b) env d = .ok x d') : ∃ k, x = .bl k := by
  simp only [ev] at h
  obtain ⟨y, d1, _, h⟩ := bind_ok h
  obtain ⟨z, d2, _, h⟩ := bind_ok h
  exact map_bl (of_ok h)
theorem s_cmp {o : Cop} {a b : E} {sc : Scope} {s : Syn} (G : Good c ck cf k X) (iha : ∀ s, chk ck a sc s = true → Snd c cf X W sc a s) (ihb : ∀ s, chk ck b sc s = true → Snd c cf X W sc b s) (h : chk ck (.cmp o a b) sc s = true) : Snd c cf X W sc (.cmp o a b) s := by
  simp only [chk] at h
  split at h
  · simp only [Bool.and_eq_true] at h
    obtain ⟨⟨⟨h0, h1⟩, h2⟩, h3⟩ := h
    refine ⟨PE.imp (pe_cmpR (opCmp_rule (c := c) G.units o h0) (iha _ h2).1 (ihb _ h3).1 (mark_of h1)) fun σ H Q h => cmp_go h, PT.imp (pt_cmpR (opCmp_rule (c := c) G.units o h0) (iha _ h2).1 (ihb _ h3).1 (mark_of h1)) fun σ H Q h => ?_⟩
    exact cmp_go (tT_of h fun _ _ _ _ e => cmp_bl e)
  · cases h
theorem r2_bl {o : Cop} {x y : V} {H : Hp} {Q : VK} {F : Addr → Prop} {d : Dice} {a b : D} {k : Bool} (w : Wf c F H d) (ra : Dq c.dc F H x a) (rb : Dq c.dc F H y b) (e : opCmp o a b = some k) (q : ∀ H' F', Step c.dc F H F' H' → Wf c F' H' d → Q (.bl k) H') : R2D c (fun a b => (opCmp o a b).map .bl) x y H Q :=
  ⟨F, d, a, b, .bl k, w, ra, rb, by show (opCmp o a b).map D.bl = _; rw [e]; rfl, fun v H' F' st w' dq => by cases dq; exact q H' F' st w'⟩
theorem chain_go {o p : Cop} {a b e : E} {σ : L2.St} {H : Hp} {Q : VK} (h : tE c cf W (.chain o p a b e) σ H Q) :
    tChain (R2D c fun a b => (opCmp o a b).map .bl) (R2D c fun a b => (opCmp p a b).map .bl) (tE c cf W a) (tE c cf W b) (tE c cf W e) σ H Q := by
  obtain ⟨env, d, F, es, q⟩ := h
  simp only [ev] at q
  refine ⟨env, d, F, es, q.bind.imp fun x d1 F1 H1 st w q1 v dq => ⟨env, d1, F1, es.step st w, q1.bind.imp fun y d2 F2 H2 st2 w2 q2 u dq2 => ?_⟩⟩
  have es2 := (es.step st w).step st2 w2
  cases ec : opCmp o x y with
  | none => rw [ec] at q2; exact q2.elim
  | some t =>
    rw [ec] at q2
    refine r2_bl w2 (dq.mono (st2.le w)) dq2 ec fun H3 F3 st3 w3 => ⟨t, rfl, ?_⟩
    cases t with
    | true =>
      rw [if_pos rfl]
      have q2' := q2.step st3
      refine ⟨env, d2, F3, es2.step st3 w3, q2'.bind.imp fun z d4 F4 H4 st4 w4 q4 u' dq4 => ?_⟩
      obtain ⟨z', ez, q5⟩ := q4.of
      exact ⟨F4, d4, y, z, z', w4, (dq2.mono (st3.le w2)).mono (st4.le w3), dq4, ez, fun v' H' F' s' w' r => q5 H' F' s' w' v' r⟩
    | false =>
      rw [if_neg Bool.false_ne_true]
      exact (q2.step st3).ok w3 _ (.bl _)
theorem s_chain {o p : Cop} {a b e : E} {sc : Scope} {s : Syn} (G : Good c ck cf k X) (iha : ∀ s, chk ck a sc s = true → Snd c cf X W sc a s) (ihb : ∀ s, chk ck b sc s = true → Snd c cf X W sc b s) (ihe : ∀ s, chk ck e sc s = true → Snd c cf X W sc e s) (h : chk ck (.chain o p a b e) sc s = true) : Snd c cf X W sc (.chain o p a b e) s := by
  simp only [chk] at h
  split at h
  · simp only [Bool.and_eq_true] at h
    obtain ⟨⟨⟨⟨⟨h0, h0'⟩, h1⟩, h2⟩, h3⟩, h4⟩ := h
    refine ⟨PE.imp (pe_chain (opCmp_rule (c := c) G.units o h0) (opCmp_rule (c := c) G.units p h0') (iha _ h2).1 (ihb _ h3).1 (ihe _ h4).1 (mark_of h1)) fun σ H Q h => chain_go h,
      PT.imp (pt_chain (opCmp_rule (c := c) G.units o h0) (opCmp_rule (c := c) G.units p h0') (iha _ h2).1 (ihb _ h3).1 (ihe _ h4).1 (mark_of h1)) fun σ H Q h => chain_go (tT_of h fun env d x d' e => ?_)⟩
    simp only [ev] at e
    obtain ⟨y, d1, _, e⟩ := bind_ok e
    obtain ⟨z, d2, _, e⟩ := bind_ok e
    split at e
    · obtain ⟨z, d3, _, e⟩ := bind_ok e
      exact map_bl (of_ok e)
    · cases e; exact ⟨_, rfl⟩
    · cases e
  · cases h
theorem non_dec {F : Addr → Prop} {H : Hp} {v : V} {x : D} (dq : Dq c.dc F H v x) : decide (v = .non) = (match x with | .non => true | _ => false) := by
  cases dq <;> simp
theorem s_isn {n : Bool} {a : E} {sc : Scope} {s : Syn} (iha : ∀ s, chk ck a sc s = true → Snd c cf X W sc a s) (h : chk ck (.isn n a) sc s = true) : Snd c cf X W sc (.isn n a) s := by
  have bl : ∀ env d x d', ev cf (.isn n a) env d = .ok x d' → ∃ b, x = .bl b := fun env d x d' e => by
    simp only [ev] at e
    obtain ⟨y, d1, _, e⟩ := bind_ok e
    cases e; exact ⟨_, rfl⟩
  simp only [chk] at h
  split at h
  · simp only [Bool.and_eq_true] at h
    obtain ⟨hn, h⟩ := h
    have go : ∀ σ H Q, tE c cf W (.isn n a) σ H Q → tIsN (tE c cf W a) σ H Q := fun σ H Q ⟨env, d, F, es, q⟩ => by
      simp only [ev] at q
      refine ⟨env, d, F, es, q.bind.imp fun x d1 F1 H1 st w q1 v dq => ?_⟩
      show Q (.bl _) H1
      rw [non_dec dq]
      have := q1.ok w
      refine this _ ?_
      cases n <;> cases x <;> first | exact .bl _ | (simp at hn)
    refine ⟨PE.imp (pe_cmp (pc_isN (iha _ h).1) (by rfl)) go, PT.imp (pt_cmp (pc_isN (iha _ h).1) (by rfl)) fun σ H Q hh => go _ _ _ (tT_of hh bl)⟩
  · simp only [Bool.and_eq_true] at h
    obtain ⟨hn, h⟩ := h
    have go : ∀ σ H Q, tE c cf W (.isn n a) σ H Q → tNotN (tE c cf W a) σ H Q := fun σ H Q ⟨env, d, F, es, q⟩ => by
      simp only [ev] at q
      refine ⟨env, d, F, es, q.bind.imp fun x d1 F1 H1 st w q1 v dq => ?_⟩
      show Q (.bl _) H1
      rw [non_dec dq]
      have := q1.ok w
      refine this _ ?_
      cases n <;> cases x <;> first | exact .bl _ | (simp at hn)
    refine ⟨PE.imp (pe_cmp (pc_notN (iha _ h).1) (by rfl)) go, PT.imp (pt_cmp (pc_notN (iha _ h).1) (by rfl)) fun σ H Q hh => go _ _ _ (tT_of hh bl)⟩
  · cases h
theorem iteT' {A B : Prop} (h : A) : if (true = true) then A else B := by rw [if_pos rfl]; exact h
theorem iteF' {A B : Prop} (h : B) : if (false = true) then A else B := by rw [if_neg Bool.false_ne_true]; exact h
theorem and_ok {a b : E} {env : Env} {d d' : Dice} {x : D} {t : Bool} (h : ev cf (.and a b) env d = .ok x d') (ht : truth x = some t) : ∃ y d1, ev cf a env d = .ok y d1 := by
  simp only [ev] at h
  obtain ⟨y, d1, e, _⟩ := bind_ok h
  exact ⟨y, d1, e⟩
theorem s_and {a b : E} {sc : Scope} {s : Syn} (iha : ∀ s, chk ck a sc s = true → Snd c cf X W sc a s) (ihb : ∀ s, chk ck b sc s = true → Snd c cf X W sc b s) (h : chk ck (.and a b) sc s = true) : Snd c cf X W sc (.and a b) s := by
  simp only [chk] at h
  split at h
  · simp only [Bool.and_eq_true] at h
    obtain ⟨h1, h2⟩ := h
    refine ⟨PE.imp (pe_and (iha _ h1).1 (pe_one (ihb _ h2).1)) fun σ H Q ⟨env, d, F, es, q⟩ => ?_, PT.imp (PW.pt (pw_and (iha _ h1).2 (pw_and1 (ihb _ h2).2))) fun σ H Q ⟨env, d, F, es, q⟩ => ?_⟩
    · simp only [ev] at q
      refine ⟨env, d, F, es, q.bind.imp fun x d1 F1 H1 st w q1 v dq => ?_⟩
      cases x with
      | bl t =>
        cases dq
        cases t with
        | true => exact ⟨true, rfl, iteT' ⟨env, d1, F1, es.step st w, q1⟩⟩
        | false => exact ⟨false, rfl, iteF' (q1.ok w _ (.bl _))⟩
      | _ => exact q1.elim
    · simp only [ev] at q
      refine ⟨env, d, F, es, q.bind.imp fun x d1 F1 H1 st w q1 => ?_⟩
      cases x with
      | bl t =>
        cases t with
        | true => exact ⟨true, rfl, iteT' ⟨env, d1, F1, es.step st w, q1⟩⟩
        | false =>
          obtain ⟨t, e, q⟩ := q1.ok w
          cases e
          exact ⟨false, rfl, iteF' q⟩
      | _ => exact q1.elim
  · cases h
theorem s_or {a b : E} {sc : Scope} {s : Syn} (iha : ∀ s, chk ck a sc s = true → Snd c cf X W sc a s) (ihb : ∀ s, chk ck b sc s = true → Snd c cf X W sc b s) (h : chk ck (.or a b) sc s = true) : Snd c cf X W sc (.or a b) s := by
  simp only [chk] at h
  split at h
  · simp only [Bool.and_eq_true] at h
    obtain ⟨h1, h2⟩ := h
    refine ⟨PE.imp (pe_or (iha _ h1).1 (pe_one (ihb _ h2).1)) fun σ H Q ⟨env, d, F, es, q⟩ => ?_, PT.imp (PW.pt (pw_or (iha _ h1).2 (pw_or1 (ihb _ h2).2))) fun σ H Q ⟨env, d, F, es, q⟩ => ?_⟩
    · simp only [ev] at q
      refine ⟨env, d, F, es, q.bind.imp fun x d1 F1 H1 st w q1 v dq => ?_⟩
      cases x with
      | bl t =>
        cases dq
        cases t with
        | false => exact ⟨false, rfl, iteF' ⟨env, d1, F1, es.step st w, q1⟩⟩
        | true => exact ⟨true, rfl, iteT' (q1.ok w _ (.bl _))⟩
      | _ => exact q1.elim
    · simp only [ev] at q
      refine ⟨env, d, F, es, q.bind.imp fun x d1 F1 H1 st w q1 => ?_⟩
      cases x with
      | bl t =>
        cases t with
        | false => exact ⟨false, rfl, iteF' ⟨env, d1, F1, es.step st w, q1⟩⟩
        | true =>
          obtain ⟨t, e, q⟩ := q1.ok w
          cases e
          exact ⟨true, rfl, iteT' q⟩
      | _ => exact q1.elim
  · cases h
theorem s_and3 {a b e : E} {sc : Scope} {s : Syn} (iha : ∀ s, chk ck a sc s = true → Snd c cf X W sc a s) (ihb : ∀ s, chk ck b sc s = true → Snd c cf X W sc b s) (ihe : ∀ s, chk ck e sc s = true → Snd c cf X W sc e s) (h : chk ck (.and3 a b e) sc s = true) : Snd c cf X W sc (.and3 a b e) s := by
  simp only [chk] at h
  split at h
  · simp only [Bool.and_eq_true] at h
    obtain ⟨⟨h1, h2⟩, h3⟩ := h
    refine ⟨PE.imp (pe_and (iha _ h1).1 (pe_and (ihb _ h2).1 (pe_one (ihe _ h3).1))) fun σ H Q ⟨env, d, F, es, q⟩ => ?_, PT.imp (PW.pt (pw_and (iha _ h1).2 (pw_and (ihb _ h2).2 (pw_and1 (ihe _ h3).2)))) fun σ H Q ⟨env, d, F, es, q⟩ => ?_⟩
    · simp only [ev] at q
      refine ⟨env, d, F, es, q.bind.imp fun x d1 F1 H1 st w q1 v dq => ?_⟩
      cases x with
      | bl t =>
        cases dq
        cases t with
        | true =>
          refine ⟨true, rfl, iteT' ⟨env, d1, F1, es.step st w, q1.bind.imp fun x d2 F2 H2 st2 w2 q2 v dq => ?_⟩⟩
          cases x with
          | bl t =>
            cases dq
            cases t with
            | true => exact ⟨true, rfl, iteT' ⟨env, d2, F2, (es.step st w).step st2 w2, q2⟩⟩
            | false => exact ⟨false, rfl, iteF' (q2.ok w2 _ (.bl _))⟩
          | _ => exact q2.elim
        | false => exact ⟨false, rfl, iteF' (q1.ok w _ (.bl _))⟩
      | _ => exact q1.elim
    · simp only [ev] at q
      refine ⟨env, d, F, es, q.bind.imp fun x d1 F1 H1 st w q1 => ?_⟩
      cases x with
      | bl t =>
        cases t with
        | true =>
          refine ⟨true, rfl, iteT' ⟨env, d1, F1, es.step st w, q1.bind.imp fun x d2 F2 H2 st2 w2 q2 => ?_⟩⟩
          cases x with
          | bl t =>
            cases t with
            | true => exact ⟨true, rfl, iteT' ⟨env, d2, F2, (es.step st w).step st2 w2, q2⟩⟩
            | false =>
              obtain ⟨t, e, q⟩ := q2.ok w2
              cases e
              exact ⟨false, rfl, iteF' q⟩
          | _ => exact q2.elim
        | false =>
          obtain ⟨t, e, q⟩ := q1.ok w
          cases e
          exact ⟨false, rfl, iteF' q⟩
      | _ => exact q1.elim
  · cases h
theorem s_or3 {a b e : E} {sc : Scope} {s : Syn} (iha : ∀ s, chk ck a sc s = true → Snd c cf X W sc a s) (ihb : ∀ s, chk ck b sc s = true → Snd c cf X W sc b s) (ihe : ∀ s, chk ck e sc s = true → Snd c cf X W sc e s) (h : chk ck (.or3 a b e) sc s = true) : Snd c cf X W sc (.or3 a b e) s := by
  simp only [chk] at h
  split at h
  · simp only [Bool.and_eq_true] at h
    obtain ⟨⟨h1, h2⟩, h3⟩ := h
    refine ⟨PE.imp (pe_or (iha _ h1).1 (pe_or (ihb _ h2).1 (pe_one (ihe _ h3).1))) fun σ H Q ⟨env, d, F, es, q⟩ => ?_, PT.imp (PW.pt (pw_or (iha _ h1).2 (pw_or (ihb _ h2).2 (pw_or1 (ihe _ h3).2)))) fun σ H Q ⟨env, d, F, es, q⟩ => ?_⟩
    · simp only [ev] at q
      refine ⟨env, d, F, es, q.bind.imp fun x d1 F1 H1 st w q1 v dq => ?_⟩
      cases x with
      | bl t =>
        cases dq
        cases t with
        | false =>
          refine ⟨false, rfl, iteF' ⟨env, d1, F1, es.step st w, q1.bind.imp fun x d2 F2 H2 st2 w2 q2 v dq => ?_⟩⟩
          cases x with
          | bl t =>
            cases dq
            cases t with
            | false => exact ⟨false, rfl, iteF' ⟨env, d2, F2, (es.step st w).step st2 w2, q2⟩⟩
            | true => exact ⟨true, rfl, iteT' (q2.ok w2 _ (.bl _))⟩
          | _ => exact q2.elim
        | true => exact ⟨true, rfl, iteT' (q1.ok w _ (.bl _))⟩
      | _ => exact q1.elim
    · simp only [ev] at q
      refine ⟨env, d, F, es, q.bind.imp fun x d1 F1 H1 st w q1 => ?_⟩
      cases x with
      | bl t =>
        cases t with
        | false =>
          refine ⟨false, rfl, iteF' ⟨env, d1, F1, es.step st w, q1.bind.imp fun x d2 F2 H2 st2 w2 q2 => ?_⟩⟩
          cases x with
          | bl t =>
            cases t with
            | false => exact ⟨false, rfl, iteF' ⟨env, d2, F2, (es.step st w).step st2 w2, q2⟩⟩
            | true =>
              obtain ⟨t, e, q⟩ := q2.ok w2
              cases e
              exact ⟨true, rfl, iteT' q⟩
          | _ => exact q2.elim
        | true =>
          obtain ⟨t, e, q⟩ := q1.ok w
          cases e
          exact ⟨true, rfl, iteT' q⟩
      | _ => exact q1.elim
  · cases h
theorem s_not {a : E} {sc : Scope} {s : Syn} (iha : ∀ s, chk ck a sc s = true → Snd c cf X W sc a s) (h : chk ck (.not a) sc s = true) : Snd c cf X W sc (.not a) s := by
  simp only [chk] at h
  split at h
  · refine ⟨PE.imp (pe_not (iha _ h).1) fun σ H Q ⟨env, d, F, es, q⟩ => ?_, PT.imp (pt_not (iha _ h).2) fun σ H Q ⟨env, d, F, es, q⟩ => ?_⟩
    · simp only [ev] at q
      refine ⟨env, d, F, es, q.bind.imp fun x d1 F1 H1 st w q1 v dq => ?_⟩
      cases x with
      | bl t => cases dq; exact ⟨_, rfl, q1.ok w _ (.bl _)⟩
      | _ => exact q1.elim
    · simp only [ev] at q
      refine ⟨env, d, F, es, q.bind.imp fun x d1 F1 H1 st w q1 => ?_⟩
      cases x with
      | bl t =>
        obtain ⟨t', e, q⟩ := q1.ok w
        cases e
        exact ⟨t, rfl, q⟩
      | _ => exact q1.elim
  · cases h
theorem pt_ifExp {t x y : Expr} {pos : Pos} {tt tx ty : TT} (ht : PT X t tt) (hx : PT X x tx) (hy : PT X y ty) : PT X (.IfExp t x y pos) (fun σ H Q => tt σ H fun b H1 => if b = true then tx σ H1 Q else ty σ H1 Q) := by
  refine ⟨fun pins s σ H Q I h => ?_⟩
  show wpAny _ _ (do if ← isTrue t X.env (eval t X.env) then isTrue x X.env (eval x X.env) else isTrue y X.env (eval y X.env)) _ _ _
  refine wpAny_bind (thn (ht.run pins s σ H _ I h) fun b s1 ⟨H1, I1, q1⟩ => ?_)
  cases b with
  | true =>
    rw [if_pos rfl] at q1
    simp only [if_true]
    exact hx.run pins s1 σ H1 Q I1 q1
  | false =>
    rw [if_neg Bool.false_ne_true] at q1
    simp only [Bool.false_eq_true, if_false]
    exact hy.run pins s1 σ H1 Q I1 q1
theorem s_ite {t a b : E} {sc : Scope} {s : Syn} (iht : ∀ s, chk ck t sc s = true → Snd c cf X W sc t s) (iha : ∀ s, chk ck a sc s = true → Snd c cf X W sc a s) (ihb : ∀ s, chk ck b sc s = true → Snd c cf X W sc b s) (h : chk ck (.ite t a b) sc s = true) : Snd c cf X W sc (.ite t a b) s := by
  simp only [chk] at h
  split at h
  · simp only [Bool.and_eq_true] at h
    obtain ⟨⟨h1, h2⟩, h3⟩ := h
    refine ⟨PE.imp (pe_ifExp (iht _ h1).2 (iha _ h2).1 (ihb _ h3).1) fun σ H Q ⟨env, d, F, es, q⟩ => ?_, PT.imp (pt_ifExp (iht _ h1).2 (iha _ h2).2 (ihb _ h3).2) fun σ H Q ⟨env, d, F, es, q⟩ => ?_⟩
    · simp only [ev] at q
      refine ⟨env, d, F, es, q.bind.imp fun x d1 F1 H1 st w q1 => ?_⟩
      cases ht : truth x with
      | none => rw [ht] at q1; exact q1.elim
      | some u =>
        rw [ht] at q1
        refine ⟨u, rfl, ?_⟩
        cases u with
        | true => exact iteT' ⟨env, d1, F1, es.step st w, q1⟩
        | false => exact iteF' ⟨env, d1, F1, es.step st w, q1⟩
    · simp only [ev] at q
      refine ⟨env, d, F, es, q.bind.imp fun x d1 F1 H1 st w q1 => ?_⟩
      cases ht : truth x with
      | none => rw [ht] at q1; exact q1.elim
      | some u =>
        rw [ht] at q1
        refine ⟨u, rfl, ?_⟩
        cases u with
        | true => exact iteT' ⟨env, d1, F1, es.step st w, q1⟩
        | false => exact iteF' ⟨env, d1, F1, es.step st w, q1⟩
  · cases h
theorem s_call {f : Nat} {a : E} {s : Syn} (G : Good c ck cf k X) (tk : L2N.Takes X W) (iha : ∀ s, chk ck a X.env.scope s = true → Snd c cf X W X.env.scope a s) (h : chk ck (.call f a) X.env.scope s = true) : Snd c cf X W X.env.scope (.call f a) s := by
  simp only [chk] at h
  split at h
  · simp only [Bool.and_eq_true] at h
    obtain ⟨⟨h1, h2⟩, h3⟩ := h
    have hs := chk_star h3
    rw [List.all_cons, Bool.and_eq_true] at hs
    obtain ⟨nd, fa, fd, ps, m1, m2, m3, m4⟩ := G.fns f _ (of_decide_eq_true h1)
    have pa : PA X _ (tA c cf W a) := iha _ h3
    refine snd_ex (PE.imp (pe_callS m4 G.room (gl_of h2) m1 m2 m3 (fun σ => L2N.passAt tk σ) pa nd (star1 hs.1) (star_any hs.2)) fun σ H Q ⟨env, d, F, es, q⟩ => ?_) fun _ => rfl
    simp only [ev] at q
    refine ⟨env, d, F, es, q.bind.imp fun x d1 F1 H1 st w q1 vs dqs => ⟨F1, d1, tups x, w, dqs, ?_⟩⟩
    cases e : cf f (tups x) d1 with
    | ok z d2 => rw [e] at q1; exact fun v H' F' s' w' r => q1 H' F' s' w' v r
    | err n d2 => rw [e] at q1; exact fun H' F' s' w' => q1 H' F' s' w'
    | bad => rw [e] at q1; exact q1
  · cases h
theorem bi_go {f : Bi} {a : E} {σ : L2.St} {H : Hp} {Q : VK} (h : tE c cf W (.bi f a) σ H Q) : tCB (RLD c (opBi f)) (tA c cf W a) σ H Q := by
  obtain ⟨env, d, F, es, q⟩ := h
  simp only [ev] at q
  refine ⟨env, d, F, es, q.bind.imp fun x d1 F1 H1 st w q1 vs dqs => ?_⟩
  obtain ⟨z, ez, q2⟩ := q1.of
  exact ⟨F1, d1, tups x, z, w, dqs, ez, fun v H' F' s' w' r => q2 H' F' s' w' v r⟩
theorem s_bi {f : Bi} {a : E} {s : Syn} (G : Good c ck cf k X) (iha : ∀ s, chk ck a X.env.scope s = true → Snd c cf X W X.env.scope a s) (h : chk ck (.bi f a) X.env.scope s = true) : Snd c cf X W X.env.scope (.bi f a) s := by
  simp only [chk] at h
  split at h
  · simp only [Bool.and_eq_true] at h
    obtain ⟨⟨⟨h1, h2⟩, h4⟩, h3⟩ := h
    have hx := of_decide_eq_true h1
    subst hx
    have hs := chk_star h3
    rw [List.all_cons, Bool.and_eq_true] at hs
    have pa : PA X _ (tA c cf W a) := iha _ h3
    have hg := gl_of (X := X) h2
    have hu := G.units
    have cb : ∀ {id : String} {nm : String}, nm ∈ bltNames → Gl X (Str.ofString nm) → CallR X (.builtin id) (RLD c (opBi f)) → bootBuiltins (Str.ofString nm) = some (.builtin id) → Str.ofString nm ≠ "__name__" → (Str.ofString nm == ("__debug__" : Str)) = false →
        ∀ {p pos : Pos}, Snd c cf X W X.env.scope (.bi f a) (.ex (.Call (.Name (Str.ofString nm) p) _ [] pos)) := fun hn hg hr hv n1 n2 p pos =>
      snd_ex (PE.imp (pe_callB hr hg (G.blt _ hn) hv pa n1 n2 (star1 hs.1) (star_any hs.2)) fun σ H Q h => bi_go h) fun _ => rfl
    have ct : ∀ {id : String} {nm : String}, nm ∈ bltNames → Gl X (Str.ofString nm) → CallR X (.type id) (RLD c (opBi f)) → bootBuiltins (Str.ofString nm) = some (.type id) → Str.ofString nm ≠ "__name__" → (Str.ofString nm == ("__debug__" : Str)) = false →
        ∀ {p pos : Pos}, Snd c cf X W X.env.scope (.bi f a) (.ex (.Call (.Name (Str.ofString nm) p) _ [] pos)) := fun hn hg hr hv n1 n2 p pos =>
      snd_ex (PE.imp (pe_callTy hr hg (G.blt _ hn) hv pa n1 n2 (star1 hs.1) (star_any hs.2)) fun σ H Q h => bi_go h) fun _ => rfl
    cases f
    · exact cb (nm := "len") (by decide) hg bi_len (by decide +kernel) (by decide) (by decide)
    · exact cb (nm := "all") (by decide) hg (bi_all G.calm) (by decide +kernel) (by decide) (by decide)
    · exact cb (nm := "any") (by decide) hg (bi_any G.calm) (by decide +kernel) (by decide) (by decide)
    · exact cb (nm := "sum") (by decide) hg (bi_sum G.calm) (by decide +kernel) (by decide) (by decide)
    · exact cb (nm := "min") (by decide) hg (bi_min G.calm hu) (by decide +kernel) (by decide) (by decide)
    · exact cb (nm := "max") (by decide) hg (bi_max G.calm hu) (by decide +kernel) (by decide) (by decide)
    · exact cb (nm := "min") (by decide) hg (bi_min2 G.calm) (by decide +kernel) (by decide) (by decide)
    · exact cb (nm := "max") (by decide) hg (bi_max2 G.calm) (by decide +kernel) (by decide) (by decide)
    · exact cb (nm := "sorted") (by decide) hg (bi_sorted hu) (by decide +kernel) (by decide) (by decide)
    · exact ct (nm := "tuple") (by decide) hg bi_tuple (by decide +kernel) (by decide) (by decide)
    · exact ct (nm := "list") (by decide) hg (bi_list G.calm) (by decide +kernel) (by decide) (by decide)
    · exact cb (nm := "abs") (by decide) hg bi_abs (by decide +kernel) (by decide) (by decide)
    · exact ct (nm := "int") (by decide) hg bi_int (by decide +kernel) (by decide) (by decide)
  · cases h
end
end SG
namespace SG
open PySem PySem.Spec PyProof.Rows L2
section
variable {c : Cn} {ck : Ck} {cf : CF} {k : Nat} {X : Cx} {W : WX}
theorem ty_of {F : Addr → Prop} {H : Hp} {K : PySem.W.Frag} {v : V} {x : D} (dq : Dq c.dc F H v x) (hn : x ≠ .die) : ∃ t : String, TyX K H v (.type t) ∧ ∀ ty : Ty, ∀ b, isI ty x = some b → kitB t (tyN ty) = some b := by
  cases dq with
  | non => exact ⟨_, .base .non, fun ty b e => by cases ty <;> simp [isI] at e <;> subst e <;> decide +kernel⟩
  | bl b => exact ⟨_, .base (.bl _), fun ty b e => by cases ty <;> simp [isI] at e <;> subst e <;> decide +kernel⟩
  | int i => exact ⟨_, .base (.int _), fun ty b e => by cases ty <;> simp [isI] at e <;> subst e <;> decide +kernel⟩
  | str s h => exact ⟨_, .base (.str _), fun ty b e => by cases ty <;> simp [isI] at e <;> subst e <;> decide +kernel⟩
  | tup h r => exact ⟨_, .base (.tup h), fun ty b e => by cases ty <;> simp [isI] at e <;> subst e <;> decide +kernel⟩
  | lst f h r => exact ⟨_, .base (.lst h), fun ty b e => by cases ty <;> simp [isI] at e <;> subst e <;> decide +kernel⟩
  | die => exact absurd rfl hn
theorem s_isi {t : Ty} {a : E} {s : Syn} (G : Good c ck cf k X) (iha : ∀ s, chk ck a X.env.scope s = true → Snd c cf X W X.env.scope a s) (h : chk ck (.isi t a) X.env.scope s = true) : Snd c cf X W X.env.scope (.isi t a) s := by
  simp only [chk] at h
  split at h
  · simp only [Bool.and_eq_true] at h
    obtain ⟨⟨⟨⟨⟨h1, h2⟩, h3⟩, h4⟩, h5⟩, h6⟩ := h
    have hx := of_decide_eq_true h1
    have hy := of_decide_eq_true h3
    subst hx hy
    have tyb : bootBuiltins (Str.ofString (tyN t)) = some (.type (tyN t)) ∧ Str.ofString (tyN t) ≠ "__name__" ∧ (Str.ofString (tyN t) == ("__debug__" : Str)) = false ∧ tyN t ∈ bltNames := by
      cases t
      · exact ⟨by decide +kernel, by decide, by decide, by decide⟩
      · exact ⟨by decide +kernel, by decide, by decide, by decide⟩
      · exact ⟨by decide +kernel, by decide, by decide, by decide⟩
      · exact ⟨by decide +kernel, by decide, by decide, by decide⟩
    have pt : ∀ {p : Pos}, PE X (.Name (Str.ofString (tyN t)) p) (tC (.ty (tyN t))) := fun {p} => pe_bltn (gl_of h4) (G.blt _ tyb.2.2.2) tyb.1 rfl tyb.2.1 tyb.2.2.1
    refine snd_ex (PE.imp (pe_callB (x := Str.ofString "isinstance") call_isi (gl_of h2) (G.blt "isinstance" (by decide)) (by decide +kernel) (pa_cons (iha _ h6).1 (pa_cons pt pa_nil rfl) (star1 h5)) (by decide) (by decide) (star1 h5) rfl) fun σ H Q ⟨env, d, F, es, q⟩ => ?_) fun _ => rfl
    simp only [ev] at q
    refine ⟨env, d, F, es, q.bind.imp fun x d1 F1 H1 st w q1 v dq => ?_⟩
    obtain ⟨z, ez, q2⟩ := q1.of
    cases eb : isI t x with
    | none => rw [eb] at ez; cases ez
    | some b =>
      rw [eb] at ez
      cases ez
      obtain ⟨ts, tx, hk⟩ := ty_of (K := X.K) dq (fun z => by rw [z] at eb; simp [isI] at eb)
      exact ⟨v, .ty (tyN t), .type ts, .type (tyN t), b, rfl, .ty _, tx, kit_ty (hk t b eb), q2 H1 F1 .refl w _ (.bl _)⟩
  · cases h
theorem s_meth {m : Me} {o a : E} {sc : Scope} {s : Syn} (iho : ∀ s, chk ck o sc s = true → Snd c cf X W sc o s) (iha : ∀ s, chk ck a sc s = true → Snd c cf X W sc a s) (h : chk ck (.meth m o a) sc s = true) : Snd c cf X W sc (.meth m o a) s := by
  simp only [chk] at h
  split at h
  · simp only [Bool.and_eq_true] at h
    obtain ⟨⟨⟨⟨h1, h2⟩, h7⟩, h4⟩, h5⟩ := h
    rename_i ob nm ap e cp
    have go : isStrE o = true → ∀ σ H Q, tE c cf W (.meth m o a) σ H Q → tM1 (RMD c (opMe m)) (tE c cf W o) (tE c cf W a) σ H Q := fun ho σ H Q ⟨env, d, F, es, q⟩ => by
      cases o <;> first | (simp [isStrE] at ho; done) | skip
      rename_i t _
      simp only [ev] at q
      refine ⟨env, d, F, es, ?_⟩
      simp only [ev]
      intro H1 F1 st w v dq
      have q1 : RG c W σ F1 H1 ((ev cf a env d).bind fun y d => .of (opMe m (.str t) [y]) d) _ := RG.step q st
      have dq' := dq
      cases dq'
      refine ⟨⟨_, rfl⟩, env, d, F1, es.step st w, q1.bind.imp fun y d2 F2 H2 st2 w2 q2 u dq2 => ?_⟩
      obtain ⟨z, ez, q3⟩ := q2.of
      exact ⟨F2, d2, _, [y], z, w2, dq.mono (st2.le w), .cons dq2 .nil, ez, fun v' H' F' s' w' r => q3 H' F' s' w' v' r⟩
    have go2 : isStrE a = true → (∀ x y z, opMe m x [y] = some z → ∃ t, x = .str t) → ∀ σ H Q, tE c cf W (.meth m o a) σ H Q → tM1 (RMD c (opMe m)) (tE c cf W o) (tE c cf W a) σ H Q := fun ha hm σ H Q ⟨env, d, F, es, q⟩ => by
      cases a <;> first | (simp [isStrE] at ha; done) | skip
      rename_i t _
      simp only [ev] at q
      refine ⟨env, d, F, es, q.bind.imp fun x d1 F1 H1 st w q1 v dq => ?_⟩
      have q1' : RG c W σ F1 H1 (.of (opMe m x [.str t]) d1) _ := q1
      obtain ⟨z, ez, q3⟩ := q1'.of
      obtain ⟨tx, rfl⟩ := hm _ _ _ ez
      have dq' := dq
      cases dq'
      refine ⟨⟨_, rfl⟩, env, d1, F1, es.step st w, ?_⟩
      simp only [ev]
      intro H2 F2 st2 w2 u dq2
      exact ⟨F2, d1, _, [.str t], z, w2, dq.mono (st2.le w), .cons dq2 .nil, ez, fun v' H' F' s' w' r => q3 H' F' (st2.trans s') w' v' r⟩
    cases m with
    | join =>
      simp only [Bool.and_eq_true] at h1
      have e1 := of_decide_eq_true h1.1.1
      subst e1
      exact snd_ex (PE.imp (pe_m1 PySem.F.slot_str_join PySem.F.type_str_join me_join (iho _ h4).1 (iha _ h5).1 (star1 h7) (by have := h1.1.2; cases ob <;> first | rfl | (simp [isConE] at this)) h2) (go h1.2)) fun _ => rfl
    | index =>
      simp only [Bool.and_eq_true] at h1
      have e1 := of_decide_eq_true h1.1.1
      subst e1
      exact snd_ex (PE.imp (pe_m1 PySem.F.slot_str_index PySem.F.type_str_index me_index (iho _ h4).1 (iha _ h5).1 (star1 h7) (by have := h1.1.2; cases ob <;> first | rfl | (simp [isConE] at this)) h2) (go h1.2)) fun _ => rfl
    | count =>
      simp only [Bool.and_eq_true] at h1
      have e1 := of_decide_eq_true h1.1.1
      subst e1
      exact snd_ex (PE.imp (pe_m1 PySem.F.slot_str_count PySem.F.type_str_count me_count (iho _ h4).1 (iha _ h5).1 (star1 h7) (by have := h1.1.2; cases ob <;> first | rfl | (simp [isNamE] at this)) h2) (go2 h1.2 fun x y z hz => by
        replace hz : meCount x [y] = some z := hz
        unfold meCount at hz
        split at hz
        · exact ⟨_, rfl⟩
        · cases hz)) fun _ => rfl
    | split =>
      simp only [Bool.and_eq_true] at h1
      have e1 := of_decide_eq_true h1.1.1
      subst e1
      exact snd_ex (PE.imp (pe_m1 PySem.F.slot_str_split PySem.F.type_str_split me_split (iho _ h4).1 (iha _ h5).1 (star1 h7) (by have := h1.1.2; cases ob <;> first | rfl | (simp [isNamE] at this)) h2) (go2 h1.2 fun x y z hz => by
        replace hz : meSplit x [y] = some z := hz
        unfold meSplit at hz
        split at hz
        · exact ⟨_, rfl⟩
        · cases hz)) fun _ => rfl
    | _ => simp at h1
  · cases h
theorem plain_ix {x : Expr} (h : notSlice x = true) : PlainIx x := by
  intro o i
  cases x <;> first | rfl | (simp [notSlice] at h)
theorem s_ix {a b : E} {sc : Scope} {s : Syn} (iha : ∀ s, chk ck a sc s = true → Snd c cf X W sc a s) (ihb : ∀ s, chk ck b sc s = true → Snd c cf X W sc b s) (h : chk ck (.ix a b) sc s = true) : Snd c cf X W sc (.ix a b) s := by
  simp only [chk] at h
  split at h
  · simp only [Bool.and_eq_true] at h
    obtain ⟨⟨h1, h2⟩, h3⟩ := h
    refine snd_ex (PE.imp (pe_ix (ix_D (c := c)) (iha _ h2).1 (ihb _ h3).1 (plain_ix h1)) fun σ H Q ⟨env, d, F, es, q⟩ => ?_) fun _ => rfl
    simp only [ev] at q
    refine ⟨env, d, F, es, q.bind.imp fun x d1 F1 H1 st w q1 v dq => ⟨env, d1, F1, es.step st w, q1.bind.imp fun y d2 F2 H2 st2 w2 q2 u dq2 => ?_⟩⟩
    obtain ⟨z, ez, q3⟩ := q2.of
    exact ⟨F2, d2, x, y, z, w2, dq.mono (st2.le w), dq2, ez, fun v' H' F' s' w' r => q3 H' F' s' w' v' r⟩
  · cases h
def tP (c : Cn) (cf : CF) (W : WX) (e : E) : TO := fun σ H Q => ∃ env d F, ES c env d F σ H ∧ RG c W σ F H (ev cf e env d) fun x _ F' H' => ∃ l, part e x = some l ∧ Q l H'
theorem part_of {a : E} {sc : Scope} {o : Option Expr} (iha : ∀ s, chk ck a sc s = true → Snd c cf X W sc a s) (h : (match o with | none => isNil a | some x => chk ck a sc (.ex x)) = true) : ∃ t, PO X o t ∧ ∀ σ H Q, tP c cf W a σ H Q → t σ H Q := by
  cases o with
  | none =>
    refine ⟨_, po_none, fun σ H Q ⟨env, d, F, es, q⟩ => ?_⟩
    cases a <;> first | (simp [isNil] at h; done) | skip
    simp only [ev] at q
    obtain ⟨l, e, q⟩ := q.ok es.wf
    simp [part, isNil] at e
    subst e
    exact q
  | some x =>
    have hn : isNil a = false := by
      cases a <;> first | rfl | (simp [chk] at h)
    refine ⟨_, po_some (iha _ h).1, fun σ H Q ⟨env, d, F, es, q⟩ => ⟨env, d, F, es, q.imp fun y d1 F1 H1 st w ⟨l, e, q1⟩ v dq => ?_⟩⟩
    unfold part at e
    rw [hn, if_neg Bool.false_ne_true] at e
    cases y <;> simp at e
    subst e
    cases dq
    exact ⟨_, rfl, q1⟩
theorem s_sl {a lo hi : E} {sc : Scope} {s : Syn} (iha : ∀ s, chk ck a sc s = true → Snd c cf X W sc a s) (ihl : ∀ s, chk ck lo sc s = true → Snd c cf X W sc lo s) (ihh : ∀ s, chk ck hi sc s = true → Snd c cf X W sc hi s) (h : chk ck (.sl a lo hi) sc s = true) : Snd c cf X W sc (.sl a lo hi) s := by
  simp only [chk] at h
  split at h
  · simp only [Bool.and_eq_true] at h
    obtain ⟨⟨h1, h2⟩, h3⟩ := h
    obtain ⟨tl, pl, il⟩ := part_of ihl h2
    obtain ⟨th, ph, ih⟩ := part_of ihh h3
    refine snd_ex (PE.imp (pe_slice (sl_D (c := c)) (iha _ h1).1 pl ph) fun σ H Q ⟨env, d, F, es, q⟩ => ?_) fun _ => rfl
    simp only [ev] at q
    refine ⟨env, d, F, es, q.bind.imp fun x d1 F1 H1 st w q1 v dq => il _ _ _ ?_⟩
    refine ⟨env, d1, F1, es.step st w, q1.bind.imp fun y d2 F2 H2 st2 w2 q2 => ?_⟩
    obtain ⟨l, el, q2⟩ := q2.bind.of
    have q2 := q2 H2 F2 .refl w2
    refine ⟨l, el, ih _ _ _ ⟨env, d2, F2, (es.step st w).step st2 w2, q2.bind.imp fun z d3 F3 H3 st3 w3 q3 => ?_⟩⟩
    obtain ⟨hh, eh, q3⟩ := q3.bind.of
    have q3 := q3 H3 F3 .refl w3
    obtain ⟨y', ez, q4⟩ := q3.of
    exact ⟨hh, eh, F3, d3, x, y', w3, (dq.mono (st2.le w)).mono (st3.le w2), ez, fun v' H' F' s' w' r => q4 H' F' s' w' v' r⟩
  · cases h
theorem kd_of {F : Addr → Prop} {H : Hp} {v : V} {x : D} {l : List D} (dq : Dq c.dc F H v x) (e : items x = some l) :
    ∃ kd vs, v = Kd.val kd ∧ DqA c.dc F H vs l ∧ ∀ F2 H2, Le F H F2 H2 → Gd kd vs H2 := by
  cases dq <;> simp [items] at e
  · rename_i s h
    subst e
    refine ⟨.str s, s.map fun c => V.str ⟨#[c]⟩, rfl, ?_, fun _ _ _ => rfl⟩
    induction s with
    | nil => exact .nil
    | cons a s ih => exact .cons (.str [a] (by intro c hc; simp at hc; subst hc; exact h _ (by simp))) (ih fun c hc => h c (by simp [hc]))
  · rename_i a xs ds h r
    subst e
    exact ⟨.tup a, xs, rfl, r, fun F2 H2 le => le.tup _ _ h⟩
  · rename_i a xs ds f h r
    subst e
    exact ⟨.lst a, xs, rfl, r, fun F2 H2 le => le.lst _ _ f h⟩
theorem itok_of {J : It} {F : Addr → Prop} {H : Hp} {vs : List V} {l : List D} {G : Hp → Prop} {Y : Nat → Hp → V → Hp → Prop} (r : DqA c.dc F H vs l) (w : Walk J vs.length G Y) (g : ∀ H2 F2, Le F H F2 H2 → G H2) (y : ∀ i H2 x H3, Y i H2 x H3 → H3 = H2 ∧ vs[i]? = some x) : ItOk c J F H l := by
  refine ⟨G, Y, r.length ▸ w, g, fun i H2 F2 x H3 z le ez hy => .inl ?_⟩
  obtain ⟨e, hx⟩ := y i H2 x H3 hy
  obtain ⟨z', ez', dq⟩ := r.get' hx
  rw [ez] at ez'; cases ez'
  exact ⟨e, dq.mono le⟩
theorem pi_any {tg x : Expr} {e : E} (hp : PE X x (tE c cf W e)) : PI X tg x (tI c cf W e) := by
  refine ⟨fun pins s σ H R I ⟨env, d, F, es, q⟩ => ?_⟩
  refine thn (hp.run pins s σ H (fun v H1 => ∃ F1 d1 y l, Wf c F1 H1 d1 ∧ Dq c.dc F1 H1 v y ∧ items y = some l ∧ ∀ J, ItOk c J F1 H1 l → R J H1) I ⟨env, d, F, es, q.imp fun y d1 F1 H1 st w ⟨l, el, k⟩ v dq => ⟨F1, d1, y, l, w, dq, el, k⟩⟩) fun u s1 ⟨v, H1, I1, r1, F1, d1, y, l, w, dq, el, k⟩ => ?_
  obtain ⟨kd, vs, ev, r, g⟩ := kd_of dq el
  subst ev
  have fp : ∀ b ∈ [s1.heap.objs.size], FpOk X pins H1 b := fun b hb => by
    have e : b = s1.heap.objs.size := by simpa using hb
    subst e
    exact I1.fpOk (Nat.le_refl _) (I1.hok.fresh (Nat.le_refl _))
  have le0 : Le F1 H1 F1 H1 := ⟨fun _ h => h, fun _ _ _ h => h, fun _ _ h => h⟩
  cases kd with
  | lst a =>
    cases r1
    obtain ⟨its, rv, p, hz⟩ := I1.list (SqL.of (g _ _ le0))
    exact wpAny_pyIter_list p.isList ⟨s1.heap.objs.size, [s1.heap.objs.size], _, _, H1, rfl, I1.kept (t' := s1.toks) fun b o e => Heap.get?_push_of_some _ e, turn_list a _, ⟨_, Heap.get?_push_size _ rfl, rfl, rfl⟩, fp,
      k _ (itok_of r walk_list (fun H2 F2 le => SqL.of (g _ _ le)) fun i H2 x H3 h => h)⟩
  | tup a =>
    cases r1
    obtain ⟨its, rv, p, hz⟩ := I1.tuple (SqT.of (g _ _ le0))
    exact wpAny_pyIter_tuple (show s1.heap.IsTuple a its.toArray from p) ⟨s1.heap.objs.size, [s1.heap.objs.size], _, _, H1, rfl, I1.kept (t' := s1.toks) fun b o e => Heap.get?_push_of_some _ e, turn_tuple a _, ⟨_, Heap.get?_push_size _ rfl, rfl, rfl⟩, fp,
      k _ (itok_of r walk_tup (fun H2 F2 le => SqT.of (g _ _ le)) fun i H2 x H3 h => h)⟩
  | str t =>
    obtain ⟨tk, rfl⟩ := r1
    have gv : vs = t.map fun c => V.str ⟨#[c]⟩ := g _ _ le0
    have hty : strIterType ⟨t.toArray⟩ = "str_ascii_iterator" ∨ strIterType ⟨t.toArray⟩ = "str_iterator" := by
      unfold strIterType
      split <;> simp
    have wk : Walk (Its ⟨t.toArray⟩) vs.length (fun _ => True) (fun i H v H' => H' = H ∧ ∃ c, (⟨t.toArray⟩ : Str).cps[i]? = some c ∧ v = .str ⟨#[c]⟩) := by
      have := walk_str (z := ⟨t.toArray⟩)
      have e : vs.length = (⟨t.toArray⟩ : Str).cps.size := by rw [gv]; simp
      rw [e]; exact this
    refine wpAny_pyIter_strU ⟨s1.heap.objs.size, [s1.heap.objs.size], _, _, H1, rfl, I1.kept (t' := s1.toks) fun b o e => Heap.get?_push_of_some _ e, turn_str _ ⟨t.toArray⟩ tk _ hty, ⟨_, Heap.get?_push_size _ rfl, rfl, rfl⟩, fp,
      k _ (itok_of r wk (fun H2 F2 le => trivial) fun i H2 x H3 h => ⟨h.1, ?_⟩)⟩
    obtain ⟨c', h1, h2⟩ := h.2
    rw [gv, List.getElem?_map, show t[i]? = some c' by simpa using h1, h2]; rfl
theorem rangeL_get {a b : Int} {i : Nat} {y : D} (h : (rangeL a b)[i]? = some y) : y = .int (a + i) := by
  unfold rangeL at h
  rw [List.getElem?_map] at h
  cases e : (List.range (b - a).toNat)[i]? with
  | none => rw [e] at h; cases h
  | some j =>
    rw [e] at h
    have : j = i := by
      obtain ⟨h1, h2⟩ := List.getElem?_eq_some_iff.mp e
      rw [← h2]; simp
    subst this
    cases h; rfl
theorem rangeL_len (a b : Int) : (rangeL a b).length = (b - a).toNat := by simp [rangeL]
theorem range_ok {F : Addr → Prop} {H : Hp} {a b : Int} : ItOk c (Itr a (b - a).toNat) F H (rangeL a b) := by
  refine ⟨fun _ => True, YFn fun i => .int (a + i), ?_, fun _ _ _ => trivial, fun i H2 F2 x H3 y le ey hy => .inl ⟨hy.1, ?_⟩⟩
  · rw [rangeL_len]; exact walk_range
  · rw [rangeL_get ey, hy.2]; exact .int _
theorem small_62 {a b : Int} (h : smallR a b = true) : -(2 ^ 62) ≤ a ∧ a < 2 ^ 62 ∧ -(2 ^ 62) ≤ b ∧ b < 2 ^ 62 := by
  unfold smallR at h
  simp only [Bool.and_eq_true, decide_eq_true_eq] at h
  omega
theorem s_rng1 {a : E} {s : Syn} (G : Good c ck cf k X) (iha : ∀ s, chk ck a X.env.scope s = true → Snd c cf X W X.env.scope a s) (h : chk ck (.rng1 a) X.env.scope s = true) : Snd c cf X W X.env.scope (.rng1 a) s := by
  simp only [chk] at h
  split at h
  · simp only [Bool.and_eq_true] at h
    obtain ⟨⟨⟨h1, h2⟩, h3⟩, h4⟩ := h
    have hx := of_decide_eq_true h1
    subst hx
    intro tg htg
    refine PI.imp (pi_range1 (gl_of h2) (G.blt "range" (by decide)) (pa_cons (iha _ h4).1 pa_nil (star1 h3)) (star1 h3)) fun σ H R ⟨env, d, F, es, q⟩ => ?_
    simp only [ev] at q
    refine ⟨env, d, F, es, q.bind.imp fun x d1 F1 H1 st w q1 v dq => ?_⟩
    cases x <;> first | exact q1.elim | skip
    rename_i n
    cases dq
    dsimp only at q1
    by_cases hs : smallR 0 n = true
    · rw [if_pos hs] at q1
      obtain ⟨l, el, k⟩ := q1.ok w
      simp [items] at el
      subst el
      have b := small_62 hs
      refine ⟨n, rfl, b.2.2.1, b.2.2.2, k _ ?_⟩
      have := range_ok (c := c) (F := F1) (H := H1) (a := 0) (b := n)
      rw [show n - 0 = n by omega] at this
      exact this
    · rw [if_neg hs] at q1; exact q1.elim
  · cases h
theorem s_rng2 {a b : E} {s : Syn} (G : Good c ck cf k X) (iha : ∀ s, chk ck a X.env.scope s = true → Snd c cf X W X.env.scope a s) (ihb : ∀ s, chk ck b X.env.scope s = true → Snd c cf X W X.env.scope b s) (h : chk ck (.rng2 a b) X.env.scope s = true) : Snd c cf X W X.env.scope (.rng2 a b) s := by
  simp only [chk] at h
  split at h
  · simp only [Bool.and_eq_true] at h
    obtain ⟨⟨⟨⟨⟨h1, h2⟩, h3⟩, h5⟩, h4⟩, h6⟩ := h
    have hx := of_decide_eq_true h1
    subst hx
    intro tg htg
    refine PI.imp (pi_range2 (gl_of h2) (G.blt "range" (by decide)) (pa_cons (iha _ h4).1 (pa_cons (ihb _ h6).1 pa_nil (star1 h5)) (star1 h3)) (by rw [star1 h3, star1 h5]; rfl) (star1 h5)) fun σ H R ⟨env, d, F, es, q⟩ => ?_
    simp only [ev] at q
    refine ⟨env, d, F, es, q.bind.imp fun x d1 F1 H1 st w q1 v dq => ⟨env, d1, F1, es.step st w, q1.bind.imp fun y d2 F2 H2 st2 w2 q2 u dq2 => ?_⟩⟩
    cases x <;> first | exact q2.elim | skip
    cases y <;> first | exact q2.elim | skip
    rename_i m n
    cases dq
    cases dq2
    dsimp only at q2
    by_cases hs : smallR m n = true
    · rw [if_pos hs] at q2
      obtain ⟨l, el, k⟩ := q2.ok w2
      simp [items] at el
      subst el
      exact ⟨m, n, rfl, small_62 hs, k _ range_ok⟩
    · rw [if_neg hs] at q2; exact q2.elim
  · cases h
theorem enum_get : ∀ {l : List D} {n i : Nat} {y : D}, (enumL n l)[i]? = some y → ∃ z, l[i]? = some z ∧ y = .tup [.int ((n + i : Nat) : Int), z]
  | [], n, i, y, h => by simp [enumL] at h
  | x :: l, n, 0, y, h => by simp [enumL] at h; exact ⟨x, rfl, by rw [← h]; simp⟩
  | x :: l, n, i + 1, y, h => by
    simp [enumL] at h
    obtain ⟨z, h1, h2⟩ := enum_get (l := l) (n := n + 1) (i := i) h
    exact ⟨z, by simpa using h1, by rw [h2, show n + 1 + i = n + (i + 1) by omega]⟩
theorem enum_len : ∀ (l : List D) (n : Nat), (enumL n l).length = l.length
  | [], _ => rfl
  | x :: l, n => by simp [enumL, enum_len l (n + 1)]
theorem zip_get : ∀ {l m : List D} {i : Nat} {y : D}, (zipL l m)[i]? = some y → ∃ a b, l[i]? = some a ∧ m[i]? = some b ∧ y = .tup [a, b]
  | [], m, i, y, h => by simp [zipL] at h
  | x :: l, [], i, y, h => by simp [zipL] at h
  | x :: l, z :: m, 0, y, h => by simp [zipL] at h; exact ⟨x, z, rfl, rfl, h.symm⟩
  | x :: l, z :: m, i + 1, y, h => by
    simp [zipL] at h
    obtain ⟨a, b, h1, h2, h3⟩ := zip_get (l := l) (m := m) (i := i) h
    exact ⟨a, b, by simpa using h1, by simpa using h2, h3⟩
theorem zip_len : ∀ (l m : List D), (zipL l m).length = min l.length m.length
  | [], m => by simp [zipL]
  | x :: l, [] => by simp [zipL]
  | x :: l, z :: m => by simp [zipL, zip_len l m]
theorem tup_of {tg : Expr} (h : isTupE tg = true) : ∃ es kk p, tg = .Tuple es kk p := by
  cases tg <;> first | exact ⟨_, _, _, rfl⟩ | (simp [isTupE] at h)
theorem s_enum {a : E} {s : Syn} (G : Good c ck cf k X) (iha : ∀ s, chk ck a X.env.scope s = true → Snd c cf X W X.env.scope a s) (h : chk ck (.enum a) X.env.scope s = true) : Snd c cf X W X.env.scope (.enum a) s := by
  simp only [chk] at h
  split at h
  · simp only [Bool.and_eq_true] at h
    obtain ⟨⟨⟨h1, h2⟩, h3⟩, h4⟩ := h
    have hx := of_decide_eq_true h1
    subst hx
    intro tg htg
    obtain ⟨es, kk, p, rfl⟩ := tup_of htg
    refine PI.imp (pi_enumK (gl_of h2) (G.blt "enumerate" (by decide)) (pa_cons (iha _ h4).1 pa_nil (star1 h3)) (star1 h3)) fun σ H R ⟨env, d, F, es, q⟩ => ?_
    simp only [ev] at q
    refine ⟨env, d, F, es, q.bind.imp fun x d1 F1 H1 st w q1 v dq => ?_⟩
    obtain ⟨z, ez, q2⟩ := q1.of
    cases ei : items x with
    | none => rw [ei] at ez; cases ez
    | some l =>
      rw [ei] at ez
      cases ez
      obtain ⟨m, em, k⟩ := q2 H1 F1 .refl w
      simp [items] at em
      subst em
      obtain ⟨kd, vs, ev, r, g⟩ := kd_of dq ei
      refine ⟨kd, vs, by rw [ev], g _ _ ⟨fun _ h => h, fun _ _ _ h => h, fun _ _ h => h⟩, k _ ?_⟩
      refine ⟨_, YPair (fun i => some (.int (i : Nat))) (fun i => vs[i]?), ?_, fun H2 F2 le => g _ _ le, fun i H2 F2 x H3 y le ey hy => .inr ?_⟩
      · rw [enum_len, ← r.length]; exact walk_enumK kd vs
      · obtain ⟨T, a, b, e1, e2, e3, e4, e5⟩ := hy
        obtain ⟨z, h1, h2⟩ := enum_get ey
        cases e4
        obtain ⟨z', h1', dq'⟩ := r.get' e5
        rw [h1] at h1'; cases h1'
        exact ⟨T, _, _, e1, e2, e3, h2, .cons (by simpa using Dq.int _) (.cons (dq'.mono le) .nil)⟩
  · cases h
theorem s_zip {a b : E} {s : Syn} (G : Good c ck cf k X) (iha : ∀ s, chk ck a X.env.scope s = true → Snd c cf X W X.env.scope a s) (ihb : ∀ s, chk ck b X.env.scope s = true → Snd c cf X W X.env.scope b s) (h : chk ck (.zip a b) X.env.scope s = true) : Snd c cf X W X.env.scope (.zip a b) s := by
  simp only [chk] at h
  split at h
  · simp only [Bool.and_eq_true] at h
    obtain ⟨⟨⟨⟨⟨h1, h2⟩, h3⟩, h5⟩, h4⟩, h6⟩ := h
    have hx := of_decide_eq_true h1
    subst hx
    intro tg htg
    obtain ⟨es, kk, p, rfl⟩ := tup_of htg
    refine PI.imp (pi_zipK (gl_of h2) (G.blt "zip" (by decide)) (pa_cons (iha _ h4).1 (pa_cons (ihb _ h6).1 pa_nil (star1 h5)) (star1 h3)) (star1 h3) (by rw [star1 h5]; rfl)) fun σ H R ⟨env, d, F, es, q⟩ => ?_
    simp only [ev] at q
    refine ⟨env, d, F, es, q.bind.imp fun x d1 F1 H1 st w q1 v dq => ⟨env, d1, F1, es.step st w, q1.bind.imp fun y d2 F2 H2 st2 w2 q2 u dq2 => ?_⟩⟩
    obtain ⟨z, ez, q3⟩ := q2.of
    cases ei : items x with
    | none => rw [ei] at ez; cases ez
    | some l =>
      rw [ei] at ez
      cases ej : items y with
      | none => rw [ej] at ez; cases ez
      | some m =>
        rw [ej] at ez
        cases ez
        obtain ⟨n, en, k⟩ := q3 H2 F2 .refl w2
        simp [items] at en
        subst en
        obtain ⟨k1, vs, ev1, r1, g1⟩ := kd_of (dq.mono (st2.le w)) ei
        obtain ⟨k2, ws, ev2, r2, g2⟩ := kd_of dq2 ej
        have le0 : Le F2 H2 F2 H2 := ⟨fun _ h => h, fun _ _ _ h => h, fun _ _ h => h⟩
        refine ⟨k1, k2, vs, ws, by rw [ev1, ev2], g1 _ _ le0, g2 _ _ le0, k _ ?_⟩
        refine ⟨fun H => Gd k1 vs H ∧ Gd k2 ws H, YPair (fun i => vs[i]?) (fun i => ws[i]?), ?_, fun H2 F2 le => ⟨g1 _ _ le, g2 _ _ le⟩, fun i H2 F2 x H3 y le ey hy => .inr ?_⟩
        · rw [zip_len, ← r1.length, ← r2.length]; exact walk_zipK k1 k2 vs ws
        · obtain ⟨T, a, b, e1, e2, e3, e4, e5⟩ := hy
          obtain ⟨z1, z2, h1, h2, h3⟩ := zip_get ey
          obtain ⟨z1', h1', dq1'⟩ := r1.get' e4
          obtain ⟨z2', h2', dq2'⟩ := r2.get' e5
          rw [h1] at h1'; cases h1'
          rw [h2] at h2'; cases h2'
          exact ⟨T, _, _, e1, e2, e3, h3, .cons (dq1'.mono le) (.cons (dq2'.mono le) .nil)⟩
  · cases h
theorem s_trng {a : E} {s : Syn} (G : Good c ck cf k X) (iha : ∀ s, chk ck a X.env.scope s = true → Snd c cf X W X.env.scope a s) (h : chk ck (.trng a) X.env.scope s = true) : Snd c cf X W X.env.scope (.trng a) s := by
  simp only [chk] at h
  split at h
  · simp only [Bool.and_eq_true] at h
    obtain ⟨⟨⟨⟨⟨h1, h2⟩, h3⟩, h5⟩, h4⟩, h6⟩ := h
    have hx := of_decide_eq_true h1
    have hy := of_decide_eq_true h3
    subst hx hy
    refine snd_ex (PE.imp (pe_tupRg G.calm (gl_of h2) (G.blt "tuple" (by decide)) (prg_1 (gl_of h5) (G.blt "range" (by decide)) (iha _ h6).1 (star1 h4)) rfl) fun σ H Q ⟨env, d, F, es, q⟩ => ?_) fun _ => rfl
    simp only [ev] at q
    refine ⟨env, d, F, es, q.bind.imp fun x d1 F1 H1 st w q1 v dq => ?_⟩
    cases x <;> first | exact q1.elim | skip
    rename_i n
    cases dq
    dsimp only at q1
    by_cases hs : smallR 0 n = true
    · rw [if_pos hs] at q1
      refine ⟨n, rfl, ?_, fun p hp => ?_⟩
      · unfold smallR at hs
        simp only [Bool.and_eq_true, decide_eq_true_eq] at hs
        exact ⟨by omega, by omega, by omega, by omega, by omega⟩
      · refine q1 _ F1 (.new' hp) (w.new' hp) _ (.newT w hp (.of ?_ fun i v y e1 e2 => ?_))
        · rw [rgV_length, rangeL_len]
        · rw [rangeL_get e2]
          unfold rgV at e1
          rw [List.getElem?_map] at e1
          cases er : (List.range (n - 0).toNat)[i]? with
          | none => rw [er] at e1; cases e1
          | some j =>
            rw [er] at e1
            have : j = i := by
              obtain ⟨h1, h2⟩ := List.getElem?_eq_some_iff.mp er
              rw [← h2]; simp
            subst this
            cases e1
            exact .int _
    · rw [if_neg hs] at q1; exact q1.elim
  · cases h
end
end SG
namespace SG
open PySem PySem.Spec PyProof.Rows L2
section
variable {prog : Program} {w : World} {A : Around} {E : Value → Shared → Prop} {s : Shared}
theorem sliceApplied_rev {sl : Addr} {vl vu vs : Value} {n : Nat} {Q : Int × Int × Nat → Shared → Prop} (hs : s.heap.IsSliceOf sl vl vu vs) (pl : IsPart vl none) (pu : IsPart vu none) (ps : IsPart vs (some (-1)))
    (h : Q ((n : Int) - 1, -1, n) s) : wpAny (model prog w) A (Builtin.Slice.sliceApplied (.ref sl) (pure (n : Int))) Q E s := by
  obtain ⟨os, hos, hcs, hds⟩ := id hs
  unfold Builtin.Slice.sliceApplied Builtin.Slice.sliceFields
  refine wpAny_bind (wpAny_bind (wpAny_field hos hds (x := vl) rfl (wpAny_bind (wpAny_field hos hds (x := vu) rfl (wpAny_bind (wpAny_field hos hds (x := vs) rfl (wpAny_pure ?_)))))))
  refine wpAny_bind (HT.slicePart_ ps ?_)
  show wpAny _ _ (if ((-1 : Int) == 0) = true then _ else _) _ _ s
  rw [if_neg (by decide)]
  refine wpAny_bind (HT.slicePart_ pl (wpAny_bind (HT.slicePart_ pu (wpAny_bind (wpAny_pure ?_)))))
  show wpAny _ _ (match Builtin.Slice.sliceAdjust none none (-1) (n : Int) with | (lo, hi) => pure (lo, (-1 : Int), Builtin.Slice.slicePlaces lo hi (-1))) _ _ s
  have e1 : Builtin.Slice.sliceAdjust none none (-1) (n : Int) = ((n : Int) - 1, -1) := by
    unfold Builtin.Slice.sliceAdjust
    simp
  have e2 : Builtin.Slice.slicePlaces ((n : Int) - 1) (-1) (-1) = n := by
    unfold Builtin.Slice.slicePlaces
    have h1 : ¬ ((-1 : Int) > 0) := by omega
    have e : -(-1 : Int) = 1 := rfl
    simp only [h1, if_false, e, Int.ediv_one]
    split <;> omega
  rw [e1]
  show wpAny _ _ (pure ((n : Int) - 1, (-1 : Int), Builtin.Slice.slicePlaces ((n : Int) - 1) (-1) (-1))) _ _ s
  rw [e2]
  exact wpAny_pure h
theorem pick_rev (xs : Array Value) : ((List.range xs.size).filterMap fun (m : Nat) => xs[((xs.size : Int) - 1 + (m : Int) * (-1)).toNat]?).toArray = xs.toList.reverse.toArray := by
  have e : (List.range xs.size).filterMap (fun (m : Nat) => xs[((xs.size : Int) - 1 + (m : Int) * (-1)).toNat]?) = ((List.range xs.size).map fun k => xs.size - 1 - k).filterMap (xs[·]?) := by
    rw [List.filterMap_map]
    congr 1
    funext m
    have : ((xs.size : Int) - 1 + (m : Int) * (-1)).toNat = xs.size - 1 - m := by omega
    rw [this]; rfl
  rw [e, PySem.W.krv_range, List.filterMap_reverse, PySem.W.krv_all]
theorem getItem_tuple_rev {t sl : Addr} {items : Array Value} {vl vu vs : Value} {Q : Value → Shared → Prop} (ht : IsTup s.heap t items) (hs : s.heap.IsSliceOf sl vl vu vs) (pl : IsPart vl none) (pu : IsPart vu none) (ps : IsPart vs (some (-1)))
    (h : Q (.ref s.heap.objs.size) { s with heap := s.heap.push { cls := .type "tuple", data := .seq items.toList.reverse.toArray } })
    (hsz : items.size ≤ sizeLine) : wpAny (model prog w) A (getItem (.ref t) (.ref sl)) Q E s := by
  have htake : sizeOk (.seq items.toList.reverse.toArray) := by
    show items.toList.reverse.toArray.size ≤ sizeLine
    rw [List.size_toArray, List.length_reverse, Array.length_toList]
    exact hsz
  obtain ⟨os, hos, hcs, hds⟩ := id hs
  have hTs : s.TypeIs (.ref sl) "slice" := ⟨os, hos, hcs⟩
  unfold getItem
  try with_reducible refine wpAny_holding ?_
  first | refine wpAny_bind (wpAny_pure ?_) | skip
  refine wpAny_bind (wpAny_sequenceKey ht.typeIs (by decide) ?_)
  refine wpAny_bind (wpAny_callSpecial?_slot (name := Str.ofString "__getitem__") ht.typeIs PyProof.Rows.slot_tuple_getitem
    (wpAny_call_entry PyProof.Rows.slot_tuple_getitem ht.typeIs entry_tuple_getitem ?_ (args_tuple_getitem _ _)))
  show wpAny _ _ (Builtin.Tuple.tupleItemsOf (.ref t) >>= _) _ _ s
  refine wpAny_bind (tupleItemsOf_ ht ?_)
  refine wpAny_bind (wpAny_typeOf hTs ?_)
  rw [if_pos (by decide)]
  refine wpAny_bind (sliceApplied_rev hs pl pu ps ?_)
  have hno : ¬ ((((items.size : Int) - 1) == 0 && (-1 : Int) == 1 && items.size == items.size) = true) := by
    intro q
    rw [Bool.and_eq_true, Bool.and_eq_true] at q
    exact absurd q.1.2 (by decide)
  show wpAny _ _ (if (((items.size : Int) - 1) == 0 && (-1 : Int) == 1 && items.size == items.size) = true then _ else _) _ _ s
  rw [if_neg hno, pick_rev]
  first
    | exact wpAny_bind (m := Builtin.Tuple.tupleExact _) (wpAny_newObj_type (wpAny_pure ⟨_, rfl, wpAny_pure h⟩) htake)
    | exact wpAny_bind (m := Builtin.Tuple.tupleExact _) (wpAny_newObj_type (wpAny_bind (wpAny_pure (wpAny_pure ⟨_, rfl, wpAny_pure h⟩))) htake)
    | exact wpAny_bind (wpAny_bind (m := Builtin.Tuple.tupleExact _) (wpAny_newObj_type (wpAny_pure (wpAny_pure ⟨_, rfl, wpAny_pure h⟩)) htake))
    | exact wpAny_bind (wpAny_bind (m := Builtin.Tuple.tupleExact _) (wpAny_newObj_type (wpAny_pure ⟨_, rfl, wpAny_pure h⟩) htake))
end
section
variable {X : Cx}
def tRevA (K : PySem.W.Frag) (te : TE) : TE := fun σ H Q => te σ H fun x H1 => (∃ a xs, x = .ref a ∧ SqT K H1 a xs ∧ ∀ p, H1 p = none → Q (.ref p) (upd H1 p (.tup xs.reverse))) ∨ (∃ z : List Nat, x = .str ⟨z.toArray⟩ ∧ z.length ≤ sizeLine ∧ Q (.str ⟨z.reverse.toArray⟩) H1)
theorem str_rev (z : List Nat) (l u : Option (Int × Tok)) (hl : l.map (·.1) = none) (hu : u.map (·.1) = none) (i : Tok) : (⟨((slicePicked ⟨z.toArray⟩ l u (some (-1, i))).filterMap ((⟨z.toArray⟩ : Str).cps[·]?)).toArray⟩ : Str) = ⟨z.reverse.toArray⟩ := by
  unfold slicePicked Builtin.Str.strSliceIndices
  rw [hl, hu]
  have hn : (⟨z.toArray⟩ : Str).length = z.toArray.size := rfl
  have h1 : ¬ ((-1 : Int) > 0) := by decide
  show (⟨((sliceRange (if (-1 : Int) > 0 then 0 else (((⟨z.toArray⟩ : Str).length : Nat) : Int) - 1) (if (-1 : Int) > 0 then (((⟨z.toArray⟩ : Str).length : Nat) : Int) else -1) (-1)).filterMap (z.toArray[·]?)).toArray⟩ : Str) = _
  rw [if_neg h1, if_neg h1, hn, PySem.W.krv_sliceRange, PySem.W.krv_range, List.filterMap_reverse, PySem.W.krv_all]
theorem pe_revA {e : Expr} {te : TE} {k : Nat} {p1 p2 p3 pos : Pos} (he : PE X e te) : PE X (.Subscript e (.Slice none none (some (.UnaryOp .USub (.Constant (.int 1) k p1) p2)) p3) pos) (tRevA X.K te) := by
  refine ⟨fun pins s σ H Q I h => ?_⟩
  refine Subscript_ (thn (he.run pins s σ H _ I h) fun v s1 ⟨x, H1, I1, r1, q1⟩ => ?_)
  have hst : PO X (some (.UnaryOp .USub (.Constant (.int 1) k p1) p2)) (tPart (tUn (rU fun i => .int (-i)) (tC (.int 1)))) := po_some (pe_un un_neg pe_int)
  refine wpAny_Slice (thn (po_none.run pins s1 σ H1 (fun o H2 => o = none ∧ H2 = H1) I1 ⟨rfl, rfl⟩) fun vl s2 ⟨l, H2, I2, pl, el, e2⟩ => ?_)
  subst el e2
  refine thn (po_none.run pins s2 σ H2 (fun o H3 => o = none ∧ H3 = H2) I2 ⟨rfl, rfl⟩) fun vu s3 ⟨u, H3, I3, pu, eu, e3⟩ => ?_
  subst eu e3
  refine thn (hst.run pins s3 σ H3 (fun o H4 => o = some (-1) ∧ H4 = H3) I3 ⟨1, rfl, -1, rfl, rfl, rfl⟩) fun vs s4 ⟨o, H4, I4, ps, eo, e4⟩ => ?_
  subst eo e4
  have I5 : Inv X pins σ H4 { s4 with heap := s4.heap.push { cls := .type "slice", data := .fields #[vl, vu, vs] } } := I4.kept (t' := s4.toks) fun b ob q => Heap.get?_push_of_some _ q
  show wpAny (model X.prog X.w) X.A (subscriptTail e (.Slice none none (some (.UnaryOp .USub (.Constant (.int 1) k p1) p2)) p3) v (.ref s4.heap.objs.size)) (EP X pins σ Q) X.xe { s4 with heap := s4.heap.push { cls := .type "slice", data := .fields #[vl, vu, vs] } }
  rcases q1 with ⟨a, xs, ex, hx, q⟩ | ⟨z, ex, hz, q⟩
  · subst ex
    cases r1
    obtain ⟨its, r, ht, hz⟩ := I5.tuple hx
    have hlen := r.length
    refine tail_any (ops := [.ref a, .ref s4.heap.objs.size]) ht.typeIs PyProof.Rows.slot_tuple_getitem.lookup ?_ (by with_unfolding_all rfl)
    refine getItem_tuple_rev ht (Heap.IsSliceOf.new _ vl vu vs) pl pu ps ?_ (by rw [List.size_toArray]; omega)
    refine ⟨.ref _, _, I5.laid (t' := s4.toks) (o := .tup xs.reverse) (fun b ob q => Heap.get?_push_of_some _ q) (Nat.le_refl _) ?_, rfl, q _ (I5.hok.fresh (Nat.le_refl _))⟩
    exact ⟨by rw [List.length_reverse]; exact hz, _, r.reverse, IsTup.new _ _⟩
  · subst ex
    obtain ⟨t, rfl⟩ := r1
    obtain ⟨l, rfl, hl⟩ := IsPart.raw pl
    obtain ⟨u, rfl, hu⟩ := IsPart.raw pu
    obtain ⟨st, rfl, hs⟩ := IsPart.raw ps
    cases st with
    | none => cases hs
    | some st =>
      obtain ⟨i, ti⟩ := st
      simp only [Option.map_some, Option.some.injEq] at hs
      subst hs
      refine tail_any (ops := [.ref s4.heap.objs.size, .str ⟨z.toArray⟩ t]) (typeIs_str _ _ _) F.slot_str_getitem.lookup ?_ (by with_unfolding_all rfl)
      refine wpAny_getItem_str_slice (l := l) (u := u) (st := some (-1, ti)) ⟨_, Heap.get?_push_size _ rfl, rfl, rfl⟩ rfl ?_
      unfold sliceMade
      rw [if_neg (by intro q; rw [Bool.and_eq_true] at q; exact absurd (show ((-1 : Int) == 1) = true from q.1) (by decide)), str_rev z l u hl hu]
      exact ⟨by show z.reverse.toArray.size ≤ sizeLine; rw [List.size_toArray, List.length_reverse]; exact hz, .str _, H4, I5.tok _, ⟨_, rfl⟩, q⟩
end
section
variable {c : Cn} {ck : Ck} {cf : CF} {k : Nat} {X : Cx} {W : WX}
theorem s_rev' {a : E} {sc : Scope} {l r : Expr} {pos : Pos} (iha : ∀ s, chk ck a sc s = true → Snd c cf X W sc a s) (hr : isRevE r = true) (h : chk ck a sc (.ex l) = true) : Snd c cf X W sc (.rev a) (.ex (.Subscript l r pos)) := by
  unfold isRevE at hr
  split at hr
  · have e := of_decide_eq_true hr
    subst e
    refine snd_ex (PE.imp (pe_revA (iha _ h).1) fun σ H Q ⟨env, d, F, es, q⟩ => ?_) fun _ => rfl
    simp only [ev] at q
    refine ⟨env, d, F, es, q.bind.imp fun x d1 F1 H1 st w q1 v dq => ?_⟩
    obtain ⟨z, ez, q2⟩ := q1.of
    cases x <;> simp [opRev] at ez
    · obtain ⟨hl, ez⟩ := ez
      subst ez
      cases dq with | str s hs =>
      refine .inr ⟨_, rfl, Nat.le_trans hl lim_line, ?_⟩
      exact q2 _ _ .refl w _ (.str _ fun ch hc => hs ch (by simpa using hc))
    · subst ez
      cases dq with | tup hh r =>
      refine .inl ⟨_, _, rfl, SqT.of hh, fun p hp => ?_⟩
      exact q2 _ F1 (.new' hp) (w.new' hp) _ (.newT w hp r.reverse)
  · cases hr
theorem s_rev {a : E} {sc : Scope} {s : Syn} (iha : ∀ s, chk ck a sc s = true → Snd c cf X W sc a s) (h : chk ck (.rev a) sc s = true) : Snd c cf X W sc (.rev a) s := by
  simp only [chk] at h
  split at h
  · rw [Bool.and_eq_true] at h
    exact s_rev' iha h.1 h.2
  · cases h
end
end SG
namespace SG
open PySem PySem.Spec PyProof.Rows L2
abbrev emptyS (w : World) : Obj := { cls := .type "set", dict := none, data := .set #[] 0 (.fresh 0 0 (!w.params.followText "set-order")) }
section
variable {P : Program} {w : World} {A : Around} {E : Value → Shared → Prop} {s : Shared}
def MadeS (w : World) (s : Shared) (ns : List Int) (s2 : Shared) : Prop := ∃ h' tk c, s2 = { s with heap := h', toks := tk } ∧ SetR w h' s.heap.objs.size (fun j => decide (j ∈ ns)) c ∧ c ≤ ns.length ∧ ∀ b o, s.heap.get? b = some o → h'.get? b = some o
theorem fill_set {l : Addr} {items : Array Value} {ns : List Int} (hh : A.handled = none) (hl : s.heap.IsList l items) (hit : IntsAre items.toList ns) (hb : ns.length + 1 < scanBound) {R : Result → Shared → Prop}
    (h : ∀ s2, MadeS w s ns s2 → R (.ok (.ret .none)) s2) :
    codeAny (model P w) A (.builtin "set.update.loop" ⟨[.ref s.heap.objs.size, .ref (s.heap.push (emptyS w)).objs.size], []⟩) R { s with heap := (s.heap.push (emptyS w)).push { cls := .type "list_iterator", data := .fields #[.ref l, .int 0 0] } } := by
  obtain ⟨o, ho, hc, n, hd⟩ := id hl
  have hlS : l < s.heap.objs.size := Heap.lt_size ho
  have hsz : items.size = ns.length := by rw [← IntsAre.length hit, Array.length_toList]
  have ez : (s.heap.push (emptyS w)).objs.size = s.heap.objs.size + 1 := Heap.size_push ..
  have hl1 : (s.heap.push (emptyS w)).IsList l items := ⟨o, Heap.get?_push_of_some _ ho, hc, n, hd⟩
  have hne : l ≠ (s.heap.push (emptyS w)).objs.size := by rw [ez]; exact Nat.ne_of_lt (Nat.lt_succ_of_lt hlS)
  have hSf : s.heap.objs.size ∉ [(s.heap.push (emptyS w)).objs.size, l] := by
    rw [ez]
    intro z
    rcases List.mem_cons.mp z with z | z
    · exact Nat.ne_of_lt (Nat.lt_succ_self _) z
    · exact Nat.ne_of_gt hlS (by simpa using z)
  have hval : ∀ (i : Nat) (v : Value), items[i]? = some v → ∃ k t, ns[i]? = some k ∧ v = .int k t := fun i v hv => by
    have hi : i < ns.length := hsz ▸ (Array.getElem?_eq_some_iff.mp hv).1
    obtain ⟨t, e⟩ := PyProof.Rows.IntsAre.int_at hit i v (by rw [Array.getElem?_toList]; exact hv)
    exact ⟨ns[i], t, List.getElem?_eq_getElem hi, by rw [e]; simp [List.getD, hi]⟩
  refine set_update_ints ((Walks.list (show A.in1.handled = none by simp [hh]) _ l hne items).toS) s.heap.objs.size hSf ns hsz hb hval items.size 0 _ rfl (Nat.zero_le _) ⟨⟨_, Heap.get?_push_size _ rfl, rfl, rfl⟩, hl1.push _⟩ ⟨0, Nat.le_refl 0, setR_new_at (Heap.get?_push_of_some _ (Heap.get?_push_size _ rfl))⟩ fun s2 c hm hc hS => h s2 ?_
  obtain ⟨h2, g2, d2, t2, o2⟩ := s2
  cases (show g2 = s.gens from hm.gens)
  cases (show d2 = s.drawn from hm.drawn)
  cases (show o2 = s.os from hm.os)
  refine ⟨h2, t2, c, rfl, hS, hsz ▸ hc, fun b ob e => hm.heap b ob (fun z => ?_) (Heap.get?_push_of_some _ (Heap.get?_push_of_some _ e))⟩
  have hlt : (b : Nat) < s.heap.objs.size := Heap.lt_size e
  rw [ez] at z
  rcases List.mem_cons.mp z with z | z
  · exact Nat.ne_of_lt hlt z
  · exact Nat.ne_of_lt (Nat.lt_succ_of_lt hlt) (by simpa using z)
set_option maxHeartbeats 3200000 in
theorem call_set_ints {l : Addr} {items : Array Value} {ns : List Int} {Q : Value → Shared → Prop} (hh : A.handled = none) (hl : s.heap.IsList l items) (hit : IntsAre items.toList ns) (hb : ns.length + 1 < scanBound)
    (h : ∀ s2, MadeS w s ns s2 → Q (.ref s.heap.objs.size) s2) : wpAny (model P w) A (call (.type "set") [.ref l]) Q E s := by
  obtain ⟨c, tl, hmro⟩ := F.called_set.mro
  have f1 := F.called_set.made
  have f2 := F.called_set.sub
  have f3 := F.called_set.notType
  have f4 := F.called_set.canCreate
  have f5 := F.typeCall_set_1 (.ref l)
  refine wpAny_call (codeAny_of_tree ?_)
  show wpAny _ _ (callAny (.type "set") _) _ _ _
  refine wpAny_pure ⟨Code.quiet_builtin _ (by decide +kernel), codeAny_builtin F.entry_type_call ?_⟩
  rw [Around.under_plain (weight_type_call_type "set" [.ref l] []) rfl]
  repeat (any_goals (first | assumption | wp_step))
  refine codeAny_mono (code_set_led1 (.ref l) (E := E) (Q₁ := fun obj s₁ => obj = .ref s.heap.objs.size ∧ s₁ = { s with heap := s.heap.push (emptyS w) }) ⟨rfl, rfl⟩) fun r s₁ hr => ?_
  rcases r with e | fl
  · exact hr
  cases fl with
  | ret obj =>
    obtain ⟨rfl, rfl⟩ := hr
    have hT : Shared.TypeIs { s with heap := s.heap.push (emptyS w) } (.ref s.heap.objs.size) "set" := ⟨_, Heap.get?_push_size _ rfl, rfl⟩
    have f6 := F.called_set.init.lookup
    have f7 := F.called_set.init.bind (.ref s.heap.objs.size)
    repeat (any_goals (first | assumption | wp_step))
    refine codeAny_mono (codeAny_call_builtin (R := wants (fun r s₂ => r = .none ∧ MadeS w s ns s₂) E) F.called_set.init.plain F.entry_set_init (check_set_init_1 hT ?_)) fun r₂ s₂ hr₂ => ?_
    · obtain ⟨⟨ocls, odict, odata, oslots⟩, hol, hcl, nl, hdl⟩ := id hl
      simp only at hcl hdl
      subst hcl hdl
      have g0 : (s.heap.push (emptyS w)).get? l = some { cls := .type "list", dict := odict, data := .seq items nl, slots := oslots } := Heap.get?_push_of_some _ hol
      have g1 := F.sub_list_set
      have g2 := F.sub_list_frozenset
      have g3 : (Value.type "list" == Value.type "dict") = false := by decide
      have hl1 : (s.heap.push (emptyS w)).IsList l items := ⟨_, g0, rfl, nl, rfl⟩
      unfold Builtin.«set.__init__» noKeywords Builtin.Frozenset.updateFrom
      generalize hPI : pyIter = PI
      wp_walk
      subst hPI
      refine wpAny_pyIter_list hl1 (wpAny_bind (wpAny_runValue (fill_set (by simp [hh]) hl hit hb fun s2 m => ?_)))
      show wpAny _ _ _ _ _ _
      refine wpAny_pure ?_
      show wpAny _ _ (ret Value.none) _ _ _
      exact wpAny_pure ⟨rfl, m⟩
    · rcases r₂ with e | fl₂
      · exact hr₂
      · cases fl₂ with
        | ret r =>
          obtain ⟨rfl, m⟩ := hr₂
          repeat (any_goals (first | assumption | wp_step))
          exact h _ m
        | _ => exact hr₂.elim
  | _ => exact hr.elim
end
theorem insS_mem {x k : Int} : ∀ {l : List Int}, k ∈ insS x l ↔ k = x ∨ k ∈ l
  | [] => by simp [insS]
  | y :: r => by
    have ih := insS_mem (x := x) (k := k) (l := r)
    unfold insS
    split
    · simp
    · split
      · rename_i h; subst h; simp
      · simp only [List.mem_cons, ih]
        constructor
        · rintro (h | h | h)
          · exact .inr (.inl h)
          · exact .inl h
          · exact .inr (.inr h)
        · rintro (h | h | h)
          · exact .inr (.inl h)
          · exact .inl h
          · exact .inr (.inr h)
theorem insS_lt {x : Int} : ∀ {l : List Int}, l.Pairwise (· < ·) → (insS x l).Pairwise (· < ·)
  | [], _ => by simp [insS]
  | y :: r, h => by
    have h' := List.pairwise_cons.mp h
    unfold insS
    split
    · rename_i hx
      exact List.pairwise_cons.mpr ⟨fun z hz => (List.mem_cons.mp hz).elim (fun e => e ▸ hx) fun q => Int.lt_trans hx (h'.1 z q), h⟩
    · split
      · exact h
      · refine List.pairwise_cons.mpr ⟨fun z hz => ?_, insS_lt h'.2⟩
        rcases insS_mem.mp hz with e | q
        · subst e; omega
        · exact h'.1 z q
theorem sset_mem {k : Int} : ∀ {l : List Int}, k ∈ sset l ↔ k ∈ l
  | [] => by simp [sset]
  | y :: r => by
    have ih := sset_mem (k := k) (l := r)
    show k ∈ insS y (sset r) ↔ _
    rw [insS_mem, ih, List.mem_cons]
theorem sset_lt : ∀ l : List Int, (sset l).Pairwise (· < ·)
  | [] => by simp [sset]
  | y :: r => insS_lt (sset_lt r)
theorem asc_unique : ∀ {l m : List Int}, l.Pairwise (· < ·) → m.Pairwise (· < ·) → (∀ k, k ∈ l ↔ k ∈ m) → l = m
  | [], [], _, _, _ => rfl
  | [], y :: r, _, _, h => absurd ((h y).mpr List.mem_cons_self) (by simp)
  | x :: r, [], _, _, h => absurd ((h x).mp List.mem_cons_self) (by simp)
  | x :: r, y :: t, h1, h2, h => by
    have a1 := List.pairwise_cons.mp h1
    have a2 := List.pairwise_cons.mp h2
    have e : x = y := by
      rcases List.mem_cons.mp ((h x).mp List.mem_cons_self) with z | z
      · exact z
      · rcases List.mem_cons.mp ((h y).mpr List.mem_cons_self) with q | q
        · exact q.symm
        · have := a2.1 x z
          have := a1.1 y q
          omega
    subst e
    rw [asc_unique a1.2 a2.2 fun k => ?_]
    constructor
    · intro hk
      rcases List.mem_cons.mp ((h k).mp (List.mem_cons_of_mem _ hk)) with z | z
      · have := a1.1 k hk; omega
      · exact z
    · intro hk
      rcases List.mem_cons.mp ((h k).mpr (List.mem_cons_of_mem _ hk)) with z | z
      · have := a2.1 k hk; omega
      · exact z
section
variable {X : Cx}
def rSetL (K : PySem.W.Frag) (w : World) : List V → Hp → VK → Prop := fun xs H Q => ∃ (l : Addr) (ns : List Int), xs = [V.ref l] ∧ SqL K H l (ns.map V.int) ∧ ns.length ≤ 60 ∧ ∀ p n, H p = none → n ≤ 60 → Q (.ref p) (upd H p (SetO w p (fun j => decide (j ∈ ns)) n))
theorem cr_setL (hc : X.calm = true) : CallR X (.type "set") (rSetL X.K X.w) := by
  intro pins s σ H xs us Q I r h
  obtain ⟨l, ns, rfl, hl, hn, q⟩ := h
  obtain ⟨u, rfl, ru⟩ := vals1 r
  cases ru
  obtain ⟨its, rv, p, hz⟩ := I.list hl
  refine call_set_ints (I.ok.hd hc) p.isList (intsAre_of rv) (by unfold scanBound; omega) fun s2 ⟨h2, t2, n2, e2, R, hle, hk⟩ => ?_
  subst e2
  exact ⟨.ref _, upd H s.heap.objs.size (SetO X.w s.heap.objs.size (fun j => decide (j ∈ ns)) n2), I.laid hk (Nat.le_refl _) (setO_new R), rfl, q _ n2 (I.hok.fresh (Nat.le_refl _)) (by omega)⟩
end
theorem code_inj : ∀ {a b : List Int}, a.length = b.length → TS.Bd 64 a → TS.Bd 64 b → TS.code 64 a = TS.code 64 b → a = b
  | [], [], _, _, _, _ => rfl
  | x :: a, y :: b, hl, ha, hb, e => by
    have hl' : a.length = b.length := by simpa using hl
    have hxy : x = y := by
      rcases Int.lt_trichotomy x y with z | z | z
      · have := TS.code_lt hl' ha.tail hb.tail z; omega
      · exact z
      · have := TS.code_lt hl'.symm hb.tail ha.tail z; omega
    subst hxy
    have e2 : TS.code 64 a = TS.code 64 b := by
      have : x * 64 ^ a.length + TS.code 64 a = x * 64 ^ b.length + TS.code 64 b := e
      rw [hl'] at this
      omega
    rw [code_inj hl' ha.tail hb.tail e2]
  | [], _ :: _, hl, _, _, _ => by simp at hl
  | _ :: _, [], hl, _, _, _ => by simp at hl
theorem insT_mem {x k : List Int} : ∀ {l : List (List Int)}, (∀ y ∈ l, codeT x = codeT y → x = y) → (k ∈ insT x l ↔ k = x ∨ k ∈ l)
  | [], _ => by simp [insT]
  | y :: r, h => by
    have ih := insT_mem (x := x) (k := k) (l := r) fun z hz => h z (List.mem_cons_of_mem _ hz)
    unfold insT
    split
    · simp
    · split
      · rename_i e; rw [h y List.mem_cons_self e]; simp
      · simp only [List.mem_cons, ih]
        constructor
        · rintro (h | h | h)
          · exact .inr (.inl h)
          · exact .inl h
          · exact .inr (.inr h)
        · rintro (h | h | h)
          · exact .inr (.inl h)
          · exact .inl h
          · exact .inr (.inr h)
theorem insT_lt {x : List Int} : ∀ {l : List (List Int)}, (∀ y ∈ l, codeT x = codeT y → x = y) → l.Pairwise (fun a b => codeT a < codeT b) → (insT x l).Pairwise (fun a b => codeT a < codeT b)
  | [], _, _ => by simp [insT]
  | y :: r, hi, h => by
    have h' := List.pairwise_cons.mp h
    unfold insT
    split
    · rename_i hx
      exact List.pairwise_cons.mpr ⟨fun z hz => (List.mem_cons.mp hz).elim (fun e => e ▸ hx) fun q => Int.lt_trans hx (h'.1 z q), h⟩
    · split
      · exact h
      · refine List.pairwise_cons.mpr ⟨fun z hz => ?_, insT_lt (fun z hz => hi z (List.mem_cons_of_mem _ hz)) h'.2⟩
        rcases (insT_mem fun z hz => hi z (List.mem_cons_of_mem _ hz)).mp hz with e | q
        · subst e; omega
        · exact h'.1 z q
def Apart (l : List (List Int)) : Prop := ∀ x ∈ l, ∀ y ∈ l, codeT x = codeT y → x = y
theorem ssetT_ok : ∀ {l : List (List Int)}, Apart l → (∀ k, k ∈ ssetT l ↔ k ∈ l) ∧ (ssetT l).Pairwise (fun a b => codeT a < codeT b)
  | [], _ => by simp [ssetT]
  | x :: l, h => by
    obtain ⟨i1, i2⟩ := ssetT_ok (l := l) fun a ha b hb => h a (List.mem_cons_of_mem _ ha) b (List.mem_cons_of_mem _ hb)
    have hx : ∀ y ∈ ssetT l, codeT x = codeT y → x = y := fun y hy => h x List.mem_cons_self y (List.mem_cons_of_mem _ ((i1 y).mp hy))
    refine ⟨fun k => ?_, insT_lt hx i2⟩
    show k ∈ insT x (ssetT l) ↔ _
    rw [insT_mem hx, i1, List.mem_cons]
theorem ascT_unique : ∀ {l m : List (List Int)}, l.Pairwise (fun a b => codeT a < codeT b) → m.Pairwise (fun a b => codeT a < codeT b) → (∀ k, k ∈ l ↔ k ∈ m) → l = m
  | [], [], _, _, _ => rfl
  | [], y :: r, _, _, h => absurd ((h y).mpr List.mem_cons_self) (by simp)
  | x :: r, [], _, _, h => absurd ((h x).mp List.mem_cons_self) (by simp)
  | x :: r, y :: t, h1, h2, h => by
    have a1 := List.pairwise_cons.mp h1
    have a2 := List.pairwise_cons.mp h2
    have e : x = y := by
      rcases List.mem_cons.mp ((h x).mp List.mem_cons_self) with z | z
      · exact z
      · rcases List.mem_cons.mp ((h y).mpr List.mem_cons_self) with q | q
        · exact q.symm
        · have := a2.1 x z
          have := a1.1 y q
          omega
    subst e
    rw [ascT_unique a1.2 a2.2 fun k => ?_]
    constructor
    · intro hk
      rcases List.mem_cons.mp ((h k).mp (List.mem_cons_of_mem _ hk)) with z | z
      · have := a1.1 k hk; subst z; omega
      · exact z
    · intro hk
      rcases List.mem_cons.mp ((h k).mpr (List.mem_cons_of_mem _ hk)) with z | z
      · have := a2.1 k hk; subst z; omega
      · exact z
theorem tOk_of {ks : List (List Int)} (h : tOk ks = true) : ∃ d, 1 ≤ d ∧ ks.length ≤ 60 ∧ ∀ k ∈ ks, k.length = d ∧ TS.Bd 64 k := by
  unfold tOk at h
  split at h
  · cases h
  · rename_i k0 r
    simp only [Bool.and_eq_true, decide_eq_true_eq, List.all_eq_true] at h
    obtain ⟨⟨h1, h2⟩, h3⟩ := h
    exact ⟨k0.length, h1, h2, fun k hk => ⟨(h3 k hk).1, fun m hm => (h3 k hk).2 m hm⟩⟩
theorem apart_of {ks : List (List Int)} {d : Nat} (h : ∀ k ∈ ks, k.length = d ∧ TS.Bd 64 k) : Apart ks := fun x hx y hy e => code_inj (by rw [(h x hx).1, (h y hy).1]) (h x hx).2 (h y hy).2 e
theorem DqA.tints {dc : Addr} {F : Addr → Prop} {H : Hp} : ∀ {vs : List V} {xs : List D} {ks : List (List Int)}, DqA dc F H vs xs → tInts xs = some ks → ∃ ps : List (Addr × List Int), vs = ps.map (fun p => V.ref p.1) ∧ ps.map (·.2) = ks ∧ ∀ p ∈ ps, H p.1 = some (.tup (p.2.map V.int))
  | _, _, _, .nil, e => by
    simp only [tInts, Option.some.injEq] at e
    subst e
    exact ⟨[], rfl, rfl, by simp⟩
  | _, _, ks, .cons (v := v) (vs := vs) (d := x) (ds := xs) r t, e => by
    cases x <;> simp only [tInts] at e <;> first | (cases e; done) | skip
    rename_i us
    cases hi : intsOf us with
    | none => rw [hi] at e; cases e
    | some a =>
      rw [hi, Option.bind_some] at e
      cases ht : tInts xs with
      | none => rw [ht] at e; cases e
      | some kr =>
        rw [ht, Option.map_some, Option.some.injEq] at e
        subst e
        obtain ⟨ps, e1, e2, e3⟩ := DqA.tints t ht
        cases r with | tup hh rr =>
        have ei := rr.ints hi
        rename_i ad _
        refine ⟨(ad, a) :: ps, by rw [e1]; rfl, by rw [List.map_cons, e2], fun p hp => ?_⟩
        rcases List.mem_cons.mp hp with z | z
        · subst z; rw [← ei]; exact hh
        · exact e3 p z
theorem tints_dq {dc : Addr} {F : Addr → Prop} {H : Hp} : ∀ (L : List (Addr × List Int)), (∀ p ∈ L, H p.1 = some (.tup (p.2.map V.int))) → DqA dc F H (L.map fun p => V.ref p.1) ((L.map (·.2)).map tIO)
  | [], _ => .nil
  | p :: L, h => .cons (.tup (h p List.mem_cons_self) (by
      have : ∀ l : List Int, DqA dc F H (l.map V.int) (l.map D.int) := by
        intro l
        induction l with
        | nil => exact .nil
        | cons x l ih => exact .cons (.int x) ih
      exact this _)) (tints_dq L fun q hq => h q (List.mem_cons_of_mem _ hq))
section
variable {c : Cn} {ck : Ck} {cf : CF} {k : Nat} {X : Cx} {W : WX}
theorem s_ssort {a : E} {s : Syn} (G : Good c ck cf k X) (iha : ∀ s, chk ck a X.env.scope s = true → Snd c cf X W X.env.scope a s) (h : chk ck (.ssort a) X.env.scope s = true) : Snd c cf X W X.env.scope (.ssort a) s := by
  simp only [chk] at h
  split at h
  · simp only [Bool.and_eq_true] at h
    obtain ⟨⟨⟨⟨⟨h1, h2⟩, h3⟩, h5⟩, h4⟩, h6⟩ := h
    have hx := of_decide_eq_true h1
    have hy := of_decide_eq_true h3
    subst hx hy
    have p1 := fun (p pos : Pos) => pe_callTy (p := p) (pos := pos) (CallR.or' (cr_setL G.calm) (cr_setOfT G.calm (by have := G.units; omega))) (gl_of h5) (G.blt "set" (by decide)) (by decide +kernel) (pa_cons (iha _ h6).1 pa_nil (star1 h4)) (by decide) (by decide) (star1 h4) rfl
    refine snd_ex (PE.imp (pe_callB (CallR.or' (cr_sortedSet G.calm) (cr_sortedT G.calm)) (gl_of h2) (G.blt "sorted" (by decide)) (by decide +kernel) (pa_cons (p1 _ _) pa_nil rfl) (by decide) (by decide) rfl rfl) fun σ H Q ⟨env, d, F, es, q⟩ => ?_) fun _ => rfl
    simp only [ev] at q
    refine ⟨env, d, F, es, q.bind.imp fun x d1 F1 H1 st w q1 v dq => ?_⟩
    cases x <;> first | exact q1.elim | skip
    rename_i xs
    dsimp only at q1
    obtain ⟨z, ez, q2⟩ := q1.of
    unfold ssortO at ez
    cases hi : intsOf xs with
    | none =>
      rw [hi] at ez
      simp only at ez
      cases ht : tInts xs with
      | none => rw [ht] at ez; cases ez
      | some ks =>
        rw [ht, Option.bind_some] at ez
        split at ez <;> cases ez
        rename_i hok
        obtain ⟨dd, hd1, hd2, hd3⟩ := tOk_of hok
        cases dq with | lst f hh r =>
        obtain ⟨ps, e1, e2, e3⟩ := r.tints ht
        subst e1 e2
        refine .inr ⟨_, ps, rfl, SqL.of hh, fun p hp => SqT.of (e3 p hp), by rw [List.length_map] at hd2; omega, fun p L hp hL1 hL2 => .inr ⟨p, L, dd, 64, rfl, upd_same, fun q hq => ?_, hd1, fun q hq => hd3 q.2 (List.mem_map.mpr ⟨q, hL1 q hq, rfl⟩), fun L' p2 pm nd hf pw hp2 => ?_⟩⟩
        · have hne : q.1 ≠ p := fun z => by have := e3 q (hL1 q hq); rw [z, hp] at this; cases this
          exact SqT.of (by rw [upd_ne hne]; exact e3 q (hL1 q hq))
        · have w1 := w.new' (o := SetTO X.prog X.w p L) hp
          have hm : ∀ q ∈ L', q ∈ ps := fun q hq => hL1 q (pm.mem_iff.mp hq)
          have ap := apart_of hd3
          have hLm : L'.map (·.2) = ssetT (ps.map (·.2)) := by
            obtain ⟨s1, s2⟩ := ssetT_ok ap
            refine ascT_unique ?_ s2 fun k => ?_
            · rw [List.pairwise_map]
              have nd' : L'.Pairwise (fun a b => a.2 ≠ b.2) := List.pairwise_map.mp nd
              refine (pw.and nd').imp_of_mem fun {a b} ha hb hab => ?_
              have hne : TS.code 64 a.2 ≠ TS.code 64 b.2 := fun z => hab.2 (ap a.2 (List.mem_map.mpr ⟨a, hm a ha, rfl⟩) b.2 (List.mem_map.mpr ⟨b, hm b hb, rfl⟩) z)
              show TS.code 64 a.2 < TS.code 64 b.2
              have := hab.1
              omega
            · rw [s1, List.mem_map]
              constructor
              · rintro ⟨q, hq, rfl⟩
                exact List.mem_map.mpr ⟨q, hm q hq, rfl⟩
              · intro hk
                obtain ⟨q, hq, rfl⟩ := List.mem_map.mp hk
                obtain ⟨q', hq', e⟩ := List.mem_map.mp (hL2 q hq)
                exact ⟨q', pm.mem_iff.mpr hq', e⟩
          refine q2 _ _ ((Step.new' (o := SetTO X.prog X.w p L) hp).trans (.newF hp2)) (w1.newF hp2) _ (.newL w1 hp2 ?_)
          rw [← hLm]
          refine tints_dq L' fun q hq => ?_
          have hne : q.1 ≠ p := fun z => by have := e3 q (hm q hq); rw [z, hp] at this; cases this
          rw [upd_ne hne]
          exact e3 q (hm q hq)
    | some ns =>
      rw [hi] at ez
      simp only at ez
      split at ez <;> cases ez
      rename_i hlen
      cases dq with | lst f hh r =>
      have e := r.ints hi
      subst e
      refine .inl ⟨_, ns, rfl, SqL.of hh, hlen, fun p n hp hn => .inl ⟨p, _, n, rfl, upd_same, by omega, fun ms p2 hs hm hl hp2 => ?_⟩⟩
      have em : ms = sset ns := asc_unique hs (sset_lt ns) fun k => by rw [hm k, sset_mem]; simp
      subst em
      have w1 := w.new' (o := SetO X.w p (fun j => decide (j ∈ ns)) n) hp
      refine q2 _ _ ((Step.new' (o := SetO X.w p (fun j => decide (j ∈ ns)) n) hp).trans (.newF hp2)) (w1.newF hp2) _ (.newL w1 hp2 ?_)
      have : ∀ l : List Int, DqA c.dc F1 (upd H1 p (SetO X.w p (fun j => decide (j ∈ ns)) n)) (l.map V.int) (l.map D.int) := by
        intro l
        induction l with
        | nil => exact .nil
        | cons x l ih => exact .cons (.int x) ih
      exact this _
  · cases h
end
end SG
set_option maxHeartbeats 1000000
namespace SG
open PySem PySem.Spec PyProof.Rows L2
abbrev IsEnumB (h : Heap) (e it : Addr) (c : Int) (old : Value) (a : Addr) (f : Bool) : Prop :=
  h.get? e = some { cls := .type "enumerate", dict := none, data := .fields #[rawInt a, .bool f, .ref it, rawInt c, .none, old], slots := #[] }
section
variable {prog : Program} {w : World} {A : Around} {E : Value → Shared → Prop} {s : Shared} {e it : Addr} {fp : List Addr} {n : Nat} {P : Nat → Value → Prop} {St : Nat → Heap → Prop}
theorem enum_next_out {i : Nat} {old : Value} {a : Addr} {f : Bool} {oa : Obj} {Q : Value → Shared → Prop}
    (D : Draws prog w A it fp n P St) (he : IsEnumB s.heap e it i old a f) (ha : s.heap.get? a = some oa) (hae : a ≠ e) (hai : a ≠ it) (hst : St i s.heap) (hlt : i < n) (hne : e ≠ it) (hef : e ∉ fp)
    (hQ : ∀ x h' tk, P i x → IsEnumB h' e it ((i : Int) + 1) old a true → St (i + 1) h' →
      h'.get? s.heap.objs.size = some { cls := .type "tuple", data := .seq #[.int i tk, x] } → h'.objs.size = s.heap.objs.size + 1 →
      (∀ b o, b ≠ e → b ≠ it → s.heap.get? b = some o → h'.get? b = some o) → Q (.ref s.heap.objs.size) { s with heap := h', toks := tk + 1 }) :
    wpAny (model prog w) A (Builtin.«enumerate.__next__» ⟨[.ref e], []⟩) (fun fin s' => ∃ v, fin = .done (.ret v) ∧ Q v s') E s := by
  obtain ⟨hp, g, d, tk₀, os⟩ := s
  show wpAny _ _ (field (.ref e) 2 >>= _) _ _ _
  refine wpAny_bind (wpAny_field he rfl (x := .ref it) rfl ?_)
  refine wpAny_bind (D.item i _ _ _ hlt hst fun x h₁ tk hPx hit₁ hs₁ => ?_)
  replace hs₁ : Heap.SameBut it hp h₁ := hs₁
  have he₁ : IsEnumB h₁ e it i old a f := (hs₁.2 e hne).trans he
  show wpAny _ _ (field (.ref e) 3 >>= _) _ _ ⟨h₁, g, d, tk, os⟩
  refine wpAny_bind (wpAny_field he₁ rfl (x := rawInt i) rfl ?_)
  show wpAny _ _ (field (.ref e) 4 >>= _) _ _ ⟨h₁, g, d, tk, os⟩
  refine wpAny_bind (wpAny_field he₁ rfl (x := .none) rfl ?_)
  show wpAny _ _ (mkInt i >>= _) _ _ ⟨h₁, g, d, tk, os⟩
  refine wpAny_bind (wpAny_mkInt ?_)
  show wpAny _ _ (setField (.ref e) 3 (rawInt ((i : Int) + 1)) >>= _) _ _ ⟨h₁, g, d, tk + 1, os⟩
  refine wpAny_bind (wpAny_setField_rec he₁ (by simp) fun h₂ he₂ hs₂ => ?_)
  replace hs₂ : Heap.SameBut e h₁ h₂ := hs₂
  replace he₂ : IsEnumB h₂ e it ((i : Int) + 1) old a f := he₂
  show wpAny _ _ (setField (.ref e) 4 .none >>= _) _ _ ⟨h₂, g, d, tk + 1, os⟩
  refine wpAny_bind (wpAny_setField_rec he₂ (by simp) fun h₃ he₃ hs₃ => ?_)
  replace hs₃ : Heap.SameBut e h₂ h₃ := hs₃
  replace he₃ : IsEnumB h₃ e it ((i : Int) + 1) old a f := he₃
  show wpAny _ _ (newTuple [.int i tk, x] >>= _) _ _ ⟨h₃, g, d, tk + 1, os⟩
  refine wpAny_bind (wpAny_newTuple ?_)
  have he₄ : IsEnumB (h₃.push { cls := .type "tuple", data := .seq #[.int i tk, x] }) e it ((i : Int) + 1) old a f := Heap.get?_push_of_some _ he₃
  generalize hh₄ : h₃.push { cls := .type "tuple", data := .seq #[.int i tk, x] } = h₄ at he₄
  have hsz : h₃.objs.size = hp.objs.size := by rw [hs₃.1, hs₂.1, hs₁.1]
  have hel : e < hp.objs.size := Heap.lt_size he
  have ht₄ : h₄.get? hp.objs.size = some { cls := .type "tuple", data := .seq #[.int i tk, x] } := by rw [← hh₄, ← hsz]; exact Heap.get?_push_size _ rfl
  have hz₄ : h₄.objs.size = hp.objs.size + 1 := by rw [← hh₄, Heap.size_push, hsz]
  have hk₄ : ∀ b o, b ≠ e → b ≠ it → hp.get? b = some o → h₄.get? b = some o := fun b o hbe hbi hb => by
    rw [← hh₄]; exact Heap.get?_push_of_some _ (hs₃.extBut b o hbe (hs₂.extBut b o hbe (hs₁.extBut b o hbi hb)))
  have hit₄ : St (i + 1) h₄ := D.frame _ _ _ hit₁ fun b hb o y => by
    have hbe : b ≠ e := fun q => hef (q ▸ hb)
    rw [← hh₄]; exact Heap.get?_push_of_some _ (hs₃.extBut b o hbe (hs₂.extBut b o hbe y))
  show wpAny _ _ (Builtin.SmallTypes.ownedTupleIsFree (.ref e) >>= _) _ _ ⟨h₄, g, d, tk + 1, os⟩
  rw [hsz]
  clear hh₄ he₃ hs₃ he₂ hs₂ he₁ hs₁ hit₁ hsz h₃ h₂ h₁
  have ha₄ : h₄.get? a = some oa := hk₄ a oa hae hai ha
  refine wpAny_bind ?_
  unfold Builtin.SmallTypes.ownedTupleIsFree
  refine wpAny_bind (wpAny_field he₄ rfl (x := rawInt a) rfl ?_)
  show wpAny _ _ (loadIfAlive ((a : Int).toNat) >>= _) _ _ _
  rw [Int.toNat_natCast]
  refine wpAny_bind (PySem.W.kdx_alive ha₄ ?_)
  simp only [Option.isNone_some, Bool.false_eq_true, if_false]
  refine wpAny_bind (wpAny_field he₄ rfl (x := .bool f) rfl ?_)
  have fin : ∀ h₅ : Heap, IsEnumB h₅ e it ((i : Int) + 1) old a true → Heap.SameBut e h₄ h₅ → Q (.ref hp.objs.size) ⟨h₅, g, d, tk + 1, os⟩ := fun h₅ he₅ hs₅ =>
    hQ x h₅ tk hPx he₅ (D.frame _ _ _ hit₄ fun b hb o y => hs₅.extBut b o (fun q => hef (q ▸ hb)) y) (hs₅.extBut _ _ (Nat.ne_of_gt hel) ht₄) (by show h₅.objs.size = hp.objs.size + 1; rw [hs₅.1, hz₄]) fun b o hbe hbi hb => hs₅.extBut b o hbe (hk₄ b o hbe hbi hb)
  cases f with
  | true =>
    rw [if_neg (show ¬ ((Value.bool true != Value.bool true) = true) from Bool.false_ne_true)]
    refine wpAny_pure ?_
    simp only [Bool.false_eq_true, if_false]
    exact wpAny_pure ⟨_, rfl, fin h₄ he₄ (Heap.SameBut.refl _ _)⟩
  | false =>
    rw [if_pos (show (Value.bool false != Value.bool true) = true from rfl)]
    refine wpAny_bind (wpAny_setField_rec he₄ (by simp) fun h₅ he₅ hs₅ => ?_)
    replace hs₅ : Heap.SameBut e h₄ h₅ := hs₅
    replace he₅ : IsEnumB h₅ e it ((i : Int) + 1) old a true := he₅
    refine wpAny_pure ?_
    simp only [Bool.false_eq_true, if_false]
    exact wpAny_pure ⟨_, rfl, fin h₅ he₅ hs₅⟩
def LeSt (h : Heap) (e it S : Addr) (i : Nat) : Prop :=
  (i = 0 ∧ ∃ old, IsEnum h e it 0 old) ∨ ∃ old a f oa, IsEnumB h e it i old a f ∧ h.get? a = some oa ∧ a ≠ e ∧ a ≠ it ∧ a ≠ S
theorem LeSt.type {S : Addr} {i : Nat} (x : LeSt s.heap e it S i) : s.TypeIs (.ref e) "enumerate" := by
  rcases x with ⟨_, old, h⟩ | ⟨old, a, f, oa, h, _⟩
  · exact ⟨_, h, rfl⟩
  · exact ⟨_, h, rfl⟩
theorem LeSt.lt {h : Heap} {S : Addr} {i : Nat} (x : LeSt h e it S i) : e < h.objs.size := by
  rcases x with ⟨_, old, h⟩ | ⟨old, a, f, oa, h, _⟩
  · exact Heap.lt_size h
  · exact Heap.lt_size h
theorem LeSt.keep {h h' : Heap} {S : Addr} {i : Nat} (x : LeSt h e it S i) (hk : ∀ b o, b ≠ S → h.get? b = some o → h'.get? b = some o) (hI : e ≠ S) : LeSt h' e it S i := by
  rcases x with ⟨z, old, h⟩ | ⟨old, a, f, oa, h, ha, h1, h2, h3⟩
  · exact .inl ⟨z, old, hk _ _ hI h⟩
  · exact .inr ⟨old, a, f, oa, hk _ _ hI h, hk _ _ h3 ha, h1, h2, h3⟩
theorem le_item {S : Addr} {i : Nat} {Q : Option Value → Shared → Prop} (D : Draws prog w A.in1 it fp n P St) (hs : LeSt s.heap e it S i) (hS : S < s.heap.objs.size) (hst : St i s.heap) (hlt : i < n) (hne : e ≠ it) (hef : e ∉ fp)
    (hQ : ∀ x h' tk, P i x → LeSt h' e it S (i + 1) → St (i + 1) h' → h'.get? s.heap.objs.size = some { cls := .type "tuple", data := .seq #[.int i tk, x] } → h'.objs.size = s.heap.objs.size + 1 →
      (∀ b o, b ≠ e → b ≠ it → s.heap.get? b = some o → h'.get? b = some o) → Q (some (.ref s.heap.objs.size)) { s with heap := h', toks := tk + 1 }) :
    wpAny (model prog w) A (pyNext (.ref e)) Q E s := by
  have hel := hs.lt
  have hil : it < s.heap.objs.size := by obtain ⟨_, y⟩ := D.live _ _ hst; exact Heap.lt_size y
  have e1 : ((i + 1 : Nat) : Int) = (i : Int) + 1 := by omega
  rcases hs with ⟨rfl, old, h⟩ | ⟨old, a, f, oa, h, ha, h1, h2, h3⟩
  · refine wpAny_pyNext_enum_itemD D h hst hlt hne hef fun x h' tk hP ho hs' hT hsz hk => hQ x h' tk hP (.inr ⟨x, s.heap.objs.size, false, _, ?_, hT, Nat.ne_of_gt hel, Nat.ne_of_gt hil, Nat.ne_of_gt hS⟩) hs' hT hsz hk
    exact ho
  · have hT : s.TypeIs (.ref e) "enumerate" := ⟨_, h, rfl⟩
    unfold pyNext
    refine wpAny_bind (wpAny_attempt (wpAny_callSpecial?_slot (name := Str.ofString "__next__") hT F.slot_enumerate_next
      (wpAny_call_entry F.slot_enumerate_next hT F.entry_enumerate_next
        (enum_next_out D h ha h1 h2 hst hlt hne hef fun x h' tk hP ho hs' hT hsz hk => wpAny_pure (hQ x h' tk hP (.inr ⟨old, a, true, oa, by rw [e1]; exact ho, hk a oa h1 h2 ha, h1, h2, h3⟩) hs' hT hsz hk)) (F.args_enumerate_next_1 _))))
theorem le_done {S : Addr} {Q : Option Value → Shared → Prop} (D : Draws prog w A.in1 it fp n P St) (hs : LeSt s.heap e it S n) (hst : St n s.heap)
    (hQ : ∀ h', Heap.ExtBut it s.heap h' → Q none { s with heap := h' }) : wpAny (model prog w) A (pyNext (.ref e)) Q E s := by
  rcases hs with ⟨z, old, h⟩ | ⟨old, a, f, oa, h, ha, h1, h2, h3⟩
  · exact wpAny_pyNext_enum_endD D h hst hQ
  · have hT : s.TypeIs (.ref e) "enumerate" := ⟨_, h, rfl⟩
    unfold pyNext
    refine wpAny_bind (wpAny_attempt (wpAny_callSpecial?_slot (name := Str.ofString "__next__") hT F.slot_enumerate_next
      (wpAny_call_entry F.slot_enumerate_next hT F.entry_enumerate_next ?_ (F.args_enumerate_next_1 _))))
    show wpAny _ _ (field (.ref e) 2 >>= _) _ _ _
    refine wpAny_bind (wpAny_field h rfl (x := .ref it) rfl ?_)
    refine wpAny_bind (D.done _ _ _ hst fun h' x he' hx' => ?_)
    obtain ⟨o, ho, hc⟩ := hx'
    refine wpAny_bind (wpAny_isInstance (T := "StopIteration") (b := true) ⟨o, ho, hc⟩ isSubtype_stop ?_)
    exact wpAny_pure (hQ _ he')
end
structure LeG (P : Nat → Value → Prop) (lo : Addr) (h : Heap) (as : List Addr) : Prop where
  rise : as.Pairwise (· < ·)
  above : ∀ a ∈ as, lo < a
  pairs : ∀ (j : Nat) (a : Addr), as[j]? = some a → ∃ x t, P j x ∧ h.get? a = some { cls := .type "tuple", data := .seq #[.int j t, x] }
theorem LeG.there {P : Nat → Value → Prop} {lo : Addr} {h : Heap} {as : List Addr} (g : LeG P lo h as) {a : Addr} (ha : a ∈ as) : a < h.objs.size := by
  obtain ⟨j, hj⟩ := List.mem_iff_getElem?.mp ha
  obtain ⟨_, _, _, e⟩ := g.pairs j a hj
  exact Heap.lt_size e
section
variable {prog : Program} {w : World} {A : Around} {s : Shared} {R : Result → Shared → Prop} {e it : Addr} {fp : List Addr} {n : Nat} {P : Nat → Value → Prop} {St : Nat → Heap → Prop}
theorem le_loop {S : Addr} (D : Draws prog w A.in1.in1 it fp n P St) (hSe : S ≠ e) (hSi : S ≠ it) (hSf : S ∉ fp) (hne : e ≠ it) (hef : e ∉ fp) (hn : n ≤ sizeLine) (res : Value) {h₁ : Heap} {lo : Addr} (hloe : e ≤ lo) (hloi : it ≤ lo) (hloS : S ≤ lo)
    (hR : ∀ h' tk acc c as, (∀ b o, b ≠ S → b ≠ e → b ≠ it → h₁.get? b = some o → h'.get? b = some o) → h'.get? S = some { cls := .type "list", dict := none, data := .seq acc c, slots := #[] } → as.length = n → LeG P lo h' as →
      acc.toList = as.map Value.ref → R (.ok (.ret res)) { s with heap := h', toks := tk }) :
    ∀ (k i : Nat) (h : Heap) (tk c : Nat) (acc : Array Value) (as : List Addr), n - i = k → i ≤ n → LeSt h e it S i → St i h → (∀ b o, b ≠ S → b ≠ e → b ≠ it → h₁.get? b = some o → h.get? b = some o) →
      h.get? S = some { cls := .type "list", dict := none, data := .seq acc c, slots := #[] } → acc.toList = as.map Value.ref → as.length = i → LeG P lo h as → lo < h.objs.size →
      codeAny (model prog w) A (.builtin "list.extend.loop" ⟨[.ref S, .ref e, res], []⟩) R { s with heap := h, toks := tk } := by
  intro k
  induction k with
  | zero =>
    intro i h tk c acc as hk hi hst hD hkeep hS hacc hal hG hIs
    have hin : i = n := by omega
    subst hin
    refine codeAny_builtin PySem.F.entry_extend_loop ?_
    rw [Around.under_plainId PySem.F.plain_extend_loop _]
    show wpAny _ A.in1 (pyNext (.ref e) >>= _) _ _ _
    refine wpAny_bind (le_done (s := { s with heap := h, toks := tk }) (A := A.in1) (S := S) D hst hD fun h' he => ?_)
    refine wpAny_pure (hR h' tk acc c as (fun b o h1 h2 h3 q => he b o h3 (hkeep b o h1 h2 h3 q)) (he S _ hSi hS) hal ⟨hG.rise, hG.above, fun j a hj => ?_⟩ hacc)
    obtain ⟨x, t, e1, e2⟩ := hG.pairs j a hj
    have := hG.above a (List.mem_of_getElem? hj)
    exact ⟨x, t, e1, he a _ (Nat.ne_of_gt (Nat.lt_of_le_of_lt hloi this)) e2⟩
  | succ k ih =>
    intro i h tk c acc as hk hi hst hD hkeep hS hacc hal hG hIs
    have hlt : i < n := by omega
    have hsz : acc.size = i := by rw [← Array.length_toList, hacc, List.length_map, hal]
    refine codeAny_builtin PySem.F.entry_extend_loop ?_
    rw [Around.under_plainId PySem.F.plain_extend_loop _]
    show wpAny _ A.in1 (pyNext (.ref e) >>= _) _ _ _
    refine wpAny_bind (le_item (s := { s with heap := h, toks := tk }) (A := A.in1) (S := S) D hst (Heap.lt_size hS) hD hlt hne hef fun x h' tk' hP hst' hD' ht hz hkp => ?_)
    dsimp only at ht hz hkp ⊢
    have hS' := hkp S _ hSe hSi hS
    have up : ∀ b o, b ≠ S → h'.get? b = some o → (h'.update S (Obj.mapSeq (·.push (Value.ref h.objs.size)))).get? b = some o := fun b o hb q => (Heap.get?_update_other _ _ (Ne.symm hb)).trans q
    have hSl : S < h.objs.size := Heap.lt_size hS
    show wpAny _ A.in1 (updateSeq S (·.push (Value.ref h.objs.size)) >>= _) _ _ _
    refine wpAny_bind ?_
    refine wpAny_updateSeq hS' rfl (wpAny_pure ⟨plainId_quiet PySem.F.plain_extend_loop _, ih (i + 1) _ (tk' + 1) _ (acc.push (Value.ref h.objs.size)) (as ++ [h.objs.size]) (by omega) hlt (hst'.keep up (Ne.symm hSe)) (D.frame _ _ _ hD' fun b hb o q => up b o (fun z => hSf (z ▸ hb)) q)
      (fun b o h1 h2 h3 q => up b o h1 (hkp b o h2 h3 (hkeep b o h1 h2 h3 q))) (Heap.get?_update_self _ hS' rfl) (by rw [Array.toList_push, hacc, List.map_append]; rfl) (by rw [List.length_append, hal]; rfl) ⟨?_, ?_, ?_⟩ ?_⟩) (by rw [hsz]; omega) (by show (acc.push (Value.ref h.objs.size)).size ≤ sizeLine + 1; rw [Array.size_push, hsz]; omega)
    · refine List.pairwise_append.mpr ⟨hG.rise, List.pairwise_singleton _ _, fun a ha b hb => ?_⟩
      rw [List.mem_singleton.mp hb]
      exact hG.there ha
    · intro a ha
      rcases List.mem_append.mp ha with ha | ha
      · exact hG.above a ha
      · rw [List.mem_singleton.mp ha]; exact hIs
    · intro j b hj
      rcases Nat.lt_trichotomy j as.length with h1 | h1 | h1
      · rw [List.getElem?_append_left h1] at hj
        obtain ⟨x', t', e1, e2⟩ := hG.pairs j b hj
        have hb := hG.above b (List.mem_of_getElem? hj)
        exact ⟨x', t', e1, up b _ (Nat.ne_of_gt (Nat.lt_of_le_of_lt hloS hb)) (hkp b _ (Nat.ne_of_gt (Nat.lt_of_le_of_lt hloe hb)) (Nat.ne_of_gt (Nat.lt_of_le_of_lt hloi hb)) e2)⟩
      · subst h1
        have hb : h.objs.size = b := by simpa using hj
        subst hb
        exact ⟨x, tk', by rw [hal]; exact hP, up _ _ (Nat.ne_of_gt hSl) (by rw [hal]; exact ht)⟩
      · have hnone : (as ++ [h.objs.size])[j]? = none := List.getElem?_eq_none (by rw [List.length_append, List.length_singleton]; omega)
        rw [hnone] at hj; cases hj
    · have q : (h'.update S (Obj.mapSeq (·.push (Value.ref h.objs.size)))).get? h.objs.size = _ := up _ _ (Nat.ne_of_gt hSl) ht
      exact Nat.lt_trans hIs (Heap.lt_size q)
end
theorem en_no_len : typeLookup (.type "enumerate") "__len__" = pure none := by rw [typeLookup_type, builtinLookup_eq_fast]; kernel_rfl
theorem en_no_hint : typeLookup (.type "enumerate") "__length_hint__" = pure none := by rw [typeLookup_type, builtinLookup_eq_fast]; kernel_rfl
section
variable {prog : Program} {w : World} {A : Around} {s : Shared} {R : Result → Shared → Prop} {e it : Addr} {fp : List Addr} {n : Nat} {P : Nat → Value → Prop} {St : Nat → Heap → Prop}
theorem le_extend {S lo : Addr} (D : Draws prog w A.in1.in1 it fp n P St) (hSe : S ≠ e) (hSi : S ≠ it) (hSf : S ∉ fp) (hne : e ≠ it) (hef : e ∉ fp) (hn : n ≤ sizeLine) (res : Value) (c₀ : Nat) (he : IsEnum s.heap e it 0 .none) (hst : St 0 s.heap) (hS : s.heap.get? S = some { cls := .type "list", data := .seq #[] c₀ }) (hloe : e ≤ lo) (hloi : it ≤ lo) (hloS : S ≤ lo) (hlo : lo < s.heap.objs.size)
    (hR : ∀ h' tk acc c as, (∀ b o, b ≠ S → b ≠ e → b ≠ it → s.heap.get? b = some o → h'.get? b = some o) → h'.get? S = some { cls := .type "list", dict := none, data := .seq acc c, slots := #[] } → as.length = n → LeG P lo h' as →
      acc.toList = as.map Value.ref → R (.ok (.ret res)) { s with heap := h', toks := tk }) :
    wpAny (model prog w) A.in1 (Builtin.List.listExtendWith (.ref S) (.ref e) res)
      (fun fin s' => match fin with | .done f => R (.ok f) s' | .again c' => c'.quiet = true ∧ codeAny (model prog w) A c' R s') (fun e s' => R (.error e) s') s := by
  have hT : s.TypeIs (.ref e) "enumerate" := ⟨_, he, rfl⟩
  unfold Builtin.List.listExtendWith
  refine wpAny_bind (wpAny_typeOf hT ?_)
  have h1 : Builtin.List.listSameRef (.ref S) (.ref e) = false := by simp [Builtin.List.listSameRef, hSe]
  have h2 : (Value.type "enumerate" == Value.type "list") = false := by decide
  have h3 : (Value.type "enumerate" == Value.type "tuple") = false := by decide
  simp only [h1, h2, h3, Bool.or_false, Bool.false_eq_true, if_false]
  refine wpAny_bind (wpAny_pyIter_enum he ?_)
  refine wpAny_bind (wpAny_holding ?_)
  unfold Builtin.List.listLengthHint
  refine wpAny_bind (wpAny_specialOf hT en_no_len ?_)
  show wpAny _ A.in1 (specialOf (Value.ref e) (Str.ofString "__length_hint__") >>= _) _ _ _
  refine wpAny_bind (wpAny_specialOf hT en_no_hint ?_)
  refine wpAny_pure ?_
  show wpAny _ A.in1 (rule "list.extend.makes-room" >>= fun _ => Builtin.List.listTouch (.ref S) >>= fun _ =>
    again (.builtin "list.extend.loop" ⟨[.ref S, .ref e, res], []⟩)) _ _ _
  refine wpAny_bind (wpAny_rule ?_)
  refine wpAny_bind ?_
  show wpAny _ A.in1 (updateSeq S (·.push .none) >>= fun _ => updateSeq S (·.pop)) _ _ _
  refine wpAny_bind (wpAny_updateSeq hS rfl ?_)
  have hS₂ := Heap.get?_update_self (Obj.mapSeq (·.push Value.none)) hS rfl
  refine wpAny_updateSeq (hz := by seq_fits) hS₂ rfl ?_
  have hS₃ := Heap.get?_update_self (Obj.mapSeq (·.pop)) hS₂ rfl
  have oth : ∀ b o, b ≠ S → s.heap.get? b = some o → ((s.heap.update S (Obj.mapSeq (·.push Value.none))).update S (Obj.mapSeq (·.pop))).get? b = some o :=
    fun b o hb q => (Heap.get?_update_other _ _ (Ne.symm hb)).trans ((Heap.get?_update_other _ _ (Ne.symm hb)).trans q)
  refine wpAny_pure ⟨plainId_quiet F.plain_extend_loop _, le_loop (s := s) D hSe hSi hSf hne hef hn res (h₁ := s.heap) hloe hloi hloS hR n 0 _ s.toks _ #[] [] (Nat.sub_zero _) (Nat.zero_le _) (.inl ⟨rfl, .none, oth e _ (Ne.symm hSe) he⟩)
    (D.frame 0 _ _ hst fun b hb o q => oth b o (fun z => hSf (z ▸ hb)) q) (fun b o hb _ _ q => oth b o hb q) hS₃ rfl rfl ⟨List.Pairwise.nil, (fun _ ha => nomatch ha), (fun j a hj => by simp at hj)⟩ ?_⟩
  show lo < ((s.heap.update S _).update S _).objs.size
  rw [Heap.size_update, Heap.size_update]
  exact hlo
theorem le_init {S lo : Addr} (D : Draws prog w A.in1.in1 it fp n P St) (hSe : S ≠ e) (hSi : S ≠ it) (hSf : S ∉ fp) (hne : e ≠ it) (hef : e ∉ fp) (hn : n ≤ sizeLine) (he : IsEnum s.heap e it 0 .none) (hst : St 0 s.heap) (hS : s.heap.get? S = some { cls := .type "list", data := .seq #[] }) (hloe : e ≤ lo) (hloi : it ≤ lo) (hloS : S ≤ lo) (hlo : lo < s.heap.objs.size)
    (hR : ∀ h' tk acc c as, (∀ b o, b ≠ S → b ≠ e → b ≠ it → s.heap.get? b = some o → h'.get? b = some o) → h'.get? S = some { cls := .type "list", dict := none, data := .seq acc c, slots := #[] } → as.length = n → LeG P lo h' as →
      acc.toList = as.map Value.ref → R (.ok (.ret .none)) { s with heap := h', toks := tk }) :
    wpAny (model prog w) A.in1 (Builtin.«list.__init__» ⟨[.ref S, .ref e], []⟩)
      (fun fin s' => match fin with | .done f => R (.ok f) s' | .again c' => c'.quiet = true ∧ codeAny (model prog w) A c' R s') (fun e s' => R (.error e) s') s := by
  show wpAny _ A.in1 (do let old ← Builtin.List.listItems (.ref S); Builtin.List.listUpdate (.ref S) (fun _ => #[]); letGo old.toList.reverse; Builtin.List.listExtendWith (.ref S) (.ref e) .none) _ _ s
  refine wpAny_bind ?_
  unfold Builtin.List.listItems
  refine wpAny_bind (wpAny_seqItems hS rfl (wpAny_pure ?_))
  show wpAny _ A.in1 (updateSeq S (fun _ => #[]) >>= fun _ => letGo (#[] : Array Value).toList.reverse >>= fun _ => Builtin.List.listExtendWith (.ref S) (.ref e) .none) _ _ s
  refine wpAny_bind (wpAny_updateSeq hS rfl ?_)
  have hS₂ := Heap.get?_update_self (Obj.mapSeq (fun _ => (#[] : Array Value))) hS rfl
  have oth : ∀ b o, b ≠ S → s.heap.get? b = some o → (s.heap.update S (Obj.mapSeq (fun _ => (#[] : Array Value)))).get? b = some o :=
    fun b o hb q => (Heap.get?_update_other _ _ (Ne.symm hb)).trans q
  refine wpAny_bind (wpAny_letGo ?_)
  refine le_extend (S := S) (lo := lo) D hSe hSi hSf hne hef hn .none _ (oth e _ (Ne.symm hSe) he) (D.frame 0 _ _ hst fun b hb o q => oth b o (fun z => hSf (z ▸ hb)) q) hS₂ hloe hloi hloS ?_ fun h' tk acc c as hk hS' hl hG hacc => hR h' tk acc c as (fun b o h1 h2 h3 q => hk b o h1 h2 h3 (oth b o h1 q)) hS' hl hG hacc
  show lo < (s.heap.update S _).objs.size
  rw [Heap.size_update]
  exact hlo
end
section
variable {prog : Program} {w : World} {A : Around} {E : Value → Shared → Prop} {s : Shared} {e it : Addr} {fp : List Addr} {n : Nat} {P : Nat → Value → Prop} {St : Nat → Heap → Prop}
theorem le_call {Q : Value → Shared → Prop} (D : Draws prog w A.in1.in1.in1 it fp n P St) (hif : it ∈ fp) (hfp : ∀ b ∈ fp, b < s.heap.objs.size) (hne : e ≠ it) (hef : e ∉ fp) (hn : n ≤ sizeLine) (he : IsEnum s.heap e it 0 .none) (hst : St 0 s.heap)
    (hQ : ∀ h' tk acc c as, (∀ b o, b ≠ e → b ≠ it → s.heap.get? b = some o → h'.get? b = some o) → h'.get? s.heap.objs.size = some { cls := .type "list", dict := none, data := .seq acc c, slots := #[] } → as.length = n → LeG P s.heap.objs.size h' as →
      acc.toList = as.map Value.ref → Q (.ref s.heap.objs.size) { s with heap := h', toks := tk }) :
    wpAny (model prog w) A (call (.type "list") [.ref e]) Q E s := by
  have hSf : s.heap.objs.size ∉ fp := fun hm => Nat.lt_irrefl _ (hfp _ hm)
  have hel : e < s.heap.objs.size := Heap.lt_size he
  have hil := hfp it hif
  refine callType_codes (Q₁ := fun obj s₁ => obj = .ref s.heap.objs.size ∧ s₁ = { s with heap := s.heap.push { cls := .type "list", data := .seq #[] } }) F.called_list (F.typeCall_list_1 _) F.entry_list_init
    (code_list_new _ ⟨rfl, rfl⟩) fun obj s₁ h₁ => ?_
  obtain ⟨rfl, rfl⟩ := h₁
  have hS : (s.heap.push { cls := .type "list", data := .seq #[] }).get? s.heap.objs.size = some { cls := .type "list", data := .seq #[] } := Heap.get?_push_size _ rfl
  refine ⟨⟨_, hS, rfl⟩, F.args_list_init_2 _ _, le_init (A := A.in1) (S := s.heap.objs.size) (lo := s.heap.objs.size) D (Nat.ne_of_gt hel) (Nat.ne_of_gt hil) hSf hne hef hn (Heap.get?_push_of_some _ he) (D.frame 0 _ _ hst fun b _ o q => Heap.get?_push_of_some _ q) hS (Nat.le_of_lt hel) (Nat.le_of_lt hil) (Nat.le_refl _) (Heap.lt_size hS) fun h' tk acc c as hk hS' hl hG hacc => ?_⟩
  exact ⟨rfl, hQ h' tk acc c as (fun b o h2 h3 q => hk b o (Nat.ne_of_lt (Heap.lt_size q)) h2 h3 (Heap.get?_push_of_some _ q)) hS' hl hG hacc⟩
end
end SG
set_option maxHeartbeats 1000000
namespace SG
open PySem PySem.Spec PyProof.Rows L2
def putE : Hp → List Addr → List V → Nat → Hp
  | H, a :: as, x :: xs, i => putE (upd H a (.tup [.int (i : Nat), x])) as xs (i + 1)
  | H, _, _, _ => H
theorem putE_off {b : Addr} : ∀ (as : List Addr) (xs : List V) (H : Hp) (i : Nat), b ∉ as → putE H as xs i b = H b
  | [], _, _, _, _ => rfl
  | _ :: _, [], _, _, _ => rfl
  | a :: as, x :: xs, H, i, h => by
    show putE (upd H a (.tup [.int (i : Nat), x])) as xs (i + 1) b = H b
    rw [putE_off as xs _ _ (fun z => h (List.mem_cons_of_mem _ z)), upd_ne (fun z => h (by rw [z]; exact List.mem_cons_self))]
theorem putE_at : ∀ (as : List Addr) (xs : List V) (H : Hp) (i : Nat), as.length = xs.length → as.Nodup → ∀ (j : Nat) (a : Addr), as[j]? = some a → ∃ x, xs[j]? = some x ∧ putE H as xs i a = some (.tup [.int ((i + j : Nat) : Int), x])
  | [], _, _, _, _, _, j, a, h => by simp at h
  | _ :: _, [], _, _, h, _, _, _, _ => by cases h
  | a :: as, x :: xs, H, i, h, hn, 0, b, hj => by
    simp at hj
    subst hj
    have hn' := List.nodup_cons.mp hn
    refine ⟨x, rfl, ?_⟩
    show putE (upd H a (.tup [.int (i : Nat), x])) as xs (i + 1) a = _
    rw [putE_off as xs _ _ hn'.1, upd_same]; rfl
  | a :: as, x :: xs, H, i, h, hn, j + 1, b, hj => by
    have hn' := List.nodup_cons.mp hn
    obtain ⟨y, h1, h2⟩ := putE_at as xs (upd H a (.tup [.int (i : Nat), x])) (i + 1) (Nat.succ.inj h) hn'.2 j b (by simpa using hj)
    refine ⟨y, by simpa using h1, ?_⟩
    show putE (upd H a (.tup [.int (i : Nat), x])) as xs (i + 1) b = _
    rw [h2, show i + 1 + j = i + (j + 1) by omega]
section
variable {X : Cx} {pins : List (Addr × Obj)} {σ : L2.St} {H : Hp} {s : Shared}
theorem enum_laid {h' : Heap} {tk : Nat} {xs : List V} {acc : Array Value} {c : Nat} {as : List Addr} {S : Addr} {P : Nat → Value → Prop} (I : Inv X pins σ H s) (hz : xs.length ≤ sizeLine)
    (hk : ∀ b o, s.heap.get? b = some o → h'.get? b = some o) (hSl : s.heap.objs.size ≤ S) (hS : h'.get? S = some { cls := .type "list", dict := none, data := .seq acc c, slots := #[] }) (hl : as.length = xs.length) (hG : LeG P S h' as) (m4 : ∀ j v, P j v → ∃ x, xs[j]? = some x ∧ RelV x v) (hacc : acc.toList = as.map Value.ref) :
    H S = none ∧ (∀ t ∈ as, H t = none) ∧ S ∉ as ∧ as.Nodup ∧ Inv X pins σ (putE (upd H S (.lst (as.map V.ref))) as xs 0) { s with heap := h', toks := tk } := by
  have hSn : S ∉ as := fun z => Nat.lt_irrefl _ (hG.above _ z)
  have nd : as.Nodup := List.Pairwise.imp (fun {a b} (h : a < b) => Nat.ne_of_lt h) hG.rise
  have new : ∀ t ∈ as, H t = none := fun t ht => I.hok.fresh (Nat.le_trans hSl (Nat.le_of_lt (hG.above t ht)))
  have newS : H S = none := I.hok.fresh hSl
  have atP := putE_at as xs (upd H S (.lst (as.map V.ref))) 0 hl nd
  have off : ∀ b, b ∉ as → b ≠ S → putE (upd H S (.lst (as.map V.ref))) as xs 0 b = H b := fun b h1 h2 => by rw [putE_off as xs _ _ h1, upd_ne h2]
  have low : ∀ b o, s.heap.get? b = some o → b ∉ as ∧ b ≠ S := fun b o e => ⟨fun z => absurd (Heap.lt_size e) (Nat.not_lt.mpr (Nat.le_trans hSl (Nat.le_of_lt (hG.above b z)))), Nat.ne_of_lt (Nat.lt_of_lt_of_le (Heap.lt_size e) hSl)⟩
  have kp : ∀ b u, H b = some u → (putE (upd H S (.lst (as.map V.ref))) as xs 0) b = some u := fun b u e => by
    rw [off b (fun z => by rw [new b z] at e; cases e) (fun z => by rw [z, newS] at e; cases e)]
    exact e
  have eS : putE (upd H S (.lst (as.map V.ref))) as xs 0 S = some (.lst (as.map V.ref)) := by rw [putE_off as xs _ _ hSn, upd_same]
  refine ⟨newS, new, hSn, nd, ?_⟩
  refine I.call' (ch := []) rfl ⟨fun b o q _ _ _ => hk b o q, fun b o q _ _ _ => ⟨o.slots, hk b o q⟩, fun b o q n _ => ?_, fun b o q _ => ⟨o, hk b o q⟩, fun b xs q => kp b _ q, fun b o u q => kp b _ q, fun b ps q => ⟨#[], by rw [kp b _ q]; simp⟩⟩ (fun b u q => ?_) I.bare fun b z => by simp at z
  · obtain ⟨z1, z2⟩ := low b o q
    rw [off b z1 z2]
    exact n
  · by_cases hb : b ∈ as
    · obtain ⟨j, e1⟩ := List.mem_iff_getElem?.mp hb
      obtain ⟨x, e2, e3⟩ := atP j b e1
      rw [e3] at q
      cases q
      obtain ⟨u, t, f1, f2⟩ := hG.pairs j b e1
      obtain ⟨y, g1, g2⟩ := m4 j u f1
      rw [e2] at g1
      cases g1
      rw [Nat.zero_add]
      exact ⟨by show 2 ≤ sizeLine; decide, [.int j t, u], .cons ⟨_, rfl⟩ (.cons g2 .nil), ⟨_, f2, rfl, _, rfl⟩⟩
    · by_cases hb2 : b = S
      · rw [hb2] at q ⊢
        rw [eS] at q
        cases q
        refine ⟨by rw [List.length_map]; omega, acc.toList, c, by rw [hacc]; exact LiI.vals_refs as, ?_⟩
        rw [Array.toArray_toList]
        exact hS
      · rw [off b hb hb2] at q
        exact (I.hok b u q).stay (fun d v _ y => hk d v y) (fun d y => kp d _ y) fun d xs y => kp d _ y
end
def rLenum : V → Hp → VK → Prop := fun v H Q => ∃ kd xs, v = Kd.val kd ∧ Gd kd xs H ∧ xs.length ≤ sizeLine ∧
  ∀ (q : Addr) (as : List Addr), H q = none → (∀ a ∈ as, H a = none) → q ∉ as → as.Nodup → as.length = xs.length → Q (.ref q) (putE (upd H q (.lst (as.map V.ref))) as xs 0)
def tLenum (te : TE) : TE := fun σ H Q => te σ H fun v H1 => rLenum v H1 Q
section
variable {X : Cx}
theorem pe_lenum {e : Expr} {te : TE} {p p2 pos pos2 : Pos} (hc : X.calm = true) (hg : Gl X "list") (hm : X.mg "list" = none) (hg2 : Gl X "enumerate") (hm2 : X.mg "enumerate" = none) (he : PE X e te)
    (hs : starEach [e] X.env = (false, eval e X.env) :: starEach [] X.env)
    (hs2 : starEach [.Call (.Name "enumerate" p2) [e] [] pos2] X.env = (false, eval (.Call (.Name "enumerate" p2) [e] [] pos2) X.env) :: starEach [] X.env := by rfl) :
    PE X (.Call (.Name "list" p) [.Call (.Name "enumerate" p2) [e] [] pos2] [] pos) (tLenum te) := by
  refine ⟨fun pins s σ H Q I h => ?_⟩
  refine Call_ (ld_blt I hg hm boot_list (PyProof.Rows.callWith_type1 (args_cons (Call_ (ld_blt I hg2 hm2 boot_enumerate (PyProof.Rows.callWith_type1 (args_cons (thn (he.run pins s σ H _ I h) fun u s1 ⟨v, H1, I1, r1, q1⟩ => args_nil ?_) hs) hs rfl))) hs2) hs2 rfl))
  obtain ⟨kd, xs, ev, hq, hz, q⟩ := q1
  subst ev
  obtain ⟨o, HH, B, hB, hit⟩ := begins_of I1 hq r1
  refine call_enum1 B hB fun h' he' ho hk => args_nil ?_
  have I2 : Inv X pins σ H1 { s1 with heap := h' } := I1.kept (t' := s1.toks) hk
  have fr : ∀ b, s1.heap.objs.size ≤ b → H1 b = none := fun b hb => I1.hok.fresh hb
  obtain ⟨fp, P, St, D, m1, m2, st0, m3, m4⟩ := draws_of (A := X.A.in1.in1.in1) I2 (I1.ok.hd hc) hq (fr _ (Nat.le_refl _)) (hit _ h' ho)
  have hfp : ∀ b ∈ fp, b < h'.objs.size := fun b hb => by
    rcases m2 b hb with z | ⟨o, z⟩
    · rw [z]; exact Heap.lt_size ho
    · exact Nat.lt_of_not_le fun hle => by rw [I2.hok.fresh hle] at z; cases z
  have hef : s1.heap.objs.size + 1 ∉ fp := fun z => by
    rcases m2 _ z with q | ⟨o, q⟩
    · exact absurd q (Nat.succ_ne_self _)
    · rw [fr _ (Nat.le_add_right _ _)] at q; cases q
  refine le_call (s := { s1 with heap := h' }) (A := X.A) D m1 hfp (Nat.succ_ne_self _) hef hz he' st0 fun h'' tk acc c as hk2 hS hl hG hacc => ?_
  have hkk : ∀ b o, s1.heap.get? b = some o → h''.get? b = some o := fun b o z => hk2 b o (Nat.ne_of_lt (Nat.lt_of_lt_of_le (Heap.lt_size z) (Nat.le_add_right _ _))) (Nat.ne_of_lt (Heap.lt_size z)) (hk b o z)
  have hle : s1.heap.objs.size ≤ h'.objs.size := Nat.le_of_lt (Heap.lt_size ho)
  obtain ⟨k1, k2, k3, k4, J⟩ := enum_laid (tk := tk) I1 hz hkk hle hS hl hG m4 hacc
  exact ⟨.ref _, _, J, rfl, q _ as k1 k2 k3 k4 hl⟩
end
end SG
namespace SG
open PySem PySem.Spec PyProof.Rows L2
section
variable {c : Cn} {F : Addr → Prop} {d : Dice}
theorem putE_step : ∀ (as : List Addr) (xs : List V) (H : Hp) (i : Nat), (∀ a ∈ as, H a = none) → as.Nodup → Wf c F H d → Step c.dc F H F (putE H as xs i) ∧ Wf c F (putE H as xs i) d
  | [], _, _, _, _, _, w => ⟨.refl, w⟩
  | _ :: _, [], _, _, _, _, w => ⟨.refl, w⟩
  | a :: as, x :: xs, H, i, h, hn, w => by
    have hn' := List.nodup_cons.mp hn
    have ha := h a List.mem_cons_self
    obtain ⟨s, w2⟩ := putE_step as xs (upd H a (.tup [.int (i : Nat), x])) (i + 1) (fun b hb => by
      rw [upd_ne (fun z => hn'.1 (by rw [← z]; exact hb))]
      exact h b (List.mem_cons_of_mem _ hb)) hn'.2 (w.new' ha)
    exact ⟨(Step.new' ha).trans s, w2⟩
end
section
variable {c : Cn} {ck : Ck} {cf : CF} {k : Nat} {X : Cx} {W : WX}
theorem s_lenum {a : E} {s : Syn} (G : Good c ck cf k X) (iha : ∀ s, chk ck a X.env.scope s = true → Snd c cf X W X.env.scope a s) (h : chk ck (.lenum a) X.env.scope s = true) : Snd c cf X W X.env.scope (.lenum a) s := by
  simp only [chk] at h
  split at h
  · simp only [Bool.and_eq_true] at h
    obtain ⟨⟨⟨⟨⟨h1, h2⟩, h3⟩, h5⟩, h4⟩, h6⟩ := h
    have hx := of_decide_eq_true h1
    have hy := of_decide_eq_true h3
    subst hx hy
    refine snd_ex (PE.imp (pe_lenum G.calm (gl_of h2) (G.blt "list" (by decide)) (gl_of h5) (G.blt "enumerate" (by decide)) (iha _ h6).1 (star1 h4) rfl) fun σ H Q ⟨env, d, F, es, q⟩ => ?_) fun _ => rfl
    simp only [ev] at q
    refine ⟨env, d, F, es, q.bind.imp fun x d1 F1 H1 st w q1 v dq => ?_⟩
    obtain ⟨z, ez, q2⟩ := q1.of
    cases ei : items x with
    | none => rw [ei] at ez; cases ez
    | some l =>
      rw [ei] at ez
      simp only [Option.bind_some] at ez
      split at ez <;> cases ez
      rename_i hlim
      obtain ⟨kd, vs, ev, r, g⟩ := kd_of dq ei
      refine ⟨kd, vs, ev, g _ _ ⟨fun _ h => h, fun _ _ _ h => h, fun _ _ h => h⟩, by rw [r.length]; exact Nat.le_trans hlim lim_line, fun p as hp has hpn hnd hl => ?_⟩
      have has' : ∀ b ∈ as, upd H1 p (.lst (as.map V.ref)) b = none := fun b hb => by
        rw [upd_ne (fun z => hpn (by rw [← z]; exact hb))]
        exact has b hb
      obtain ⟨s2, w2⟩ := putE_step (F := addF F1 p) as vs (upd H1 p (.lst (as.map V.ref))) 0 has' hnd (w.newF hp)
      have s1 : Step c.dc F1 H1 (addF F1 p) (putE (upd H1 p (.lst (as.map V.ref))) as vs 0) := (Step.newF hp).trans s2
      refine q2 _ _ s1 w2 _ (.lst (.inr rfl) (by rw [putE_off as vs _ _ hpn, upd_same]) (.of (by rw [List.length_map, enum_len, hl, r.length]) fun i u y e1 e2 => ?_))
      rw [List.getElem?_map] at e1
      cases ea : as[i]? with
      | none => rw [ea] at e1; cases e1
      | some b =>
        rw [ea] at e1
        cases e1
        obtain ⟨x', hx', e3⟩ := putE_at as vs (upd H1 p (.lst (as.map V.ref))) 0 hl hnd i b ea
        obtain ⟨z, h1, h2⟩ := enum_get e2
        obtain ⟨z', h1', dq'⟩ := r.get' hx'
        rw [h1] at h1'
        cases h1'
        rw [h2]
        exact .tup e3 (.cons (.int _) (.cons (dq'.mono (s1.le w)) .nil))
  · cases h
end
end SG
namespace SG
open PySem PySem.Spec PyProof.Rows L2
section
variable {c : Cn} {ck : Ck} {cf : CF} {k : Nat} {X : Cx} {W : WX}
abbrev W0 : WX := fun _ _ _ _ => False
theorem tabs_ext {T : List (Addr × Str)} {H H' : Hp} (t : LamX.Tabs T H) (e : ∀ b o, H b = some o → (∀ xs, o ≠ .lst xs) → H' b = some o) : LamX.Tabs T H' := fun p hp => by
  obtain ⟨ps, h1, h2, h3⟩ := t p hp
  refine ⟨ps, e _ _ h1 (by intro xs z; cases z), h2, fun pos cv hc => ?_⟩
  obtain ⟨a, e1, e2⟩ := h3 pos cv hc
  exact ⟨a, e1, e _ _ e2 (by intro xs z; unfold LamX.CodeO at z; cases z)⟩
theorem wf_upd {F : Addr → Prop} {H : Hp} {d : Dice} {p : Addr} {xs ys : List V} (w : Wf c F H d) (hp : H p = some (.lst xs)) (nd : p ≠ c.dc) : Wf c F (upd H p (.lst ys)) d := by
  refine ⟨fun b f => ?_, w.nd, by rw [upd_ne (Ne.symm nd)]; exact w.die, tabs_ext w.tabs fun b o e n => ?_⟩
  · by_cases z : b = p
    · subst z; exact ⟨_, upd_same⟩
    · rw [upd_ne z]; exact w.dom b f
  · have : b ≠ p := fun z => by subst z; rw [hp] at e; cases e; exact n _ rfl
    rw [upd_ne this]; exact e
theorem le_upd {F : Addr → Prop} {H : Hp} {p : Addr} {xs ys : List V} (hp : H p = some (.lst xs)) (nf : ¬ F p) : Le F H F (upd H p (.lst ys)) :=
  ⟨fun _ h => h, fun b zs f e => by rw [upd_ne (fun z => nf (by rw [← z]; exact f))]; exact e, fun b zs e => by rw [upd_ne (fun z => by subst z; rw [hp] at e; cases e)]; exact e⟩
theorem wipe_same {σ σ' : L2.St} (hl : σ'.length = σ.length) : ∀ {vs : List Nat}, (∀ j : Nat, j ∉ vs → σ'[j]? = σ[j]?) → L2.wipe σ' vs = L2.wipe σ vs := by
  intro vs h
  apply List.ext_getElem?
  intro j
  by_cases hj : j ∈ vs
  · have key : ∀ (τ : L2.St) (ws : List Nat), j ∈ ws → (L2.wipe τ ws)[j]? = if j < τ.length then some none else none := by
      intro τ ws
      induction ws with
      | nil => intro h; cases h
      | cons w ws ih =>
        intro h
        show ((L2.wipe τ ws).set w none)[j]? = _
        by_cases e : w = j
        · subst e
          rw [List.getElem?_set]
          simp [L2.wipe_length]
        · rw [List.getElem?_set_ne e]
          exact ih ((List.mem_cons.mp h).elim (fun z => absurd z.symm e) id)
    rw [key σ' vs hj, key σ vs hj, hl]
  · rw [L2.wipe_out hj, L2.wipe_out hj]
    exact h j hj
theorem wipe_wipe (σ : L2.St) (vs : List Nat) : L2.wipe (L2.wipe σ vs) vs = L2.wipe σ vs := wipe_same (L2.wipe_length σ vs) fun j hj => L2.wipe_out hj
def TurnOk (c : Cn) (tt : TT) (te : TE) (f : Env → Dice → Res (Option D)) : Prop := ∀ env d F σ H (K1 : VK) (K0 : Hp → Prop), ES c env d F σ H →
  (match f env d with
    | .ok (some z) d2 => ∀ v H3 F3, Step c.dc F H F3 H3 → Wf c F3 H3 d2 → Dq c.dc F3 H3 v z → K1 v H3
    | .ok none d2 => ∀ H3 F3, Step c.dc F H F3 H3 → Wf c F3 H3 d2 → K0 H3
    | _ => False) → tt σ H (fun b H3 => if b = true then te σ H3 K1 else K0 H3)
theorem turn_plain {elt : E} : TurnOk c tYes (tE c cf W0 elt) (fun env d => (ev cf elt env d).bind fun y d => .ok (some y) d) := by
  intro env d F σ H K1 K0 es h
  show if true = true then tE c cf W0 elt σ H K1 else K0 H
  refine iteT' ⟨env, d, F, es, ?_⟩
  cases e : ev cf elt env d with
  | ok z d2 => simp only [e, Res.bind] at h; exact fun H3 F3 st w v dq => h v H3 F3 st w dq
  | err n d2 => simp only [e, Res.bind] at h
  | bad => simp only [e, Res.bind] at h
theorem turn_if {elt cd : E} : TurnOk c (tT c cf W0 cd) (tE c cf W0 elt) (fun env d => (ev cf cd env d).bind fun b d => match truth b with
        | some true => (ev cf elt env d).bind fun y d => .ok (some y) d
        | some false => .ok none d
        | none => .bad) := by
  intro env d F σ H K1 K0 es h
  refine ⟨env, d, F, es, ?_⟩
  cases e : ev cf cd env d with
  | ok z d1 =>
    simp only [e, Res.bind] at h
    intro H1 F1 st w
    cases et : truth z with
    | none => simp only [et] at h
    | some b =>
      refine ⟨b, rfl, ?_⟩
      cases b with
      | true =>
        simp only [et] at h
        refine iteT' ⟨env, d1, F1, es.step st w, ?_⟩
        cases e2 : ev cf elt env d1 with
        | ok y d2 => simp only [e2] at h; exact fun H3 F3 st3 w3 v dq => h v H3 F3 (st.trans st3) w3 dq
        | err n d2 => simp only [e2] at h
        | bad => simp only [e2] at h
      | false =>
        simp only [et] at h
        exact iteF' (h H1 F1 st w)
  | err n d2 => simp only [e, Res.bind] at h
  | bad => simp only [e, Res.bind] at h
theorem bind_bind {α β γ : Type} (r : Res α) (f : α → Dice → Res β) (g : β → Dice → Res γ) : (r.bind f).bind g = r.bind fun x d => (f x d).bind g := by cases r <;> rfl
theorem lc_reading {J : It} {F1 : Addr → Prop} {H1 : Hp} {l : List D} {σ : L2.St} {env : Env} {d1 : Dice} {tg : E} {own : List Nat} {tt : TT} {te : TE} {f : Env → Dice → Res (Option D)} {Q : VK} {D : Addr}
    (es : ES c env d1 F1 σ H1) (itok : ItOk c J F1 H1 l) (tf : TurnOk c tt te f) (hD : H1 D = none) (hl : l.length ≤ lim) (hs : ∀ j ∈ tgSl tg, j ∈ own)
    (q : RG c W σ F1 H1 ((lcLoop (fun y => asg tg y (env.wipe own)) f l d1).bind fun ys d => .ok (.lst ys) d) fun x _ F' H' => ∀ v, Dq c.dc F' H' v x → Q v H') :
    ∃ W : Nat → Nat → Hp → Prop, (∃ m, W 0 m (upd H1 D (.lst []))) ∧ ∀ i m H, W i m H →
      (J.stop i H ∧ Q (.ref D) H) ∨ (J.go i H ∧ ∃ Nx : Hp → Prop, (∀ H', Nx H' → ∃ m', m' < m ∧ W (i + 1) m' H') ∧ ∀ x H', J.yld i H x H' → gT c tg x (L2.wipe σ own) H' fun σ2 H2 => L2.wipe σ2 own = L2.wipe σ own ∧ tt σ2 H2 fun b H3 =>
        if b = true then te σ2 H3 fun y H4 => ∃ acc, H4 D = some (.lst acc) ∧ acc.length < sizeLine ∧ Nx (upd H4 D (.lst (acc ++ [y]))) else Nx H3) := by
  obtain ⟨G, Y, wk, hG, hY⟩ := itok
  have w1 := es.wf
  have nD : D ≠ c.dc := w1.fresh_ne hD
  refine lc_it wk (Qd := fun H => Q (.ref D) H) (fun i H' => ∃ F' d' acc accs, Step c.dc F1 H1 F' H' ∧ Wf c F' H' d' ∧ H' D = some (.lst acc) ∧ ¬ F' D ∧ DqA c.dc F' H' acc accs ∧ accs.length ≤ i ∧
    RG c W σ F1 H1 ((lcLoop (fun y => asg tg y (env.wipe own)) f (l.drop i) d').bind fun ys d => .ok (.lst (accs ++ ys)) d) fun x _ F' H' => ∀ v, Dq c.dc F' H' v x → Q v H') ?_ ?_ ?_ ?_
  · exact ⟨F1, d1, [], [], .new' hD, w1.new' hD, upd_same, w1.fresh_F hD, .nil, Nat.le_refl _, by simpa using q⟩
  · rintro i H' hi ⟨F', d', acc, accs, st, w, _⟩
    exact hG H' F' (st.le w1)
  · rintro i x Hc Hy hi ⟨F', d', acc, accs, st, w, hd, nf, r, hle, q⟩ hy
    have hli : i < l.length := hi
    have ey : l[i]? = some l[i] := by simp [hli]
    have : ∃ st2 : Step c.dc F' Hc F' Hy, Wf c F' Hy d' ∧ Dq c.dc F' Hy x l[i] := by
      rcases hY i Hc F' x Hy l[i] (st.le w1) ey hy with ⟨e, dq⟩ | ⟨T, xs, ys, e1, e2, e3, e4, dq⟩
      · subst e; exact ⟨.refl, w, dq⟩
      · subst e1 e3
        rw [e4]
        exact ⟨.new' e2, w.new' e2, .newT w e2 dq⟩
    obtain ⟨st2, w2, dqy⟩ := this
    have hd2 : Hy D = some (.lst acc) := st2.keep D _ hd nD (by intro ps z; cases z)
    have es2 : ES c (env.wipe own) d' F' (L2.wipe σ own) Hy := (es.step (st.trans st2) w2).wipe own
    rw [List.drop_eq_getElem_cons hli] at q
    simp only [lcLoop] at q
    cases ea : asg tg l[i] (env.wipe own) with
    | none => rw [ea] at q; exact q.elim
    | some env' =>
      rw [ea] at q
      simp only at q
      refine ⟨_, d', F', l[i], es2, dqy, env', ea, fun σ' es' so => ⟨?_, ?_⟩⟩
      · have : L2.wipe σ' own = L2.wipe (L2.wipe σ own) own := wipe_same (by rw [so.1]) fun j hj => so.2 j fun z => hj (hs j z)
        rw [this, wipe_wipe]
      · refine tf env' d' F' σ' Hy _ _ es' ?_
        have more : ∀ (H3 : Hp) (F3 : Addr → Prop) (d2 : Dice), Step c.dc F' Hy F3 H3 → Wf c F3 H3 d2 → H3 D = some (.lst acc) ∧ ¬ F3 D ∧ DqA c.dc F3 H3 acc accs ∧ Step c.dc F1 H1 F3 H3 := fun H3 F3 d2 s3 w3 => by
          refine ⟨s3.keep D _ hd2 nD (by intro ps z; cases z), fun z => ?_, (r.mono (st2.le w)).mono (s3.le w2), (st.trans st2).trans s3⟩
          rcases s3.new D z with z | z | z
          · exact nf z
          · exact z.not hd2
          · exact nD z
        cases ef : f env' d' with
        | bad => rw [ef] at q; exact q.elim
        | err n d2 => rw [ef] at q; exact q.elim
        | ok o d2 =>
          rw [ef] at q
          simp only [Res.noerr, Res.bind] at q
          cases o with
          | none =>
            intro H3 F3 s3 w3
            obtain ⟨m1, m2, m3, m4⟩ := more H3 F3 d2 s3 w3
            refine ⟨F3, d2, acc, accs, m4, w3, m1, m2, m3, by omega, ?_⟩
            cases el : lcLoop (fun y => asg tg y (env.wipe own)) f (l.drop (i + 1)) d2 with
            | ok ys d3 => rw [el] at q; exact q
            | err n d3 => rw [el] at q; exact q
            | bad => rw [el] at q; exact q
          | some z =>
            intro v H3 F3 s3 w3 dq3
            obtain ⟨m1, m2, m3, m4⟩ := more H3 F3 d2 s3 w3
            refine ⟨acc, m1, ?_, F3, d2, acc ++ [v], accs ++ [z], ?_, wf_upd w3 m1 nD, upd_same, m2, (m3.snoc dq3).mono (le_upd m1 m2), by simp; omega, ?_⟩
            · have e1 := m3.length
              have e2 := lim_line
              omega
            · refine ⟨m4.sub, m4.new, fun b o e n t => ?_⟩
              rw [upd_ne (ne_of_none e hD)]; exact m4.keep b o e n t
            · cases el : lcLoop (fun y => asg tg y (env.wipe own)) f (l.drop (i + 1)) d2 with
              | ok ys d3 => rw [el] at q; simpa [Res.bind] using q
              | err n d3 => rw [el] at q; exact q
              | bad => rw [el] at q; exact q
  · rintro H' ⟨F', d', acc, accs, st, w, hd, nf, r, hle, q⟩
    rw [List.drop_length] at q
    simp only [lcLoop, Res.bind, List.append_nil] at q
    have s' : Step c.dc F1 H1 (addF F' D) H' := ⟨fun b h => .inl (st.sub b h), fun b h => h.elim (st.new b) fun z => .inr (.inl (.of (z ▸ hD))), st.keep⟩
    have w' : Wf c (addF F' D) H' d' := ⟨fun b h => h.elim (w.dom b) fun z => ⟨acc, by rw [z]; exact hd⟩, fun h => h.elim w.nd fun z => nD z.symm, w.die, w.tabs⟩
    exact q H' _ s' w' _ (.lst (.inr rfl) hd (r.mono ⟨fun _ h => .inl h, fun _ _ _ h => h, fun _ _ h => h⟩))
end
end SG
namespace SG
open PySem PySem.Spec PyProof.Rows L2
section
variable {c : Cn} {ck : Ck} {cf : CF} {k : Nat} {X : Cx} {W : WX}
theorem Good.blk (G : Good c ck cf k X) {s : Shared} {H : Hp} {scope : Scope} {cl : List (Str × Addr)} {C : Addr} {fp : List Addr} : Good c ck cf k (X.blk s H scope (compEnvC scope cl C X.env) fp) := ⟨G.N, G.nd, G.calm, G.room, G.blt, G.fns, fun h => let ⟨⟨cc, P, a1, a2, a3, a4⟩, b, d⟩ := G.lam h; ⟨⟨cc, P, a1, a2, a3, a4⟩, b, d⟩⟩
theorem rel_loc {scope sc : Scope} {x : Str} : ∀ {names : List (Str × NameKind)} {kd : NameKind}, kd ≠ .free → names.lookup x = some kd → (names.map fun (n, k) => if (k == NameKind.free && sc.kind == .function && sc.names.lookup n == some .cell) then (n, NameKind.cell) else (n, k)).lookup x = some kd
  | [], _, _, h => by simp at h
  | (n, k) :: r, kd, hk, h => by
    have ih := @rel_loc scope sc x r kd hk
    show List.lookup x ((if (k == NameKind.free && sc.kind == .function && sc.names.lookup n == some .cell) = true then (n, NameKind.cell) else (n, k)) :: _) = _
    cases hx : x == n with
    | true =>
      simp only [List.lookup_cons, hx] at h
      cases h
      have : (k == NameKind.free) = false := by simpa using hk
      rw [this, Bool.false_and, Bool.false_and, if_neg Bool.false_ne_true, List.lookup_cons, hx]
    | false =>
      simp only [List.lookup_cons, hx] at h
      split <;> simp only [List.lookup_cons, hx] <;> exact ih h
theorem tgOk_blk {s : Shared} {H : Hp} {scope : Scope} {cl : List (Str × Addr)} {C : Addr} {fp : List Addr} : TgOk (X.blk s H scope (compEnvC scope cl C X.env) fp) scope := fun x h => by
  unfold locB at h
  have key : ∀ kd, kd ≠ .free → scope.names.lookup x = some kd → (X.blk s H scope (compEnvC scope cl C X.env) fp).env.scope.names.lookup x = some kd := fun kd hk e => rel_loc (scope := scope) (sc := X.env.scope) hk e
  split at h
  · rename_i e; exact ⟨.inl (key _ (by simp) e), .inr (key _ (by simp) e)⟩
  · rename_i e
    refine ⟨.inr (key _ (by simp) e), .inl ?_⟩
    show (scope.names.lookup x == some .cell) = true
    rw [e]; rfl
  · cases h
theorem fold_of {x : Expr} {env : PySem.Env} (h : notSet x = true) : ∀ v, foldedSetIterable x env v = pure v := fun v => by
  cases x <;> first | rfl | (simp [notSet] at h)
theorem sound_tg {e : E} {sc : Scope} (G : Good c ck cf k X) : (∀ x, chk ck e sc (.tg x) = true → Snd c cf X W sc e (.tg x)) ∧ (∀ l, chk ck e sc (.tgs l) = true → Snd c cf X W sc e (.tgs l)) := by
  induction e with
  | nil => exact ⟨fun x h => s_nil h, fun x h => s_nil h⟩
  | cons a r iha ihr =>
    refine ⟨fun x h => by simp [chk] at h, fun l h => ?_⟩
    cases l with
    | nil => simp [chk] at h
    | cons x xs =>
      have h0 := h
      simp only [chk, Bool.and_eq_true] at h
      obtain ⟨⟨h1, h2⟩, h3⟩ := h
      intro tgok
      have pa : PG X _ (gT c a) := iha.1 _ h2 tgok
      have pr : PGs X _ (gTs c r) := ihr.2 _ h3 tgok
      refine PGs.imp (pgs_cons pa pr ?_) fun vs σ H Q ⟨env, d, F, ys, es, q, env', e, k⟩ => ?_
      · cases x <;> first | rfl | (simp [notStar] at h1)
      · cases ys with
        | nil => simp [asg] at e
        | cons y ys =>
          cases q with
          | cons q qs =>
            simp only [asg] at e
            cases e1 : asg a y env with
            | none => rw [e1] at e; cases e
            | some env1 =>
              rw [e1] at e
              refine ⟨_, _, rfl, env, d, F, y, es, q, env1, e1, fun σ' es' so => ?_⟩
              refine ⟨env1, d, F, ys, es', qs, env', e, fun σ2 es2 so2 => k σ2 es2 ⟨so2.1.trans so.1, fun j hj => ?_⟩⟩
              simp only [tgSl, List.mem_append, not_or] at hj
              exact (so2.2 j hj.2).trans (so.2 j hj.1)
  | var i => exact ⟨fun x h => s_varT G h, fun l h => by simp [chk] at h⟩
  | tup a iha =>
    refine ⟨fun x h => ?_, fun l h => by simp [chk] at h⟩
    cases x with
    | Tuple l q p =>
      refine s_tupT G (fun l h => iha.2 l h) h
    | _ => simp [chk] at h
  | _ => exact ⟨fun x h => by simp [chk] at h, fun l h => by simp [chk] at h⟩
theorem pi_of {it : E} {tg x : Expr} (ihi : ∀ s, chk ck it X.env.scope s = true → Snd c cf X W X.env.scope it s) (h : chk ck it X.env.scope (synIt it x) = true) (ht : tgIt it tg = true) : PI X tg x (tI c cf W it) := by
  unfold synIt at h
  split at h
  · exact ihi _ h tg ht
  · exact pi_any (ihi _ h).1
theorem s_lc {elt tg it : E} {own : List Nat} {s : Syn} (G : Good c ck cf k X) (ihi : ∀ s, chk ck it X.env.scope s = true → Snd c cf X W X.env.scope it s) (ihe : ∀ X', Good c ck cf k X' → ∀ s, chk ck elt X'.env.scope s = true → Snd c cf X' W0 X'.env.scope elt s) (h : chk ck (.lc elt tg it own) X.env.scope s = true) : Snd c cf X W X.env.scope (.lc elt tg it own) s := by
  simp only [chk] at h
  split at h
  · simp only [Bool.and_eq_true] at h
    obtain ⟨⟨⟨⟨⟨⟨⟨h1, h2⟩, h3⟩, h4⟩, h5⟩, h6⟩, h7⟩, h8⟩ := h
    rename_i el tg' it' scope p
    have e1 := of_decide_eq_true h1
    have hs : ∀ j ∈ tgSl tg, j ∈ own := fun j hj => by simpa using List.all_eq_true.mp h5 j hj
    refine snd_ex (PE.imp (pe_lc (own := ownP ck.N own) (te := tE c cf W0 elt) (tt := tYes) (g := gT c tg) (wi := tI c cf W it) G.calm (by rw [G.N]; exact G.nd) (pi_of ihi h6 h3) (by rw [G.N]; exact blkOk_by h2) (fun s H C cl fp => (sound_tg G.blk (W := W0)).1 _ h7 tgOk_blk) (fun s H C cl fp => pts_nil) (fun s H C cl fp => (ihe (X.blk s H scope (compEnvC scope cl C X.env) fp) G.blk (.ex el) h8).1) (fold_of h4)) fun σ H Q ⟨env, d, F, es, q⟩ => ?_) fun _ => rfl
    simp only [ev] at q
    refine ⟨env, d, F, es, q.bind.imp fun x d1 F1 H1 st w q1 => ?_⟩
    split at q1
    · exact q1.elim
    · rename_i l hl
      split at q1
      · rename_i hlim
        refine ⟨l, hl, fun J itok D hD => ?_⟩
        rw [e1]
        exact lc_reading (es.step st w) itok turn_plain hD hlim hs q1
      · exact q1.elim
  · cases h
theorem s_lcif {elt tg it cd : E} {own : List Nat} {s : Syn} (G : Good c ck cf k X) (ihi : ∀ s, chk ck it X.env.scope s = true → Snd c cf X W X.env.scope it s) (ihe : ∀ X', Good c ck cf k X' → ∀ s, chk ck elt X'.env.scope s = true → Snd c cf X' W0 X'.env.scope elt s) (ihc : ∀ X', Good c ck cf k X' → ∀ s, chk ck cd X'.env.scope s = true → Snd c cf X' W0 X'.env.scope cd s) (h : chk ck (.lcif elt tg it cd own) X.env.scope s = true) : Snd c cf X W X.env.scope (.lcif elt tg it cd own) s := by
  simp only [chk] at h
  split at h
  · simp only [Bool.and_eq_true] at h
    obtain ⟨⟨⟨⟨⟨⟨⟨⟨h1, h2⟩, h3⟩, h4⟩, h5⟩, h6⟩, h7⟩, h9⟩, h8⟩ := h
    rename_i el tg' it' cd' scope p
    have e1 := of_decide_eq_true h1
    have hs : ∀ j ∈ tgSl tg, j ∈ own := fun j hj => by simpa using List.all_eq_true.mp h5 j hj
    refine snd_ex (PE.imp (pe_lc (own := ownP ck.N own) (te := tE c cf W0 elt) (tt := tT c cf W0 cd) (g := gT c tg) (wi := tI c cf W it) G.calm (by rw [G.N]; exact G.nd) (pi_of ihi h6 h3) (by rw [G.N]; exact blkOk_by h2) (fun s H C cl fp => (sound_tg G.blk (W := W0)).1 _ h7 tgOk_blk) (fun s H C cl fp => pts_one (ihc (X.blk s H scope (compEnvC scope cl C X.env) fp) G.blk (.ex cd') h9).2) (fun s H C cl fp => (ihe (X.blk s H scope (compEnvC scope cl C X.env) fp) G.blk (.ex el) h8).1) (fold_of h4)) fun σ H Q ⟨env, d, F, es, q⟩ => ?_) fun _ => rfl
    simp only [ev] at q
    refine ⟨env, d, F, es, q.bind.imp fun x d1 F1 H1 st w q1 => ?_⟩
    split at q1
    · exact q1.elim
    · rename_i l hl
      split at q1
      · rename_i hlim
        refine ⟨l, hl, fun J itok D hD => ?_⟩
        rw [e1]
        exact lc_reading (es.step st w) itok turn_if hD hlim hs q1
      · exact q1.elim
  · cases h
theorem no_sl {x : Expr} (h : notSlice x = true) : NoSl x := by
  intro o i
  cases x <;> first | rfl | (simp [notSlice] at h)
theorem look3 {kk : List (Key × V)} {p : Addr} {H : Hp} {d : Dice} {F : Addr → Prop} (w : Wf c F H d) (hp : H p = none) : Step c.dc F H F (upd (upd H p (.dK [])) p (.dK kk)) ∧ Wf c F (upd (upd H p (.dK [])) p (.dK kk)) d := by
  have e : upd (upd H p (.dK [])) p (.dK kk) = upd H p (.dK kk) := by
    funext b
    by_cases z : b = p
    · subst z; rw [upd_same, upd_same]
    · rw [upd_ne z, upd_ne z, upd_ne z]
  rw [e]
  exact ⟨.new' hp, w.new' hp⟩
def sK (c : Nat) : Key := .inr ⟨#[c]⟩
theorem s_dget {kvs : List (List Nat × Int)} {a : E} {s : Syn} (G : Good c ck cf k X) (iha : ∀ s, chk ck a X.env.scope s = true → Snd c cf X W X.env.scope a s) (h : chk ck (.dget kvs a) X.env.scope s = true) : Snd c cf X W X.env.scope (.dget kvs a) s := by
  simp only [chk] at h
  split at h
  · simp only [Bool.and_eq_true] at h
    obtain ⟨⟨⟨h1, h2⟩, h3⟩, h4⟩ := h
    have e1 := of_decide_eq_true h1
    subst e1
    unfold isDI at h2
    split at h2
    · simp only [Bool.and_eq_true, decide_eq_true_eq] at h2
      obtain ⟨⟨⟨⟨⟨k1, k2⟩, k3⟩, k4⟩, k5⟩, k6⟩ := h2
      have k1 := str_of k1
      have k2 := str_of k2
      have k3 := str_of k3
      subst k1 k2 k3 k4 k5 k6
      refine snd_ex (PE.imp (pe_dget (by have := G.units; omega) (pe_disp (pps_cons pe_str pe_int (pps_cons pe_str (pe_un un_neg pe_int) (pps_cons pe_str pe_int pps_nil))) rfl rfl (by simp) (by show 3 ≤ 15; decide)) (iha _ h4).1 (no_sl h3)) fun σ H Q ⟨env, d, F, es, q⟩ => ?_) fun _ => rfl
      simp only [ev] at q
      intro p hp
      refine ⟨1, rfl, ?_⟩
      refine ⟨upd_same, [(sK 43, .int 1), (sK 45, .int (-1)), (sK 48, .int 0)], rfl, by show 3 ≤ 15; decide, ?_⟩
      have hm : mergeK [] [(sK 43, V.int 1), (sK 45, V.int (-1)), (sK 48, V.int 0)] = [(sK 43, V.int 1), (sK 45, V.int (-1)), (sK 48, V.int 0)] := by rfl
      rw [hm]
      obtain ⟨s1, w1⟩ := look3 (kk := [(sK 43, .int 1), (sK 45, .int (-1)), (sK 48, .int 0)]) es.wf hp
      refine ⟨env, d, F, es.step s1 w1, (q.bind.step s1).imp fun x d1 F1 H1 st w q1 v dq => ?_⟩
      cases x <;> try (exact q1.elim)
      rename_i t
      obtain ⟨z, ez, q2⟩ := q1.of
      have hd : H1 p = some (.dK [(sK 43, .int 1), (sK 45, .int (-1)), (sK 48, .int 0)]) := st.keep p _ upd_same (es.wf.fresh_ne hp) (by intro ps z; cases z)
      cases dq
      have key : ∃ i : Int, z = .int i ∧ valV [(sK 43, V.int 1), (sK 45, V.int (-1)), (sK 48, V.int 0)] (.inr ⟨t.toArray⟩) = some (.int i) := by
        simp only [kvI, lookS] at ez
        split at ez
        · rename_i e; subst e; cases ez; exact ⟨_, rfl, rfl⟩
        · split at ez
          · rename_i e; subst e; cases ez; exact ⟨_, rfl, rfl⟩
          · split at ez
            · rename_i e; subst e; cases ez; exact ⟨_, rfl, rfl⟩
            · cases ez
      obtain ⟨i, rfl, ev'⟩ := key
      exact ⟨p, .int i, rfl, by rw [← ev']; exact DGet.k (k := .inr ⟨t.toArray⟩) hd, q2 H1 F1 .refl w _ (.int i)⟩
    · cases h2
  · cases h
theorem s_dgets {kvs : List (List Nat × List Nat)} {a : E} {s : Syn} (G : Good c ck cf k X) (iha : ∀ s, chk ck a X.env.scope s = true → Snd c cf X W X.env.scope a s) (h : chk ck (.dgets kvs a) X.env.scope s = true) : Snd c cf X W X.env.scope (.dgets kvs a) s := by
  simp only [chk] at h
  split at h
  · simp only [Bool.and_eq_true] at h
    obtain ⟨⟨⟨h1, h2⟩, h3⟩, h4⟩ := h
    have e1 := of_decide_eq_true h1
    subst e1
    unfold isDS at h2
    split at h2
    · simp only [Bool.and_eq_true, decide_eq_true_eq] at h2
      obtain ⟨⟨⟨⟨⟨k1, k2⟩, k3⟩, k4⟩, k5⟩, k6⟩ := h2
      have k4 := str_of k4
      have k5 := str_of k5
      have k6 := str_of k6
      have k1 := str_of k1
      have k2 := str_of k2
      have k3 := str_of k3
      subst k1 k2 k3 k4 k5 k6
      refine snd_ex (PE.imp (pe_dget (by have := G.units; omega) (pe_disp (pps_cons pe_str pe_str (pps_cons pe_str pe_str (pps_cons pe_str pe_str pps_nil))) rfl rfl (by simp) (by show 3 ≤ 15; decide)) (iha _ h4).1 (no_sl h3)) fun σ H Q ⟨env, d, F, es, q⟩ => ?_) fun _ => rfl
      simp only [ev] at q
      intro p hp
      refine ⟨upd_same, [(sK 43, .str ⟨#[45]⟩), (sK 45, .str ⟨#[43]⟩), (sK 48, .str ⟨#[48]⟩)], rfl, by show 3 ≤ 15; decide, ?_⟩
      have hm : mergeK [] [(sK 43, V.str ⟨#[45]⟩), (sK 45, V.str ⟨#[43]⟩), (sK 48, V.str ⟨#[48]⟩)] = [(sK 43, V.str ⟨#[45]⟩), (sK 45, V.str ⟨#[43]⟩), (sK 48, V.str ⟨#[48]⟩)] := by rfl
      rw [hm]
      obtain ⟨s1, w1⟩ := look3 (kk := [(sK 43, .str ⟨#[45]⟩), (sK 45, .str ⟨#[43]⟩), (sK 48, .str ⟨#[48]⟩)]) es.wf hp
      refine ⟨env, d, F, es.step s1 w1, (q.bind.step s1).imp fun x d1 F1 H1 st w q1 v dq => ?_⟩
      cases x <;> try (exact q1.elim)
      rename_i t
      obtain ⟨z, ez, q2⟩ := q1.of
      have hd : H1 p = some (.dK [(sK 43, .str ⟨#[45]⟩), (sK 45, .str ⟨#[43]⟩), (sK 48, .str ⟨#[48]⟩)]) := st.keep p _ upd_same (es.wf.fresh_ne hp) (by intro ps z; cases z)
      cases dq
      have key : ∃ i : List Nat, (∀ q ∈ i, q < 128) ∧ z = .str i ∧ valV [(sK 43, V.str ⟨#[45]⟩), (sK 45, V.str ⟨#[43]⟩), (sK 48, V.str ⟨#[48]⟩)] (.inr ⟨t.toArray⟩) = some (.str ⟨i.toArray⟩) := by
        simp only [kvS, lookSS] at ez
        split at ez
        · rename_i e; subst e; cases ez; exact ⟨_, by decide, rfl, rfl⟩
        · split at ez
          · rename_i e; subst e; cases ez; exact ⟨_, by decide, rfl, rfl⟩
          · split at ez
            · rename_i e; subst e; cases ez; exact ⟨_, by decide, rfl, rfl⟩
            · cases ez
      obtain ⟨i, hi, rfl, ev'⟩ := key
      exact ⟨p, .str ⟨i.toArray⟩, rfl, by rw [← ev']; exact DGet.k (k := .inr ⟨t.toArray⟩) hd, q2 H1 F1 .refl w _ (.str i hi)⟩
    · cases h2
  · cases h
theorem s_dix {i j : Nat} {s : Syn} (G : Good c ck cf k X) (h : chk ck (.dix i j) X.env.scope s = true) : Snd c cf X W X.env.scope (.dix i j) s := by
  simp only [chk] at h
  split at h
  · simp only [Bool.and_eq_true] at h
    obtain ⟨⟨⟨⟨h1, h2⟩, h3⟩, h4⟩, h5⟩ := h
    have hn := of_decide_eq_true h1
    have hz := of_decide_eq_true h4
    have hj := of_decide_eq_true h5
    subst hz
    refine snd_ex (PE.imp (pe_ix ix_seq (pe_var (i := i) (by rw [G.N]; exact hn) (vis_of h2) (nm_of h3).1 (nm_of h3).2) pe_int (fun _ _ => rfl)) fun σ H Q ⟨env, d, F, es, q⟩ => ?_) fun _ => rfl
    simp only [ev] at q
    split at q
    · rename_i he
      unfold Env.get at he
      split at he <;> cases he
      rename_i he
      obtain ⟨v, e1, dq⟩ := es.sh i _ he
      cases dq
      refine ⟨_, e1, .inl ⟨c.dc, [.int d.1, .int d.2], _, ?_, rfl, rfl, SqL.of es.wf.die, ?_, ?_⟩⟩
      · exact .int (if j = 0 then d.1 else d.2)
      · rcases (show j = 0 ∨ j = 1 by omega) with z | z <;> subst z <;> rfl
      · rcases (show j = 0 ∨ j = 1 by omega) with z | z <;> subst z <;> exact q.ok es.wf _ (.int _)
    · exact q.elim
  · cases h
end
end SG
namespace SG
open PySem PySem.Spec PyProof.Rows L2
section
variable {c : Cn} {ck : Ck} {cf : CF} {k : Nat} {X : Cx} {W : WX}
theorem yld_dq {J : It} {F1 F' : Addr → Prop} {H1 Hc Hy : Hp} {l : List D} {d' : Dice} {i : Nat} {x : V} {Y : Nat → Hp → V → Hp → Prop}
    (hY : ∀ (i : Nat) H2 F2 x H3 y, Le F1 H1 F2 H2 → l[i]? = some y → Y i H2 x H3 → (H3 = H2 ∧ Dq c.dc F2 H2 x y) ∨ ∃ T xs ys, x = .ref T ∧ H2 T = none ∧ H3 = upd H2 T (.tup xs) ∧ y = .tup ys ∧ DqA c.dc F2 H2 xs ys)
    (le : Le F1 H1 F' Hc) (w : Wf c F' Hc d') (hli : i < l.length) (hy : Y i Hc x Hy) : Step c.dc F' Hc F' Hy ∧ Wf c F' Hy d' ∧ Dq c.dc F' Hy x l[i] := by
  rcases hY i Hc F' x Hy l[i] le (by simp [hli]) hy with ⟨e, dq⟩ | ⟨T, xs, ys, e1, e2, e3, e4, dq⟩
  · subst e; exact ⟨.refl, w, dq⟩
  · subst e1 e3
    rw [e4]
    exact ⟨.new' e2, w.new' e2, .newT w e2 dq⟩
theorem rb {α β : Type} {a : α} {d : Dice} {f : α → Dice → Res β} : (Res.ok a d).bind f = f a d := rfl
structure Acc (c : Cn) (F1 : Addr → Prop) (H1 : Hp) (D : Addr) (F' : Addr → Prop) (H' : Hp) (d' : Dice) (acc : List V) (accs : List SG.D) : Prop where
  st : Step c.dc F1 H1 F' H'
  wf : Wf c F' H' d'
  hd : H' D = some (.lst acc)
  nf : ¬ F' D
  rel : DqA c.dc F' H' acc accs
theorem Acc.step {F1 F' F3 : Addr → Prop} {H1 H' H3 : Hp} {D : Addr} {d' d3 : Dice} {acc : List V} {accs : List SG.D} (a : Acc c F1 H1 D F' H' d' acc accs) (s : Step c.dc F' H' F3 H3) (w : Wf c F3 H3 d3) (nD : D ≠ c.dc) : Acc c F1 H1 D F3 H3 d3 acc accs :=
  ⟨a.st.trans s, w, s.keep D _ a.hd nD (by intro ps z; cases z), fun z => (s.new D z).elim a.nf fun z => z.elim (fun z => z.not a.hd) nD, a.rel.mono (s.le a.wf)⟩
theorem Acc.push {F1 F' : Addr → Prop} {H1 H' : Hp} {D : Addr} {d' : Dice} {acc : List V} {accs : List SG.D} {v : V} {z : SG.D} (a : Acc c F1 H1 D F' H' d' acc accs) (dq : Dq c.dc F' H' v z) (hD : H1 D = none) (nD : D ≠ c.dc) : Acc c F1 H1 D F' (upd H' D (.lst (acc ++ [v]))) d' (acc ++ [v]) (accs ++ [z]) := by
  refine ⟨⟨a.st.sub, a.st.new, fun b o e n t => ?_⟩, wf_upd a.wf a.hd nD, upd_same, a.nf, (a.rel.snoc dq).mono (le_upd a.hd a.nf)⟩
  · rw [upd_ne (ne_of_none e hD)]; exact a.st.keep b o e n t
theorem asg_ow' {e : E} : ∀ {x : SG.D} {env env' : Env} {i : Nat} {xs : List SG.D}, asg e x env = some env' → env'[i]? = some (.ow xs) → i ∉ tgSl e ∧ env[i]? = some (.ow xs) := by
  have put : ∀ {env env' : Env} {j i : Nat} {x : SG.D} {xs : List SG.D}, env.put j (.sh x) = some env' → env'[i]? = some (.ow xs) → i ≠ j ∧ env[i]? = some (.ow xs) := by
    intro env env' j i x xs h e
    unfold Env.put at h
    split at h <;> cases h
    rename_i hj
    by_cases z : i = j
    · subst z; rw [List.getElem?_set_self hj] at e; cases e
    · rw [List.getElem?_set_ne (Ne.symm z)] at e; exact ⟨z, e⟩
  induction e with
  | var j => intro x env env' i xs h e; simp only [asg] at h; simpa [tgSl] using put h e
  | nil =>
    intro x env env' i xs h e
    cases x <;> try (simp [asg] at h; done)
    rename_i l
    cases l with
    | nil => simp [asg] at h; subst h; exact ⟨by simp [tgSl], e⟩
    | cons a l => simp [asg] at h
  | tup a iha =>
    intro x env env' i xs h e
    cases x <;> simp only [asg] at h <;> try cases h
    exact iha h e
  | cons a r iha ihr =>
    intro x env env' i xs h e
    cases x <;> try (simp [asg] at h; done)
    rename_i l
    cases l with
    | nil => simp [asg] at h
    | cons y l =>
      simp only [asg] at h
      cases ea : asg a y env with
      | none => rw [ea] at h; cases h
      | some env1 =>
        rw [ea] at h
        obtain ⟨n1, e1⟩ := ihr h e
        obtain ⟨n2, e2⟩ := iha ea e1
        exact ⟨by simp [tgSl, n1, n2], e2⟩
  | _ => intro x env env' i xs h e; simp [asg] at h
theorem wipe_ow {env : Env} {i : Nat} {xs : List SG.D} : ∀ {vs : List Nat}, (env.wipe vs)[i]? = some (.ow xs) → i ∉ vs ∧ env[i]? = some (.ow xs)
  | [], h => ⟨by simp, h⟩
  | v :: vs, h => by
    have h' : ((env.wipe vs).set v .no)[i]? = some (.ow xs) := h
    by_cases z : i = v
    · subst z
      rw [List.getElem?_set] at h'
      simp at h'
    · rw [List.getElem?_set_ne (Ne.symm z)] at h'
      obtain ⟨h1, h2⟩ := wipe_ow h'
      exact ⟨by simp [z, h1], h2⟩
theorem es_acc {env env' : Env} {d1 d' d2 : Dice} {F1 F' F2 : Addr → Prop} {H1 Hy H2 : Hp} {σ σ' : L2.St} {tg : E} {y : SG.D} {own : List Nat} {D : Addr} {acc : List V} {accs : List SG.D} (es : ES c env d1 F1 σ H1) (ea : asg tg y (env.wipe own) = some env') (so : SameOut (tgSl tg) (L2.wipe σ own) σ') (es' : ES c env' d' F' σ' Hy)
    (le : Le F' Hy F2 H2) (A : Acc c F1 H1 D F2 H2 d2 acc accs) : ES c env' d2 F2 σ' H2 := by
  refine ⟨A.wf, es'.len, fun i x e => ?_, fun i xs e => ?_, es'.inj⟩
  · obtain ⟨v, e1, q⟩ := es'.sh i x e
    exact ⟨v, e1, q.mono le⟩
  · obtain ⟨n1, e1⟩ := asg_ow' ea e
    obtain ⟨n2, e2⟩ := wipe_ow e1
    obtain ⟨p, vs, e3, h, r, nf, nd⟩ := es.ow i xs e2
    refine ⟨p, vs, ?_, A.st.keep p _ h nd (by intro ps z; cases z), r.mono (A.st.le es.wf), fun z => ?_, nd⟩
    · rw [so.2 i n1, L2.wipe_out n2]; exact e3
    · rcases A.st.new p z with z | z | z
      · exact nf z
      · exact z.not h
      · exact nd z
theorem lc2_reading {J : It} {F1 : Addr → Prop} {H1 : Hp} {l : List D} {σ : L2.St} {env : Env} {d1 : Dice} {tg tg2 it2 elt : E} {own own2 : List Nat} {Q : VK} {D : Addr}
    (es : ES c env d1 F1 σ H1) (itok : ItOk c J F1 H1 l) (hD : H1 D = none) (hl : l.length ≤ 1000) (hs : ∀ j ∈ tgSl tg, j ∈ own) (hs2 : ∀ j ∈ tgSl tg2, j ∈ own2)
    (q : RG c W σ F1 H1 ((lcLoop2 (fun y => asg tg y (env.wipe own)) (fun env d => (ev cf it2 env d).bind fun x2 d => match items x2 with
        | none => .bad
        | some l2 => if l2.length ≤ 1000 then lcLoop (fun y => asg tg2 y (env.wipe own2)) (fun env d => (ev cf elt env d).bind fun y d => .ok (some y) d) l2 d else .bad) l d1).bind fun ys d => .ok (.lst ys) d) fun x _ F' H' => ∀ v, Dq c.dc F' H' v x → Q v H') :
    ∃ W : Nat → Nat → Hp → Prop, (∃ m, W 0 m (upd H1 D (.lst []))) ∧ ∀ i m H, W i m H →
      (J.stop i H ∧ Q (.ref D) H) ∨ (J.go i H ∧ ∃ Nx : Hp → Prop, (∀ H', Nx H' → ∃ m', m' < m ∧ W (i + 1) m' H') ∧ ∀ x H', J.yld i H x H' → gT c tg x (L2.wipe σ own) H' fun σ2 H2 => L2.wipe σ2 own = L2.wipe σ own ∧ tYes σ2 H2 fun b H3 =>
        if b = true then tI c cf W0 it2 σ2 H3 fun J1 H4 => ∃ W1 : Nat → Nat → Hp → Prop, (∃ m, W1 0 m H4) ∧ ∀ j k H, W1 j k H →
          (J1.stop j H ∧ Nx H) ∨ (J1.go j H ∧ ∃ Nx1 : Hp → Prop, (∀ H', Nx1 H' → ∃ k', k' < k ∧ W1 (j + 1) k' H') ∧ ∀ x H', J1.yld j H x H' → gT c tg2 x (L2.wipe σ2 own2) H' fun σ3 H5 => L2.wipe σ3 own2 = L2.wipe σ2 own2 ∧ tYes σ3 H5 fun b H6 =>
            if b = true then tE c cf W0 elt σ3 H6 fun y H7 => ∃ acc, H7 D = some (.lst acc) ∧ acc.length < sizeLine ∧ Nx1 (upd H7 D (.lst (acc ++ [y]))) else Nx1 H6)
        else Nx H3) := by
  obtain ⟨G, Y, wk, hG, hY⟩ := itok
  have w1 := es.wf
  have nD : D ≠ c.dc := w1.fresh_ne hD
  generalize hf : (fun (env : Env) (d : Dice) => (ev cf it2 env d).bind fun x2 d => match items x2 with
        | none => (.bad : Res (List SG.D))
        | some l2 => if l2.length ≤ 1000 then lcLoop (fun y => asg tg2 y (env.wipe own2)) (fun env d => (ev cf elt env d).bind fun y d => .ok (some y) d) l2 d else .bad) = f at q
  refine ⟨fun i m H => m = l.length - i ∧ i ≤ l.length ∧ ∃ F' d' acc accs, Acc c F1 H1 D F' H d' acc accs ∧ accs.length ≤ i * 1000 ∧ RG c W σ F1 H1 ((lcLoop2 (fun y => asg tg y (env.wipe own)) f (l.drop i) d').bind fun ys d => .ok (.lst (accs ++ ys)) d) fun x _ F' H' => ∀ v, Dq c.dc F' H' v x → Q v H',
    ⟨l.length, by simp, Nat.zero_le _, F1, d1, [], [], ⟨.new' hD, w1.new' hD, upd_same, w1.fresh_F hD, .nil⟩, by simp, by simpa using q⟩, ?_⟩
  rintro i m Hc ⟨rfl, hi, F', d', acc, accs, A, hle, q⟩
  have gc := hG Hc F' (A.st.le w1)
  by_cases hlt : i < l.length
  · refine .inr ⟨wk.goes i Hc hlt gc, fun H' => ∃ F' d' acc accs, Acc c F1 H1 D F' H' d' acc accs ∧ accs.length ≤ (i + 1) * 1000 ∧ RG c W σ F1 H1 ((lcLoop2 (fun y => asg tg y (env.wipe own)) f (l.drop (i + 1)) d').bind fun ys d => .ok (.lst (accs ++ ys)) d) fun x _ F' H' => ∀ v, Dq c.dc F' H' v x → Q v H', fun H' z => ⟨l.length - (i + 1), by omega, rfl, hlt, z⟩, fun x Hy hy => ?_⟩
    obtain ⟨s2, w2, dq2⟩ := yld_dq (c := c) (J := J) hY (A.st.le w1) A.wf hlt (wk.yields i Hc x Hy hlt gc hy)
    have es2 : ES c (env.wipe own) d' F' (L2.wipe σ own) Hy := (es.step (A.st.trans s2) w2).wipe own
    have A2 := A.step s2 w2 nD
    rw [List.drop_eq_getElem_cons hlt] at q
    simp only [lcLoop2] at q
    cases ea : asg tg l[i] (env.wipe own) with
    | none => rw [ea] at q; exact q.elim
    | some env' =>
      rw [ea] at q
      simp only at q
      refine ⟨_, d', F', l[i], es2, dq2, env', ea, fun σ' es' so => ⟨?_, ?_⟩⟩
      · have : L2.wipe σ' own = L2.wipe (L2.wipe σ own) own := wipe_same (by rw [so.1]) fun j hj => so.2 j fun z => hj (hs j z)
        rw [this, wipe_wipe]
      · unfold tYes
        dsimp only
        rw [if_pos rfl]
        refine ⟨env', d', F', es', ?_⟩
        rw [← hf] at q
        simp only at q
        cases e2 : ev cf it2 env' d' with
        | bad => rw [e2] at q; exact q.elim
        | err n dd => rw [e2] at q; exact q.elim
        | ok x2 d3 =>
          rw [e2, rb] at q
          intro H4 F4 s4 w4
          have A4 := A2.step s4 w4 nD
          have es4 := es'.step s4 w4
          cases ei : items x2 with
          | none => rw [ei] at q; exact q.elim
          | some l2 =>
            rw [ei] at q
            simp only at q
            by_cases hl2 : l2.length ≤ 1000
            · rw [if_pos hl2] at q
              refine ⟨l2, rfl, fun J1 ⟨G1, Y1, wk1, hG1, hY1⟩ => ?_⟩
              have le4 : Le F4 H4 F4 H4 := ⟨fun _ h => h, fun _ _ _ h => h, fun _ _ h => h⟩
              refine ⟨fun j m H => m = l2.length - j ∧ j ≤ l2.length ∧ ∃ F5 d5 acc5 accs5, Le F4 H4 F5 H ∧ Step c.dc F4 H4 F4 H4 ∧ Acc c F1 H1 D F5 H d5 acc5 accs5 ∧ ES c env' d5 F5 σ' H ∧ accs5.length ≤ i * 1000 + j ∧ RG c W σ F1 H1 (((lcLoop (fun y => asg tg2 y (env'.wipe own2)) (fun env d => (ev cf elt env d).bind fun y d => .ok (some y) d) (l2.drop j) d5).noerr).bind fun o d => ((lcLoop2 (fun y => asg tg y (env.wipe own)) f (l.drop (i + 1)) d).bind fun ys d => .ok (.lst (accs5 ++ o ++ ys)) d)) fun x _ F' H' => ∀ v, Dq c.dc F' H' v x → Q v H',
                ⟨l2.length, by simp, Nat.zero_le _, F4, d3, acc, accs, le4, .refl, A4, es4, by omega, ?_⟩, ?_⟩
              · simp only [List.drop_zero]
                cases el : lcLoop (fun y => asg tg2 y (env'.wipe own2)) (fun env d => (ev cf elt env d).bind fun y d => .ok (some y) d) l2 d3 with
                | ok ys d6 => rw [el, hf] at q; simp only [Res.noerr, rb] at q ⊢; rw [bind_bind] at q; simpa [rb, List.append_assoc] using q
                | err n d6 => rw [el] at q; exact q.elim
                | bad => rw [el] at q; exact q.elim
              · rintro j m H ⟨rfl, hj, F5, d5, acc5, accs5, le5, _, A5, es5, hle5, q5⟩
                have g1 := hG1 H F5 le5
                by_cases hlt2 : j < l2.length
                · refine .inr ⟨wk1.goes j H hlt2 g1, fun H' => ∃ F5 d5 acc5 accs5, Le F4 H4 F5 H' ∧ Step c.dc F4 H4 F4 H4 ∧ Acc c F1 H1 D F5 H' d5 acc5 accs5 ∧ ES c env' d5 F5 σ' H' ∧ accs5.length ≤ i * 1000 + (j + 1) ∧ RG c W σ F1 H1 (((lcLoop (fun y => asg tg2 y (env'.wipe own2)) (fun env d => (ev cf elt env d).bind fun y d => .ok (some y) d) (l2.drop (j + 1)) d5).noerr).bind fun o d => ((lcLoop2 (fun y => asg tg y (env.wipe own)) f (l.drop (i + 1)) d).bind fun ys d => .ok (.lst (accs5 ++ o ++ ys)) d)) fun x _ F' H' => ∀ v, Dq c.dc F' H' v x → Q v H', fun H' z => ⟨l2.length - (j + 1), by omega, rfl, hlt2, z⟩, fun x Hy hy => ?_⟩
                  obtain ⟨s6, w6, dq6⟩ := yld_dq (c := c) (J := J1) hY1 le5 A5.wf hlt2 (wk1.yields j H x Hy hlt2 g1 hy)
                  have es6 : ES c (env'.wipe own2) d5 F5 (L2.wipe σ' own2) Hy := (es5.step s6 w6).wipe own2
                  have A6 := A5.step s6 w6 nD
                  rw [List.drop_eq_getElem_cons hlt2] at q5
                  simp only [lcLoop] at q5
                  cases ea2 : asg tg2 l2[j] (env'.wipe own2) with
                  | none => rw [ea2] at q5; exact q5.elim
                  | some env'' =>
                    rw [ea2] at q5
                    simp only at q5
                    refine ⟨_, d5, F5, l2[j], es6, dq6, env'', ea2, fun σ3 es7 so3 => ⟨?_, ?_⟩⟩
                    · have : L2.wipe σ3 own2 = L2.wipe (L2.wipe σ' own2) own2 := wipe_same (by rw [so3.1]) fun j hj => so3.2 j fun z => hj (hs2 j z)
                      rw [this, wipe_wipe]
                    · rw [if_pos rfl]
                      refine ⟨env'', d5, F5, es7, ?_⟩
                      cases e7 : ev cf elt env'' d5 with
                      | bad => rw [e7] at q5; exact q5.elim
                      | err n dd => rw [e7] at q5; exact q5.elim
                      | ok z d7 =>
                        rw [e7, rb] at q5
                        intro H7 F7 s7 w7 v dq7
                        have A7 := A6.step s7 w7 nD
                        have A8 := A7.push dq7 hD nD
                        have le7 : Le F4 H4 F7 (upd H7 D (.lst (acc5 ++ [v]))) := by
                          have a1 := s6.le A5.wf
                          have a2 := s7.le w6
                          have a3 := le_upd (ys := acc5 ++ [v]) A7.hd A7.nf
                          exact ⟨fun b h => a3.sub b (a2.sub b (a1.sub b (le5.sub b h))), fun b xs f e => a3.lst b xs (a2.sub b (a1.sub b (le5.sub b f))) (a2.lst b xs (a1.sub b (le5.sub b f)) (a1.lst b xs (le5.sub b f) (le5.lst b xs f e))), fun b xs e => a3.tup b xs (a2.tup b xs (a1.tup b xs (le5.tup b xs e)))⟩
                        refine ⟨acc5, A7.hd, ?_, F7, d7, acc5 ++ [v], accs5 ++ [z], le7, .refl, A8, ?_, by simp; omega, ?_⟩
                        · have e1 := A7.rel.length
                          have e2 := lim_line
                          have e3 : lim = 1000000 := rfl
                          have : i * 1000 + 1000 ≤ 1000 * 1000 := by
                            have : i + 1 ≤ 1000 := by omega
                            omega
                          omega
                        · have b1 := s4.le es'.wf
                          exact es_acc es ea so es' ⟨fun b h => le7.sub b (b1.sub b h), fun b xs f e => le7.lst b xs (b1.sub b f) (b1.lst b xs f e), fun b xs e => le7.tup b xs (b1.tup b xs e)⟩ A8
                        · rw [show (Res.ok (some z) d7).noerr = Res.ok (some z) d7 from rfl, rb] at q5
                          cases el : lcLoop (fun y => asg tg2 y (env'.wipe own2)) (fun env d => (ev cf elt env d).bind fun y d => .ok (some y) d) (l2.drop (j + 1)) d7 with
                          | ok ys d8 => rw [el] at q5; simpa [Res.noerr, rb, List.append_assoc] using q5
                          | err n d8 => rw [el] at q5; exact q5.elim
                          | bad => rw [el] at q5; exact q5.elim
                · have e : j = l2.length := by omega
                  subst e
                  refine .inl ⟨wk1.stops H g1, F5, d5, acc5, accs5, A5, by omega, ?_⟩
                  rw [List.drop_length] at q5
                  simpa [lcLoop, Res.noerr, rb] using q5
            · rw [if_neg hl2] at q; exact q.elim
  · have e : i = l.length := by omega
    subst e
    refine .inl ⟨wk.stops Hc gc, ?_⟩
    rw [List.drop_length] at q
    simp only [lcLoop2, Res.bind, List.append_nil] at q
    have s' : Step c.dc F1 H1 (addF F' D) Hc := ⟨fun b h => .inl (A.st.sub b h), fun b h => h.elim (A.st.new b) fun z => .inr (.inl (.of (z ▸ hD))), A.st.keep⟩
    have w' : Wf c (addF F' D) Hc d' := ⟨fun b h => h.elim (A.wf.dom b) fun z => ⟨acc, by rw [z]; exact A.hd⟩, fun h => h.elim A.wf.nd fun z => nD z.symm, A.wf.die, A.wf.tabs⟩
    exact q Hc _ s' w' _ (.lst (.inr rfl) A.hd (A.rel.mono ⟨fun _ h => .inl h, fun _ _ _ h => h, fun _ _ h => h⟩))
theorem s_lc2 {elt tg1 it1 tg2 it2 : E} {own own2 : List Nat} {s : Syn} (G : Good c ck cf k X) (ihi : ∀ s, chk ck it1 X.env.scope s = true → Snd c cf X W X.env.scope it1 s) (ihi2 : ∀ X', Good c ck cf k X' → ∀ s, chk ck it2 X'.env.scope s = true → Snd c cf X' W0 X'.env.scope it2 s) (ihe : ∀ X', Good c ck cf k X' → ∀ s, chk ck elt X'.env.scope s = true → Snd c cf X' W0 X'.env.scope elt s)
    (h : chk ck (.lc2 elt tg1 it1 tg2 it2 own own2) X.env.scope s = true) : Snd c cf X W X.env.scope (.lc2 elt tg1 it1 tg2 it2 own own2) s := by
  simp only [chk] at h
  split at h
  · simp only [Bool.and_eq_true] at h
    obtain ⟨⟨⟨⟨⟨⟨⟨⟨⟨⟨⟨⟨⟨⟨h1, h2⟩, h3⟩, h4⟩, h5⟩, h3'⟩, h4'⟩, h5'⟩, h9⟩, h6⟩, h7⟩, h6'⟩, h7'⟩, h10⟩, h8⟩ := h
    rename_i el tg1' it1' tg2' it2' scope p
    have e1 := of_decide_eq_true h1
    have hs : ∀ j ∈ tgSl tg1, j ∈ own := fun j hj => by simpa using List.all_eq_true.mp h5 j hj
    have hs2 : ∀ j ∈ tgSl tg2, j ∈ own2 := fun j hj => by simpa using List.all_eq_true.mp h5' j hj
    have hv : ∀ j ∈ own2, j ∈ (ownP ck.N own).map (·.2) := fun j hj => by rw [e1]; simpa using List.all_eq_true.mp h9 j hj
    refine snd_ex (PE.imp (pe_lc2 (own := ownP ck.N own) (vs1 := own2) (te := tE c cf W0 elt) (tt := tYes) (tt1 := tYes) (g := gT c tg1) (g1 := gT c tg2) (wi := tI c cf W it1) (wi1 := tI c cf W0 it2) G.calm (by rw [G.N]; exact G.nd) (pi_of ihi h6 h3) (by rw [G.N]; exact blkOk_by h2) hv
      (fun s H C cl fp => (sound_tg G.blk (W := W0)).1 _ h7 tgOk_blk) (fun s H C cl fp => pts_nil)
      (fun s H C cl fp => pi_of (ihi2 (X.blk s H scope (compEnvC scope cl C X.env) fp) G.blk) h6' h3')
      (fun s H C cl fp => (sound_tg G.blk (W := W0)).1 _ h7' tgOk_blk) (fun s H C cl fp => pts_nil)
      (fun s H C cl fp => (ihe (X.blk s H scope (compEnvC scope cl C X.env) fp) G.blk (.ex el) h8).1) (fold_of h4) (fun env => fold_of h4')) fun σ H Q ⟨env, d, F, es, q⟩ => ?_) fun _ => rfl
    simp only [ev] at q
    refine ⟨env, d, F, es, q.bind.imp fun x d1 F1 H1 st w q1 => ?_⟩
    split at q1
    · exact q1.elim
    · rename_i l hl
      split at q1
      · rename_i hlim
        refine ⟨l, hl, fun J itok D hD => ?_⟩
        rw [e1]
        exact lc2_reading (es.step st w) itok hD hlim hs hs2 q1
      · exact q1.elim
  · cases h
end
end SG
namespace SG
open PySem PySem.Spec PyProof.Rows L2
section
variable {c : Cn} {ck : Ck} {cf : CF} {k : Nat} {X : Cx} {W : WX}
theorem errS_ascii (n : Nat) : ∀ c ∈ errS n, c < 128 := by
  unfold errS
  split <;> decide
theorem takes0 {X : Cx} : L2N.Takes X W0 := fun _ _ x => by
  obtain ⟨_, _, _, _, _, _, _, _, _, _, _, _, _, _, _, _, z⟩ := x
  exact z.elim
theorem s_told {e : E} {s : Syn} (G : Good c ck cf k X) (ihe : ∀ (Y : Cx) (W' : WX), Good c ck.off cf k Y → L2N.Takes Y W' → ∀ s, chk ck.off e Y.env.scope s = true → Snd c cf Y W' Y.env.scope e s) (h : chk ck (.told e) X.env.scope s = true) : Snd c cf X W X.env.scope (.told e) s := by
  simp only [chk] at h
  split at h
  · simp only [Bool.and_eq_true] at h
    obtain ⟨⟨⟨⟨⟨h1, h2⟩, h3⟩, h4⟩, h5⟩, h6⟩ := h
    have hx := of_decide_eq_true h2
    subst hx
    obtain ⟨cd, rm, tr⟩ := G.lam h1
    refine snd_ex (PE.imp (tr X rfl rfl rfl rfl rfl G.calm rm cd _ _ _ _ _ _ (fun W' => tE c cf W' e) h3 h4 h5 fun Y W' al hc hr hs tk => ?_) fun σ H Q ⟨env, d, F, es, q⟩ => ?_) fun _ => rfl
    · have G' : Good c ck.off cf k Y := by
        refine ⟨by rw [al.N]; exact G.N, G.nd, hc, hr, fun x hx => by rw [al.mg]; exact G.blt x hx, fun f nm hf => ?_, fun z => (by cases z)⟩
        obtain ⟨n1, fa, fd, ps, m1, m2, m3, m4⟩ := G.fns f nm hf
        refine ⟨n1, fa, fd, ps, by rw [al.mg]; exact m1, by rw [al.K]; exact m2, by rw [al.K]; exact m3, ?_⟩
        rw [al.prog, al.w, al.K, al.mg, al.base]
        exact m4
      exact (ihe Y W' G' tk (.ex _) (by rw [hs]; exact h6)).1
    · refine ⟨es.wf.tabs, fun H1 ex tb => ?_⟩
      have st : Step c.dc F H F H1 := ⟨fun _ h => h, fun _ h => .inl h, fun b o e _ t => ex b o e t⟩
      have w1 : Wf c F H1 d := ⟨fun b f => by obtain ⟨xs, e⟩ := es.wf.dom b f; exact ⟨xs, ex _ _ e (by intro ps z; cases z)⟩, es.wf.nd, ex _ _ es.wf.die (by intro ps z; cases z), tb⟩
      refine ⟨env, d, F, es.step st w1, ?_⟩
      simp only [ev] at q
      cases er : ev cf e env d with
      | ok x d1 =>
        rw [er] at q
        exact fun H' F' s' w' => q H' F' (st.trans s') w'
      | bad => rw [er] at q; exact q
      | err n d1 =>
        rw [er] at q
        dsimp only at q
        split at q
        · rename_i hn
          refine fun H' F' s' w' => ⟨n, hn, rfl, rfl, fun p H'' sm e1 => ?_⟩
          have st2 : Step c.dc F' H' F' H'' := ⟨fun _ h => h, fun _ h => .inl h, fun b o e _ t => sm b o e⟩
          have w2 : Wf c F' H'' d1 := ⟨fun b f => by obtain ⟨xs, e⟩ := w'.dom b f; exact ⟨xs, sm _ _ e⟩, w'.nd, sm _ _ w'.die, w'.tabs.ext sm⟩
          exact q H'' F' ((st.trans s').trans st2) w2 _ (.tup e1 (.cons (.str _ (by decide)) (.cons (.str _ (errS_ascii n)) .nil)))
        · exact q.elim
  · cases h
theorem sound (e : E) : ∀ {ck : Ck} {X : Cx} {W : WX}, Good c ck cf k X → L2N.Takes X W → ∀ s, chk ck e X.env.scope s = true → Snd c cf X W X.env.scope e s := by
  induction e with
  | nil => intro ck X W G tk s h; exact s_nil h
  | cons a r iha ihr => intro ck X W G tk s h; exact s_cons (iha G tk) (ihr G tk) h
  | var i => intro ck X W G tk s h; exact s_var G h
  | non =>
    intro ck X W G tk s h
    simp only [chk] at h
    split at h
    · exact s_const pe_non (fun _ => rfl) (fun _ _ _ => .non) (fun _ _ => by simp only [ev])
    · cases h
  | bl b =>
    intro ck X W G tk s h
    simp only [chk] at h
    split at h
    · rename_i b' _ _
      have e : b = b' := by simpa using h
      subst e
      exact s_const pe_bl (fun _ => rfl) (fun _ _ _ => .bl _) (fun _ _ => by simp only [ev])
    · cases h
  | int i =>
    intro ck X W G tk s h
    simp only [chk] at h
    split at h
    · have e := of_decide_eq_true h
      subst e
      exact s_const pe_int (fun _ => rfl) (fun _ _ _ => .int _) (fun _ _ => by simp only [ev])
    · cases h
  | str t =>
    intro ck X W G tk s h
    simp only [chk] at h
    split at h
    · rw [Bool.and_eq_true] at h
      have e := str_of h.1
      subst e
      exact s_const pe_str (fun _ => rfl) (fun _ _ _ => .str _ (ascii_of h.2)) (fun _ _ => by simp only [ev])
    · cases h
  | tup a iha => intro ck X W G tk s h; exact s_tup G (iha G tk) (fun env d x d' e ⟨l, hl⟩ => ⟨(ev_list hl e).1, fun l' hl' => (ev_list hl' e).2⟩) h
  | lst a iha => intro ck X W G tk s h; exact s_lst (iha G tk) h
  | bin o a b iha ihb => intro ck X W G tk s h; exact s_bin (iha G tk) (ihb G tk) h
  | neg a iha => intro ck X W G tk s h; exact s_neg (iha G tk) h
  | cmp o a b iha ihb => intro ck X W G tk s h; exact s_cmp G (iha G tk) (ihb G tk) h
  | chain o p a b e iha ihb ihe => intro ck X W G tk s h; exact s_chain G (iha G tk) (ihb G tk) (ihe G tk) h
  | isn n a iha => intro ck X W G tk s h; exact s_isn (iha G tk) h
  | and a b iha ihb => intro ck X W G tk s h; exact s_and (iha G tk) (ihb G tk) h
  | or a b iha ihb => intro ck X W G tk s h; exact s_or (iha G tk) (ihb G tk) h
  | and3 a b e iha ihb ihe => intro ck X W G tk s h; exact s_and3 (iha G tk) (ihb G tk) (ihe G tk) h
  | or3 a b e iha ihb ihe => intro ck X W G tk s h; exact s_or3 (iha G tk) (ihb G tk) (ihe G tk) h
  | not a iha => intro ck X W G tk s h; exact s_not (iha G tk) h
  | ite t a b iht iha ihb => intro ck X W G tk s h; exact s_ite (iht G tk) (iha G tk) (ihb G tk) h
  | call f a iha => intro ck X W G tk s h; exact s_call G tk (iha G tk) h
  | bi f a iha => intro ck X W G tk s h; exact s_bi G (iha G tk) h
  | isi t a iha => intro ck X W G tk s h; exact s_isi G (iha G tk) h
  | meth m o a iho iha => intro ck X W G tk s h; exact s_meth (iho G tk) (iha G tk) h
  | ix a b iha ihb => intro ck X W G tk s h; exact s_ix (iha G tk) (ihb G tk) h
  | sl a lo hi iha ihl ihh => intro ck X W G tk s h; exact s_sl (iha G tk) (ihl G tk) (ihh G tk) h
  | rng1 a iha => intro ck X W G tk s h; exact s_rng1 G (iha G tk) h
  | rng2 a b iha ihb => intro ck X W G tk s h; exact s_rng2 G (iha G tk) (ihb G tk) h
  | enum a iha => intro ck X W G tk s h; exact s_enum G (iha G tk) h
  | zip a b iha ihb => intro ck X W G tk s h; exact s_zip G (iha G tk) (ihb G tk) h
  | trng a iha => intro ck X W G tk s h; exact s_trng G (iha G tk) h
  | rev a iha => intro ck X W G tk s h; exact s_rev (iha G tk) h
  | lenum a iha => intro ck X W G tk s h; exact s_lenum G (iha G tk) h
  | ssort a iha => intro ck X W G tk s h; exact s_ssort G (iha G tk) h
  | lc elt tg it own ihe iht ihi => intro ck X W G tk s h; exact s_lc G (ihi G tk) (fun X' G' => ihe G' takes0) h
  | lcif elt tg it cd own ihe iht ihi ihc => intro ck X W G tk s h; exact s_lcif G (ihi G tk) (fun X' G' => ihe G' takes0) (fun X' G' => ihc G' takes0) h
  | dix i j => intro ck X W G tk s h; exact s_dix G h
  | lc2 elt tg1 it1 tg2 it2 own own2 ihe iht1 ihi1 iht2 ihi2 => intro ck X W G tk s h; exact s_lc2 G (ihi1 G tk) (fun X' G' => ihi2 G' takes0) (fun X' G' => ihe G' takes0) h
  | told a iha => intro ck X W G tk s h; exact s_told G (fun Y W' G' tk' => iha G' tk') h
  | dget kvs a iha => intro ck X W G tk s h; exact s_dget G (iha G tk) h
  | dgets kvs a iha => intro ck X W G tk s h; exact s_dgets G (iha G tk) h
  | _ => intro ck X W G tk s h; simp [chk] at h
end
end SG
namespace SG
open PySem PySem.Spec PyProof.Rows L2
inductive SSyn where
  | one (s : Stmt) | many (l : List Stmt)
def isFrz : S → Option Nat
  | .frz i => some i
  | _ => none
def noSD : Expr → Bool
  | .SetComp _ _ _ _ => false
  | .DictComp _ _ _ _ _ => false
  | _ => true
def swB (sc : Scope) (v tg : Expr) : Bool := match v with
  | .ListComp _ _ s p => match tg with
    | .Name t p' => (sc.names.lookup t == some .local) && (p'.line == p.line) && !(s.names.any fun (n, k) => n == t && (k == .local || k == .cell))
    | _ => false
  | _ => false
def swN (sc : Scope) (tg v : Expr) : Bool := match tg, v with
  | .Tuple ts _ _, .Tuple vs _ _ => !(ts.length == 2 || ts.length == 3) || ts.any fun t => match t with | .Name x _ => !(sc.names.lookup x == some .local) | _ => true
  | .List _ _, _ => false
  | _, _ => true
def isLcE : E → Bool
  | .lc _ _ _ _ => true | .lcif _ _ _ _ _ => true | .lc2 _ _ _ _ _ _ _ => true | _ => false
def vOf : E → Option Nat
  | .var i => some i
  | _ => none
def parC (sc : Scope) (x y : Str) (px py : Pos) (a b : Expr) : Bool := decide (x ≠ y) && decide (sc.names.lookup x = some .local) && decide (sc.names.lookup y = some .local) && (py.line == px.line) && notStar a && notStar b && !(foldedForSure 8 a && foldedForSure 8 b) && !(constantsAlone 8 a && constantsAlone 8 b)
def par3C (sc : Scope) (x y z : Str) (px py pz : Pos) (a b c : Expr) : Bool := decide (x ≠ y) && decide (x ≠ z) && decide (y ≠ z) && decide (sc.names.lookup x = some .local) && decide (sc.names.lookup y = some .local) && decide (sc.names.lookup z = some .local) && (py.line == px.line) && (pz.line == px.line) && notStar a && notStar b && notStar c && !(foldedForSure 8 a && foldedForSure 8 b && foldedForSure 8 c) && !(constantsAlone 8 a && constantsAlone 8 b && constantsAlone 8 c)
def parD (sc : Scope) (x y : Str) (u tg v : Expr) : Bool := swN sc tg v && noSD v && !swB sc v tg && locB sc x && locB sc y && notStar u
def chkS (ck : Ck) (sc : Scope) : S → SSyn → Bool
  | .nil, s => match s with
    | .many [] => true
    | _ => false
  | .seq a r, s => match s with
    | .many l => match isFrz a with
      | some i => chkS ck sc r (.many l)
      | none => match l with
        | st :: rest => chkS ck sc a (.one st) && chkS ck sc r (.many rest)
        | [] => false
    | _ => false
  | .nev, _ => true
  | .set tg e, s => match s with
    | .one (.Assign [tg'] v _) => notStar tg' && noSD v && swN sc tg' v && chk ck tg sc (.tg tg') && chk ck e sc (.ex v) && (!swB sc v tg' || (isLcE e && (vOf tg).isSome))
    | _ => false
  | .own i, s => match s with
    | .one (.Assign [.Name x _] (.List [] _) _) => decide (ck.N[i]? = some x) && locB sc x
    | _ => false
  | .par i j a b, s => match s with
    | .one (.Assign [.Tuple [.Name x px, .Name y py] _ _] (.Tuple [u, v] _ _) _) => decide (ck.N[i]? = some x) && decide (ck.N[j]? = some y) && parC sc x y px py u v && chk ck a sc (.ex u) && chk ck b sc (.ex v)
    | _ => false
  | .par3 i j l a b c, s => match s with
    | .one (.Assign [.Tuple [.Name x px, .Name y py, .Name z pz] _ _] (.Tuple [u, v, w] _ _) _) => decide (ck.N[i]? = some x) && decide (ck.N[j]? = some y) && decide (ck.N[l]? = some z) && par3C sc x y z px py pz u v w && chk ck a sc (.ex u) && chk ck b sc (.ex v) && chk ck c sc (.ex w)
    | _ => false
  | .parO i j a, s => match s with
    | .one (.Assign [.Tuple [.Name x px, .Name y py] k1 p1] (.Tuple [u, .List [] lp] k2 p2) _) => decide (ck.N[i]? = some x) && decide (ck.N[j]? = some y) && (parC sc x y px py u (.List [] lp) || parD sc x y u (.Tuple [.Name x px, .Name y py] k1 p1) (.Tuple [u, .List [] lp] k2 p2)) && chk ck a sc (.ex u)
    | _ => false
  | .frz _, _ => false
  | .app i e, s => match s with
    | .one (.Expr (.Call (.Attribute (.Name x _) nm ap) [v] [] cp) _) => decide (ck.N[i]? = some x) && visB sc x && okName x && decide (nm = Str.ofString "append") && (ap.endLine == cp.line) && notStar v && chk ck e sc (.ex v)
    | _ => false
  | .sti i a e, s => match s with
    | .one (.Assign [.Subscript (.Name x _) ix _] v _) => decide (ck.N[i]? = some x) && visB sc x && okName x && noSD v && notSlice ix && chk ck e sc (.ex v) && chk ck a sc (.ex ix)
    | _ => false
  | .swp _ _ _, _ => false
  | .ret e, s => match s with
    | .one (.Return (some v) _) => chk ck e sc (.ex v)
    | _ => false
  | .ifs c a b, s => match s with
    | .one (.If t x y _) => chk ck c sc (.ex t) && chkS ck sc a (.many x) && chkS ck sc b (.many y)
    | _ => false
  | .fors tg it b, s => match s with
    | .one (.For tg' it' body [] _) => tgIt it tg' && notSet it' && chk ck tg sc (.tg tg') && chk ck it sc (synIt it it') && chkS ck sc b (.many body)
    | _ => false
  | .whl n c b, s => match s with
    | .one (.While t body [] _) => chk ck c sc (.ex t) && chkS ck sc b (.many body)
    | _ => false
  | .ex e, s => match s with
    | .one (.Expr v _) => (match v with | .Call _ _ _ _ => true | _ => false) && chk ck e sc (.ex v)
    | _ => false
  | .rse j, s => match s with
    | .one (.Raise (some (.Call (.Name x _) [.Constant (.str _) _ _] [] _)) none _) => decide (ck.er j = some x) && glB sc x
    | _ => false
  | .ownR i z e, s => match s with
    | .one (.Assign [.Name x _] (.BinOp (.List [.Constant (.int z') _ _] _) .Mult v _) _) => decide (ck.N[i]? = some x) && locB sc x && decide (z' = z) && chk ck e sc (.ex v)
    | _ => false
  | .aug i e, s => match s with
    | .one (.AugAssign (.Name x _) .Add v _) => decide (ck.N[i]? = some x) && locB sc x && chk ck e sc (.ex v)
    | _ => false
  | .dst i j e, s => match s with
    | .one (.Assign [.Subscript (.Name x _) (.Constant (.int z) _ _) _] v _) => decide (ck.N[i]? = some x) && visB sc x && okName x && decide (z = (j : Int)) && decide (j < 2) && (match v with | .BinOp _ _ _ _ => true | _ => false) && chk ck e sc (.ex v)
    | _ => false
section
variable (c : Cn) (Fb : Addr → Prop) (Hb : Hp)
structure FS (env : Env) (d : Dice) (F : Addr → Prop) (σ : L2.St) (H : Hp) : Prop where
  es : ES c env d F σ H
  st : Step c.dc Fb Hb F H
  fr : ∀ (i : Nat) xs p, env[i]? = some (.ow xs) → σ[i]? = some (some (.ref p)) → Nn Hb p
def SO (W : WX) (D : Ends) (F : Addr → Prop) (H : Hp) : Out → Prop
  | .nx env' d' => ∀ σ' H' F', Le F H F' H' → FS c Fb Hb env' d' F' σ' H' → D.nx σ' H'
  | .rt v d' => ∀ w H' F', Step c.dc Fb Hb F' H' → Wf c F' H' d' → Dq c.dc F' H' w v → D.rt w H'
  | .er k d' => ∀ σ' H' F', Step c.dc Fb Hb F' H' → Wf c F' H' d' → W (.ref (c.cl k)) none σ' H'
  | .bad => False
def tS (cf : CF) (W : WX) (s : S) : TS := fun D σ H => ∃ env d F, FS c Fb Hb env d F σ H ∧ SO c Fb Hb W D F H (evS cf s env d)
end
section
variable {c : Cn} {Fb : Addr → Prop} {Hb : Hp} {W : WX} {D : Ends} {F F1 F2 F' : Addr → Prop} {H H1 H2 H' : Hp} {σ : L2.St} {env env' : Env} {d d' : Dice} {o : Out}
theorem Le.trans (a : Le F H F1 H1) (b : Le F1 H1 F2 H2) : Le F H F2 H2 := ⟨fun x h => b.sub x (a.sub x h), fun x xs f e => b.lst x xs (a.sub x f) (a.lst x xs f e), fun x xs e => b.tup x xs (a.tup x xs e)⟩
theorem SO.le (h : SO c Fb Hb W D F H o) (l : Le F H F1 H1) : SO c Fb Hb W D F1 H1 o := by
  cases o with
  | nx e d => exact fun σ' H' F' l' fs => h σ' H' F' (l.trans l') fs
  | _ => exact h
theorem FS.step (fs : FS c Fb Hb env d F σ H) (st : Step c.dc F H F' H') (w : Wf c F' H' d') : FS c Fb Hb env d' F' σ H' := ⟨fs.es.step st w, fs.st.trans st, fs.fr⟩
theorem FS.le (fs : FS c Fb Hb env d F σ H) (st : Step c.dc F H F' H') : Le F H F' H' := st.le fs.es.wf
theorem SO.out {α : Type} {r : Res α} {f : α → Dice → Out} (h : SO c Fb Hb W D F H (r.out f)) (fs : FS c Fb Hb env d F σ H) : RG c W σ F H r fun x d1 F1 H1 => SO c Fb Hb W D F1 H1 (f x d1) := by
  cases r with
  | ok x d1 => exact fun H' F' st w => SO.le h (fs.le st)
  | err k d1 => exact fun H' F' st w => h σ H' F' (fs.st.trans st) w
  | bad => exact h
theorem SO.ofE {oe : Option Env} (h : SO c Fb Hb W D F H (.ofE oe d)) : ∃ e, oe = some e ∧ SO c Fb Hb W D F H (.nx e d) := by
  cases oe with
  | none => exact h.elim
  | some e => exact ⟨e, rfl, h⟩
theorem asg_ow {e : E} : ∀ {x : SG.D} {env env' : Env} {i : Nat} {xs : List SG.D}, asg e x env = some env' → env'[i]? = some (.ow xs) → i ∉ tgSl e ∧ env[i]? = some (.ow xs) := by
  have put : ∀ {env env' : Env} {j i : Nat} {x : SG.D} {xs : List SG.D}, env.put j (.sh x) = some env' → env'[i]? = some (.ow xs) → i ≠ j ∧ env[i]? = some (.ow xs) := by
    intro env env' j i x xs h e
    unfold Env.put at h
    split at h <;> cases h
    rename_i hj
    by_cases z : i = j
    · subst z; rw [List.getElem?_set_self hj] at e; cases e
    · rw [List.getElem?_set_ne (Ne.symm z)] at e; exact ⟨z, e⟩
  induction e with
  | var j => intro x env env' i xs h e; simp only [asg] at h; simpa [tgSl] using put h e
  | nil =>
    intro x env env' i xs h e
    cases x <;> try (simp [asg] at h; done)
    rename_i l
    cases l with
    | nil => simp [asg] at h; subst h; exact ⟨by simp [tgSl], e⟩
    | cons a l => simp [asg] at h
  | tup a iha =>
    intro x env env' i xs h e
    cases x <;> simp only [asg] at h <;> try cases h
    exact iha h e
  | cons a r iha ihr =>
    intro x env env' i xs h e
    cases x <;> try (simp [asg] at h; done)
    rename_i l
    cases l with
    | nil => simp [asg] at h
    | cons y l =>
      simp only [asg] at h
      cases ea : asg a y env with
      | none => rw [ea] at h; cases h
      | some env1 =>
        rw [ea] at h
        obtain ⟨n1, e1⟩ := ihr h e
        obtain ⟨n2, e2⟩ := iha ea e1
        exact ⟨by simp [tgSl, n1, n2], e2⟩
  | _ => intro x env env' i xs h e; simp [asg] at h
theorem FS.asg (fs : FS c Fb Hb env d F σ H) {tg : E} {x : SG.D} {σ' : L2.St} (e : SG.asg tg x env = some env') (es : ES c env' d F σ' H) (so : SameOut (tgSl tg) σ σ') : FS c Fb Hb env' d F σ' H :=
  ⟨es, fs.st, fun i xs p e1 e2 => by
    obtain ⟨n, e3⟩ := asg_ow e e1
    rw [so.2 i n] at e2
    exact fs.fr i xs p e3 e2⟩
theorem FS.put (fs : FS c Fb Hb env d F σ H) {i : Nat} {x : SG.D} {v : V} (q : Dq c.dc F H v x) (e : env.put i (.sh x) = some env') : FS c Fb Hb env' d F (σ.set i (some v)) H :=
  fs.asg (tg := .var i) (by simpa [SG.asg] using e) (fs.es.put q e) (by
    have := fs.es.sameOut (v := v) e
    exact ⟨this.1, fun j hj => this.2 j (by simpa [tgSl] using hj)⟩)
theorem FS.putO (fs : FS c Fb Hb env d F σ H) {i : Nat} {p : Addr} (hp : H p = none) (e : env.put i (.ow []) = some env') : FS c Fb Hb env' d F (σ.set i (some (.ref p))) (upd H p (.lst [])) := by
  have es := fs.es
  have w1 : Wf c F (upd H p (.lst [])) d := es.wf.new' hp
  have es1 := es.step (.new' (o := .lst []) hp) w1
  unfold Env.put at e
  split at e <;> cases e
  rename_i hi
  have hi' : i < σ.length := es.len ▸ hi
  have old : ∀ (j : Nat) xs, j ≠ i → env[j]? = some (.ow xs) → σ[j]? ≠ some (some (.ref p)) := fun j xs hj e1 e2 => by
    obtain ⟨q, vs, e3, e4, _⟩ := es.ow j xs e1
    rw [e2] at e3; cases e3
    rw [hp] at e4; cases e4
  have hbp : Nn Hb p := fs.st.back (es.wf.fresh_ne hp) (.of hp)
  refine ⟨⟨w1, by simpa using es.len, fun j y e1 => ?_, fun j xs e1 => ?_, fun j k xs ys q e1 e2 e3 e4 => ?_⟩, fs.st.trans (.new' hp), fun j xs q e1 e2 => ?_⟩
  · by_cases hj : j = i
    · subst hj; rw [List.getElem?_set_self hi] at e1; cases e1
    · rw [List.getElem?_set_ne (Ne.symm hj)] at e1 ⊢; exact es1.sh j y e1
  · by_cases hj : j = i
    · subst hj; rw [List.getElem?_set_self hi] at e1; cases e1
      exact ⟨p, [], by rw [List.getElem?_set_self hi'], upd_same, .nil, es.wf.fresh_F hp, es.wf.fresh_ne hp⟩
    · rw [List.getElem?_set_ne (Ne.symm hj)] at e1 ⊢; exact es1.ow j xs e1
  · by_cases hj : j = i
    · subst hj
      by_cases hk : k = j
      · exact hk.symm
      · rw [List.getElem?_set_ne (Ne.symm hk)] at e2 e4
        rw [List.getElem?_set_self hi'] at e3
        cases e3
        exact absurd e4 (old k ys hk e2)
    · rw [List.getElem?_set_ne (Ne.symm hj)] at e1 e3
      by_cases hk : k = i
      · subst hk
        rw [List.getElem?_set_self hi'] at e4
        cases e4
        exact absurd e3 (old j xs hj e1)
      · rw [List.getElem?_set_ne (Ne.symm hk)] at e2 e4
        exact es.inj j k xs ys q e1 e2 e3 e4
  · by_cases hj : j = i
    · subst hj
      rw [List.getElem?_set_self hi'] at e2; cases e2; exact hbp
    · rw [List.getElem?_set_ne (Ne.symm hj)] at e1 e2; exact fs.fr j xs q e1 e2
theorem FS.putL (fs : FS c Fb Hb env d F σ H) {i : Nat} {p : Addr} {vs0 : List V} {xs0 : List SG.D} (r0 : DqA c.dc F H vs0 xs0) (hp : H p = none) (e : env.put i (.ow xs0) = some env') : FS c Fb Hb env' d F (σ.set i (some (.ref p))) (upd H p (.lst vs0)) := by
  have es := fs.es
  have w1 : Wf c F (upd H p (.lst vs0)) d := es.wf.new' hp
  have es1 := es.step (.new' (o := .lst vs0) hp) w1
  unfold Env.put at e
  split at e <;> cases e
  rename_i hi
  have hi' : i < σ.length := es.len ▸ hi
  have old : ∀ (j : Nat) xs, j ≠ i → env[j]? = some (.ow xs) → σ[j]? ≠ some (some (.ref p)) := fun j xs hj e1 e2 => by
    obtain ⟨q, vs, e3, e4, _⟩ := es.ow j xs e1
    rw [e2] at e3; cases e3
    rw [hp] at e4; cases e4
  have hbp : Nn Hb p := fs.st.back (es.wf.fresh_ne hp) (.of hp)
  refine ⟨⟨w1, by simpa using es.len, fun j y e1 => ?_, fun j xs e1 => ?_, fun j k xs ys q e1 e2 e3 e4 => ?_⟩, fs.st.trans (.new' hp), fun j xs q e1 e2 => ?_⟩
  · by_cases hj : j = i
    · subst hj; rw [List.getElem?_set_self hi] at e1; cases e1
    · rw [List.getElem?_set_ne (Ne.symm hj)] at e1 ⊢; exact es1.sh j y e1
  · by_cases hj : j = i
    · subst hj; rw [List.getElem?_set_self hi] at e1; cases e1
      exact ⟨p, vs0, by rw [List.getElem?_set_self hi'], upd_same, r0.mono (le_new hp), es.wf.fresh_F hp, es.wf.fresh_ne hp⟩
    · rw [List.getElem?_set_ne (Ne.symm hj)] at e1 ⊢; exact es1.ow j xs e1
  · by_cases hj : j = i
    · subst hj
      by_cases hk : k = j
      · exact hk.symm
      · rw [List.getElem?_set_ne (Ne.symm hk)] at e2 e4
        rw [List.getElem?_set_self hi'] at e3
        cases e3
        exact absurd e4 (old k ys hk e2)
    · rw [List.getElem?_set_ne (Ne.symm hj)] at e1 e3
      by_cases hk : k = i
      · subst hk
        rw [List.getElem?_set_self hi'] at e4
        cases e4
        exact absurd e3 (old j xs hj e1)
      · rw [List.getElem?_set_ne (Ne.symm hk)] at e2 e4
        exact es.inj j k xs ys q e1 e2 e3 e4
  · by_cases hj : j = i
    · subst hj
      rw [List.getElem?_set_self hi'] at e2; cases e2; exact hbp
    · rw [List.getElem?_set_ne (Ne.symm hj)] at e1 e2; exact fs.fr j xs q e1 e2
theorem getO_some {i : Nat} {xs : List SG.D} (h : env.getO i = some xs) : env[i]? = some (.ow xs) := by
  unfold Env.getO at h
  split at h <;> cases h
  assumption
theorem FS.change (fs : FS c Fb Hb env d F σ H) {i : Nat} {xs ys : List SG.D} {vs us : List V} {p : Addr} (e0 : env[i]? = some (.ow xs)) (e1 : σ[i]? = some (some (.ref p))) (hp : H p = some (.lst vs)) (r : DqA c.dc F H us ys) (e : env.put i (.ow ys) = some env') : FS c Fb Hb env' d F σ (upd H p (.lst us)) ∧ Le F H F (upd H p (.lst us)) := by
  have es := fs.es
  obtain ⟨p', vs', z1, z2, z3, nf, nd⟩ := es.ow i xs e0
  rw [e1] at z1; cases z1
  have hl : Le F H F (upd H p (.lst us)) := le_upd hp nf
  have w1 : Wf c F (upd H p (.lst us)) d := wf_upd es.wf hp nd
  have hbp := fs.fr i xs p e0 e1
  unfold Env.put at e
  split at e <;> cases e
  rename_i hi
  refine ⟨⟨⟨w1, by simpa using es.len, fun j y e2 => ?_, fun j zs e2 => ?_, fun j k xs' ys' q e2 e3 e4 e5 => ?_⟩, ?_, fun j zs q e2 e3 => ?_⟩, hl⟩
  · by_cases hj : j = i
    · subst hj; rw [List.getElem?_set_self hi] at e2; cases e2
    · rw [List.getElem?_set_ne (Ne.symm hj)] at e2
      obtain ⟨v, a1, a2⟩ := es.sh j y e2
      exact ⟨v, a1, a2.mono hl⟩
  · by_cases hj : j = i
    · subst hj
      rw [List.getElem?_set_self hi] at e2; cases e2
      exact ⟨p, us, e1, upd_same, r.mono hl, nf, nd⟩
    · rw [List.getElem?_set_ne (Ne.symm hj)] at e2
      obtain ⟨q, ws, a1, a2, a3, a4, a5⟩ := es.ow j zs e2
      have : q ≠ p := fun z => hj (es.inj j i zs xs p e2 e0 (z ▸ a1) e1)
      exact ⟨q, ws, a1, by rw [upd_ne this]; exact a2, a3.mono hl, a4, a5⟩
  · have own : ∀ (j : Nat) zs, (env.set i (.ow ys))[j]? = some (.ow zs) → ∃ zs', env[j]? = some (.ow zs') := fun j zs e2 => by
      by_cases hj : j = i
      · subst hj; exact ⟨_, e0⟩
      · rw [List.getElem?_set_ne (Ne.symm hj)] at e2; exact ⟨_, e2⟩
    obtain ⟨_, o1⟩ := own j _ e2
    obtain ⟨_, o2⟩ := own k _ e3
    exact es.inj j k _ _ q o1 o2 e4 e5
  · have m4 := fs.st
    refine ⟨m4.sub, m4.new, fun b o e n t => ?_⟩
    rw [upd_ne (hbp.ne e t)]; exact m4.keep b o e n t
  · by_cases hj : j = i
    · subst hj; exact fs.fr j xs q e0 e3
    · rw [List.getElem?_set_ne (Ne.symm hj)] at e2; exact fs.fr j zs q e2 e3
theorem FS.frz (fs : FS c Fb Hb env d F σ H) {i : Nat} {xs : List SG.D} (e0 : env[i]? = some (.ow xs)) (e : env.put i (.sh (.lst xs)) = some env') : ∃ F', FS c Fb Hb env' d F' σ H ∧ Le F H F' H := by
  have es := fs.es
  obtain ⟨p, vs, e1, hp, r, nf, nd⟩ := es.ow i xs e0
  have hbp := fs.fr i xs p e0 e1
  have hl : Le F H (addF F p) H := ⟨fun _ h => .inl h, fun _ _ _ h => h, fun _ _ h => h⟩
  have w1 : Wf c (addF F p) H d := ⟨fun b h => h.elim (es.wf.dom b) fun z => ⟨vs, by rw [z]; exact hp⟩, fun h => h.elim es.wf.nd fun z => nd z.symm, es.wf.die, es.wf.tabs⟩
  unfold Env.put at e
  split at e <;> cases e
  rename_i hi
  refine ⟨addF F p, ⟨⟨w1, by simpa using es.len, fun j y e2 => ?_, fun j zs e2 => ?_, fun j k xs' ys' q e2 e3 e4 e5 => ?_⟩, ?_, fun j zs q e2 e3 => ?_⟩, hl⟩
  · by_cases hj : j = i
    · subst hj; rw [List.getElem?_set_self hi] at e2; cases e2
      exact ⟨.ref p, e1, .lst (.inr rfl) hp (r.mono hl)⟩
    · rw [List.getElem?_set_ne (Ne.symm hj)] at e2
      obtain ⟨v, a1, a2⟩ := es.sh j y e2
      exact ⟨v, a1, a2.mono hl⟩
  · by_cases hj : j = i
    · subst hj; rw [List.getElem?_set_self hi] at e2; cases e2
    · rw [List.getElem?_set_ne (Ne.symm hj)] at e2
      obtain ⟨q, ws, a1, a2, a3, a4, a5⟩ := es.ow j zs e2
      refine ⟨q, ws, a1, a2, a3.mono hl, fun z => z.elim a4 fun z => ?_, a5⟩
      exact hj (es.inj j i zs xs p e2 e0 (z ▸ a1) e1)
  · have hj : j ≠ i := fun z => by subst z; rw [List.getElem?_set_self hi] at e2; cases e2
    have hk : k ≠ i := fun z => by subst z; rw [List.getElem?_set_self hi] at e3; cases e3
    rw [List.getElem?_set_ne (Ne.symm hj)] at e2
    rw [List.getElem?_set_ne (Ne.symm hk)] at e3
    exact es.inj j k _ _ q e2 e3 e4 e5
  · exact ⟨fun b h => .inl (fs.st.sub b h), fun b h => h.elim (fs.st.new b) fun z => .inr (.inl (z ▸ hbp)), fs.st.keep⟩
  · have hj : j ≠ i := fun z => by subst z; rw [List.getElem?_set_self hi] at e2; cases e2
    rw [List.getElem?_set_ne (Ne.symm hj)] at e2
    exact fs.fr j zs q e2 e3
end
end SG
namespace SG
open PySem PySem.Spec PyProof.Rows L2
structure RaiseF (cl : Nat → Addr) (K : PySem.W.Frag) (mg : Str → Option Value) (j : Nat) (nm : Str) : Prop where
  ex : PySem.W.excIn K (cl j) [.type "ValueError", .type "Exception", .type "BaseException", .type "object"] "ValueError.__new__" = true
  mg : mg nm = some (.ref (cl j))
  kp : PySem.W.keepIn K (.ref (cl j)) = true
  sb : PySem.W.subIn K (.ref (cl j)) (.type "BaseException") = some true
  ty : PySem.W.typeIn K (.ref (cl j)) = some (.type "type")
  db : (nm == ("__debug__" : Str)) = false
structure GF (c : Cn) (ck : Ck) (cf : CF) (k : Nat) (X : Cx) (W : WX) : Prop where
  G : Good c ck cf k X
  kind : X.env.scope.kind = .function
  tg : TgOk X X.env.scope
  tk : L2N.Takes X W
  hp : PassesOwn (model X.prog X.w) X.A X.env X.xe
  cls : ∀ j nm, ck.er j = some nm → RaiseF c.cl X.K X.mg j nm
def SndS (c : Cn) (Fb : Addr → Prop) (Hb : Hp) (cf : CF) (X : Cx) (W : WX) (s : S) : SSyn → Prop
  | .one st => PS X st (tS c Fb Hb cf W s)
  | .many l => PSs X l (tS c Fb Hb cf W s)
section
variable {c : Cn} {ck : Ck} {cf : CF} {k : Nat} {X : Cx} {W : WX} {Fb : Addr → Prop} {Hb : Hp}
theorem sw_eq {v tg : Expr} {l : Nat} (hk : X.env.scope.kind = .function) (hn : noSD v = true) : swapsWith v (some tg) l X.env = pure (swB X.env.scope v tg) := by
  have hb : X.env.blockKind = .function := by unfold PySem.Env.blockKind; rw [hk]; rfl
  cases v <;> first | rfl | (simp [noSD] at hn; done) | skip
  cases tg <;> first | rfl | skip
  unfold swapsWith
  simp only [hb]
  show pure _ = pure _
  congr 1
theorem fm_short {α β : Type} {f : α → Option β} : ∀ {l : List α}, (∃ x ∈ l, f x = none) → (l.filterMap f).length < l.length
  | [], ⟨_, h, _⟩ => by cases h
  | x :: r, ⟨y, hy, e⟩ => by
    cases hx : f x with
    | none =>
      rw [List.filterMap_cons_none hx]
      have := List.length_filterMap_le f r
      simp; omega
    | some z =>
      rw [List.filterMap_cons_some hx]
      have hm : y ∈ r := by
        rcases List.mem_cons.mp hy with q | q
        · subst q; rw [hx] at e; cases e
        · exact q
      have := fm_short ⟨y, hm, e⟩
      simpa using this
theorem swN_eq {v tg : Expr} (h : swN X.env.scope tg v = true) : swappedStores [tg] v X.env = pure none := by
  cases tg <;> first | (simp [swN] at h; done) | (cases v <;> rfl) | skip
  cases v <;> first | rfl | skip
  rename_i ts _ _ vs _ _
  simp only [swN] at h
  unfold swappedStores
  dsimp only
  by_cases h0 : (!(ts.length == 2 || ts.length == 3) || vs.length != ts.length || X.env.blockKind != .function) = true
  · simp only [h0, if_true]
  · have h2 : (ts.any fun t => match t with | .Name x _ => !(X.env.scope.names.lookup x == some .local) | _ => true) = true := by
      rcases Bool.or_eq_true_iff.mp h with z | z
      · simp [z] at h0
      · exact z
    obtain ⟨t, ht, hb⟩ := List.any_eq_true.mp h2
    have hlt := fm_short (f := fun e => match e with
        | .Name id pos => if (X.env.kindOf id == some .local && pos.line == ((ts.head?.map (·.pos.line)).getD 0)) = true then some id else none
        | _ => none) (l := ts) ⟨t, ht, by
      cases t <;> first | rfl | skip
      rename_i x p
      have hx : (X.env.kindOf x == some .local) = false := by
        show (X.env.scope.names.lookup x == some .local) = false
        simpa using hb
      simp [hx]⟩
    have hne : ((ts.filterMap fun e => match e with
        | .Name id pos => if (X.env.kindOf id == some .local && pos.line == ((ts.head?.map (·.pos.line)).getD 0)) = true then some id else none
        | _ => none).length != ts.length) = true := by simp only [bne_iff_ne]; omega
    rw [if_neg h0]
    split
    · rfl
    · exact if_pos (Bool.or_eq_true_iff.mpr (.inl hne))
theorem asgE_one {tg : Expr} {env : PySem.Env} (h : notStar tg = true) : (assignEach [tg] env).map (·.2) = [assign tg env] := by
  cases tg <;> first | rfl | (simp [notStar] at h)
theorem lc_parts {elt tg it : E} {own : List Nat} {x : Expr} (G : Good c ck cf k X) (tk : L2N.Takes X W) (h : chk ck (.lc elt tg it own) X.env.scope (.ex x) = true) :
    ∃ el tg' it' scope p, x = .ListComp el [⟨tg', it', [], 0⟩] scope p ∧ PI X tg' it' (tI c cf W it) ∧ BlkOk X.N X.env.scope scope (ownP ck.N own) ∧
      (∀ (s : Shared) (H : Hp) (C : Addr) (cl : List (Str × Addr)) (fp : List Addr), PG (X.blk s H scope (compEnvC scope cl C X.env) fp) tg' (gT c tg)) ∧
      (∀ (s : Shared) (H : Hp) (C : Addr) (cl : List (Str × Addr)) (fp : List Addr), PE (X.blk s H scope (compEnvC scope cl C X.env) fp) el (tE c cf W0 elt)) ∧
      (∀ x, foldedSetIterable it' X.env x = pure x) ∧
      ∀ σ H Q, tE c cf W (.lc elt tg it own) σ H Q → tLc (tI c cf W it) (gT c tg) tYes (tE c cf W0 elt) ((ownP ck.N own).map (·.2)) σ H Q := by
  cases x <;> try (simp [chk] at h; done)
  rename_i el gs scope p
  simp only [chk] at h
  split at h
  · rename_i z
    cases z
    simp only [Bool.and_eq_true] at h
    obtain ⟨⟨⟨⟨⟨⟨⟨h1, h2⟩, h3⟩, h4⟩, h5⟩, h6⟩, h7⟩, h8⟩ := h
    have e1 := of_decide_eq_true h1
    have hs : ∀ j ∈ tgSl tg, j ∈ own := fun j hj => by simpa using List.all_eq_true.mp h5 j hj
    refine ⟨_, _, _, _, _, rfl, pi_of (sound it G tk) h6 h3, by rw [G.N]; exact blkOk_by h2, (fun s H C cl fp => (sound_tg G.blk (W := W0)).1 _ h7 tgOk_blk), (fun s H C cl fp => (sound elt (X := X.blk s H _ (compEnvC _ cl C X.env) fp) (W := W0) G.blk takes0 (.ex _) h8).1), fold_of h4, fun σ H Q ⟨env, d, F, es, q⟩ => ?_⟩
    simp only [ev] at q
    refine ⟨env, d, F, es, q.bind.imp fun x d1 F1 H1 st w q1 => ?_⟩
    split at q1
    · exact q1.elim
    · rename_i l hl
      split at q1
      · rename_i hlim
        refine ⟨l, hl, fun J itok D hD => ?_⟩
        rw [e1]
        exact lc_reading (es.step st w) itok turn_plain hD hlim hs q1
      · exact q1.elim
  · cases h
theorem lcif_parts {elt tg it cd : E} {own : List Nat} {x : Expr} (G : Good c ck cf k X) (tk : L2N.Takes X W) (h : chk ck (.lcif elt tg it cd own) X.env.scope (.ex x) = true) :
    ∃ el tg' it' cd' scope p, x = .ListComp el [⟨tg', it', [cd'], 0⟩] scope p ∧ PI X tg' it' (tI c cf W it) ∧ BlkOk X.N X.env.scope scope (ownP ck.N own) ∧
      (∀ (s : Shared) (H : Hp) (C : Addr) (cl : List (Str × Addr)) (fp : List Addr), PG (X.blk s H scope (compEnvC scope cl C X.env) fp) tg' (gT c tg)) ∧
      (∀ (s : Shared) (H : Hp) (C : Addr) (cl : List (Str × Addr)) (fp : List Addr), PTs (X.blk s H scope (compEnvC scope cl C X.env) fp) [cd'] (tT c cf W0 cd)) ∧
      (∀ (s : Shared) (H : Hp) (C : Addr) (cl : List (Str × Addr)) (fp : List Addr), PE (X.blk s H scope (compEnvC scope cl C X.env) fp) el (tE c cf W0 elt)) ∧
      (∀ x, foldedSetIterable it' X.env x = pure x) ∧
      ∀ σ H Q, tE c cf W (.lcif elt tg it cd own) σ H Q → tLc (tI c cf W it) (gT c tg) (tT c cf W0 cd) (tE c cf W0 elt) ((ownP ck.N own).map (·.2)) σ H Q := by
  cases x <;> try (simp [chk] at h; done)
  rename_i el gs scope p
  simp only [chk] at h
  split at h
  · rename_i z
    cases z
    simp only [Bool.and_eq_true] at h
    obtain ⟨⟨⟨⟨⟨⟨⟨⟨h1, h2⟩, h3⟩, h4⟩, h5⟩, h6⟩, h7⟩, h9⟩, h8⟩ := h
    have e1 := of_decide_eq_true h1
    have hs : ∀ j ∈ tgSl tg, j ∈ own := fun j hj => by simpa using List.all_eq_true.mp h5 j hj
    refine ⟨_, _, _, _, _, _, rfl, pi_of (sound it G tk) h6 h3, by rw [G.N]; exact blkOk_by h2, (fun s H C cl fp => (sound_tg G.blk (W := W0)).1 _ h7 tgOk_blk), (fun s H C cl fp => pts_one (sound cd (X := X.blk s H _ (compEnvC _ cl C X.env) fp) (W := W0) G.blk takes0 (.ex _) h9).2), (fun s H C cl fp => (sound elt (X := X.blk s H _ (compEnvC _ cl C X.env) fp) (W := W0) G.blk takes0 (.ex _) h8).1), fold_of h4, fun σ H Q ⟨env, d, F, es, q⟩ => ?_⟩
    simp only [ev] at q
    refine ⟨env, d, F, es, q.bind.imp fun x d1 F1 H1 st w q1 => ?_⟩
    split at q1
    · exact q1.elim
    · rename_i l hl
      split at q1
      · rename_i hlim
        refine ⟨l, hl, fun J itok D hD => ?_⟩
        rw [e1]
        exact lc_reading (es.step st w) itok turn_if hD hlim hs q1
      · exact q1.elim
  · cases h
theorem lc2_parts {elt tg1 it1 tg2 it2 : E} {own own2 : List Nat} {x : Expr} (G : Good c ck cf k X) (tk : L2N.Takes X W) (h : chk ck (.lc2 elt tg1 it1 tg2 it2 own own2) X.env.scope (.ex x) = true) :
    ∃ el tg1' it1' tg2' it2' scope p, x = .ListComp el [⟨tg1', it1', [], 0⟩, ⟨tg2', it2', [], 0⟩] scope p ∧ PI X tg1' it1' (tI c cf W it1) ∧ BlkOk X.N X.env.scope scope (ownP ck.N own) ∧ (∀ j ∈ own2, j ∈ (ownP ck.N own).map (·.2)) ∧
      (∀ (s : Shared) (H : Hp) (C : Addr) (cl : List (Str × Addr)) (fp : List Addr), PG (X.blk s H scope (compEnvC scope cl C X.env) fp) tg1' (gT c tg1)) ∧
      (∀ (s : Shared) (H : Hp) (C : Addr) (cl : List (Str × Addr)) (fp : List Addr), PI (X.blk s H scope (compEnvC scope cl C X.env) fp) tg2' it2' (tI c cf W0 it2)) ∧
      (∀ (s : Shared) (H : Hp) (C : Addr) (cl : List (Str × Addr)) (fp : List Addr), PG (X.blk s H scope (compEnvC scope cl C X.env) fp) tg2' (gT c tg2)) ∧
      (∀ (s : Shared) (H : Hp) (C : Addr) (cl : List (Str × Addr)) (fp : List Addr), PE (X.blk s H scope (compEnvC scope cl C X.env) fp) el (tE c cf W0 elt)) ∧
      (∀ x, foldedSetIterable it1' X.env x = pure x) ∧ (∀ env x, foldedSetIterable it2' env x = pure x) ∧
      ∀ σ H Q, tE c cf W (.lc2 elt tg1 it1 tg2 it2 own own2) σ H Q → tLc2 (tI c cf W it1) (gT c tg1) tYes (tI c cf W0 it2) (gT c tg2) tYes (tE c cf W0 elt) ((ownP ck.N own).map (·.2)) own2 σ H Q := by
  cases x <;> try (simp [chk] at h; done)
  rename_i el gs scope p
  simp only [chk] at h
  split at h
  · rename_i z
    cases z
    simp only [Bool.and_eq_true] at h
    obtain ⟨⟨⟨⟨⟨⟨⟨⟨⟨⟨⟨⟨⟨⟨h1, h2⟩, h3⟩, h4⟩, h5⟩, h3'⟩, h4'⟩, h5'⟩, h9⟩, h6⟩, h7⟩, h6'⟩, h7'⟩, h10⟩, h8⟩ := h
    have e1 := of_decide_eq_true h1
    have hs : ∀ j ∈ tgSl tg1, j ∈ own := fun j hj => by simpa using List.all_eq_true.mp h5 j hj
    have hs2 : ∀ j ∈ tgSl tg2, j ∈ own2 := fun j hj => by simpa using List.all_eq_true.mp h5' j hj
    have hv : ∀ j ∈ own2, j ∈ (ownP ck.N own).map (·.2) := fun j hj => by rw [e1]; simpa using List.all_eq_true.mp h9 j hj
    refine ⟨_, _, _, _, _, _, _, rfl, pi_of (sound it1 G tk) h6 h3, by rw [G.N]; exact blkOk_by h2, hv, (fun s H C cl fp => (sound_tg G.blk (W := W0)).1 _ h7 tgOk_blk), (fun s H C cl fp => pi_of (sound it2 (X := X.blk s H _ (compEnvC _ cl C X.env) fp) (W := W0) G.blk takes0) h6' h3'), (fun s H C cl fp => (sound_tg G.blk (W := W0)).1 _ h7' tgOk_blk), (fun s H C cl fp => (sound elt (X := X.blk s H _ (compEnvC _ cl C X.env) fp) (W := W0) G.blk takes0 (.ex _) h8).1), fold_of h4, (fun env => fold_of h4'), fun σ H Q ⟨env, d, F, es, q⟩ => ?_⟩
    simp only [ev] at q
    refine ⟨env, d, F, es, q.bind.imp fun x d1 F1 H1 st w q1 => ?_⟩
    split at q1
    · exact q1.elim
    · rename_i l hl
      split at q1
      · rename_i hlim
        refine ⟨l, hl, fun J itok D hD => ?_⟩
        rw [e1]
        exact lc2_reading (es.step st w) itok hD hlim hs hs2 q1
      · exact q1.elim
  · cases h
theorem set_go {tg e : E} {D : Ends} {σ : L2.St} {H : Hp} (h : tS c Fb Hb cf W (.set tg e) D σ H) : tAsg (tE c cf W e) (gT c tg) D σ H := by
  obtain ⟨env, d, F, fs, so⟩ := h
  simp only [evS] at so
  refine ⟨env, d, F, fs.es, (so.out fs).imp fun x d1 F1 H1 st w so1 v dq => ?_⟩
  obtain ⟨env', ea, so2⟩ := so1.ofE
  have fs1 := fs.step st w
  exact ⟨env, d1, F1, x, fs1.es, dq, env', ea, fun σ' es' sm => so2 σ' H1 F1 ⟨fun _ h => h, fun _ _ _ h => h, fun _ _ h => h⟩ (fs1.asg ea es' sm)⟩
theorem gT_name {i : Nat} {v : V} {σ : L2.St} {H : Hp} {Q : L2.St → Hp → Prop} (h : gT c (.var i) v σ H Q) : gName i v σ H Q := by
  obtain ⟨env, d, F, x, es, dq, env', e, q⟩ := h
  simp only [asg] at e
  refine q _ (es.put dq e) ?_
  have := es.sameOut (v := v) e
  exact ⟨this.1, fun j hj => this.2 j (by simpa [tgSl] using hj)⟩
theorem st_set {tg e : E} {y : SSyn} (g : GF c ck cf k X W) (h : chkS ck X.env.scope (.set tg e) y = true) : SndS c Fb Hb cf X W (.set tg e) y := by
  simp only [chkS] at h
  split at h
  · simp only [Bool.and_eq_true] at h
    obtain ⟨⟨⟨⟨⟨h1, h2⟩, h3⟩, h4⟩, h5⟩, h6⟩ := h
    rename_i tg' v pos
    have ptg := (sound_tg g.G (W := W)).1 _ h4 g.tg
    cases hb : swB X.env.scope v tg' with
    | false => exact PS.imp (ps_asg (sound e g.G g.tk _ h5).1 ptg (by show swapsWith v (some tg') _ _ = _; rw [sw_eq g.kind h2, hb]) (swN_eq h3) (asgE_one h1)) fun D σ H h => set_go h
    | true =>
      rw [hb] at h6
      simp only [Bool.not_true, Bool.false_or, Bool.and_eq_true] at h6
      have hsw := sw_eq (X := X) (v := v) (tg := tg') (l := pos.line) g.kind h2
      rw [hb] at hsw
      cases v <;> try (simp [swB] at hb; done)
      cases tg' <;> try (simp [swB] at hb; done)
      rename_i el gs scope p yn py
      have hyl : X.env.scope.names.lookup yn = some .local := by
        simp only [swB, Bool.and_eq_true] at hb
        simpa using hb.1.1
      cases tg <;> try (simp [vOf] at h6; done)
      rename_i i
      have hi : X.N[i]? = some yn := by
        simp only [chk, Bool.and_eq_true] at h4
        rw [g.G.N]; exact of_decide_eq_true h4.1
      cases e <;> try (simp [isLcE] at h6; done)
      · obtain ⟨el', tg', it', scope', p', e1, a1, a2, a3, a4, a5, a6⟩ := lc_parts g.G g.tk h5
        cases e1
        exact PS.imp (ps_setLc g.G.calm (by rw [g.G.N]; exact g.G.nd) hi hyl hsw a1 a2 a3 (fun s H C cl fp => pts_nil) a4 a5) fun D σ H h => a6 _ _ _ (by
          obtain ⟨env, d, F, es, q⟩ := set_go h
          exact ⟨env, d, F, es, q.imp fun x d1 F1 H1 st w q1 v dq => gT_name (q1 v dq)⟩)
      · obtain ⟨el', tg', it', cd', scope', p', e1, a1, a2, a3, a7, a4, a5, a6⟩ := lcif_parts g.G g.tk h5
        cases e1
        exact PS.imp (ps_setLc g.G.calm (by rw [g.G.N]; exact g.G.nd) hi hyl hsw a1 a2 a3 a7 a4 a5) fun D σ H h => a6 _ _ _ (by
          obtain ⟨env, d, F, es, q⟩ := set_go h
          exact ⟨env, d, F, es, q.imp fun x d1 F1 H1 st w q1 v dq => gT_name (q1 v dq)⟩)
      · obtain ⟨el', tg1', it1', tg2', it2', scope', p', e1, a1, a2, av, a3, a4, a5, a6, a7, a8, a9⟩ := lc2_parts g.G g.tk h5
        cases e1
        exact PS.imp (ps_setLc2 g.G.calm (by rw [g.G.N]; exact g.G.nd) hi hyl hsw a1 a2 av a3 (fun s H C cl fp => pts_nil) a4 a5 (fun s H C cl fp => pts_nil) a6 a7 a8) fun D σ H h => a9 _ _ _ (by
          obtain ⟨env, d, F, es, q⟩ := set_go h
          exact ⟨env, d, F, es, q.imp fun x d1 F1 H1 st w q1 v dq => gT_name (q1 v dq)⟩)
  · cases h
theorem st_own {i : Nat} {y : SSyn} (g : GF c ck cf k X W) (h : chkS ck X.env.scope (.own i) y = true) : SndS c Fb Hb cf X W (.own i) y := by
  simp only [chkS] at h
  split at h
  · simp only [Bool.and_eq_true] at h
    obtain ⟨h1, h2⟩ := h
    have hi := of_decide_eq_true h1
    refine PS.imp (ps_set (i := i) (by rw [g.G.N]; exact g.G.nd) (by rw [g.G.N]; exact hi) (g.tg _ h2).1 (pe_lst pa_nil) rfl (g.tg _ h2).2) fun D σ H ⟨env, d, F, fs, so⟩ => ?_
    simp only [evS] at so
    obtain ⟨env', e, so⟩ := so.ofE
    refine ⟨by decide, fun p hp => so _ _ F (le_new hp) (fs.putO hp e)⟩
  · cases h
theorem par_sw {x y : Str} {px py pt pt2 : Pos} {kt k2 : Nat} {a b : Expr} (hk : X.env.scope.kind = .function) (h : parC X.env.scope x y px py a b = true) : swappedStores [.Tuple [.Name x px, .Name y py] kt pt] (.Tuple [a, b] k2 pt2) X.env = pure (some [x, y]) := by
  unfold parC at h
  simp only [Bool.and_eq_true] at h
  obtain ⟨⟨⟨⟨⟨⟨⟨h1, h2⟩, h3⟩, h4⟩, h5⟩, h6⟩, h7⟩, h8⟩ := h
  have n := of_decide_eq_true h1
  have l1 := of_decide_eq_true h2
  have l2 := of_decide_eq_true h3
  have hb : X.env.blockKind = .function := by unfold PySem.Env.blockKind; rw [hk]; rfl
  have k1 : X.env.kindOf x = some .local := l1
  have k2 : X.env.kindOf y = some .local := l2
  have ex : ([x, y] : List Str).eraseDups.length = 2 := by
    have : (y == x) = false := by simpa using Ne.symm n
    simp [List.eraseDups_cons, this]
  have f1 : ([a, b].all (foldedForSure 8)) = false := by cases e1 : foldedForSure 8 a <;> cases e2 : foldedForSure 8 b <;> simp_all
  have f2 : ([a, b].all (constantsAlone 8)) = false := by cases e1 : constantsAlone 8 a <;> cases e2 : constantsAlone 8 b <;> simp_all
  unfold swappedStores
  simp only [hb, List.any_cons, List.any_nil, List.filterMap_cons, k1, k2, List.head?_cons, Option.map_some, Option.getD_some, Expr.pos, h4, List.filterMap_nil, f1, f2]
  simp [ex]
  intro h
  exfalso
  rcases h with h | h
  · cases a <;> first | (simp [notStar] at h5; done) | (simp at h)
  · cases b <;> first | (simp [notStar] at h6; done) | (simp at h)
theorem st_par {i j : Nat} {a b : E} {y : SSyn} (g : GF c ck cf k X W) (h : chkS ck X.env.scope (.par i j a b) y = true) : SndS c Fb Hb cf X W (.par i j a b) y := by
  simp only [chkS] at h
  split at h
  · simp only [Bool.and_eq_true] at h
    obtain ⟨⟨⟨⟨h1, h2⟩, h3⟩, h4⟩, h5⟩ := h
    have hi := of_decide_eq_true h1
    have hj := of_decide_eq_true h2
    rename_i x px y' py _ _ u v _ _ _
    have h3' := h3
    unfold parC at h3'
    simp only [Bool.and_eq_true] at h3'
    obtain ⟨⟨⟨⟨⟨⟨⟨n1, n2⟩, n3⟩, n4⟩, n5⟩, n6⟩, n7⟩, n8⟩ := h3'
    have hn := of_decide_eq_true n1
    have hij : i ≠ j := fun z => by subst z; rw [hi] at hj; cases hj; exact hn rfl
    refine PS.imp (ps_par g.G.calm (by rw [g.G.N]; exact g.G.nd) (by rw [g.G.N]; exact hi) (by rw [g.G.N]; exact hj) hij (of_decide_eq_true n2) (of_decide_eq_true n3) (pa_cons (sound a g.G g.tk _ h4).1 (pa_cons (sound b g.G g.tk _ h5).1 pa_nil (star1 n6)) (star1 n5)) (par_sw g.kind h3) rfl) fun D σ H ⟨env, d, F, fs, so⟩ => ?_
    simp only [evS] at so
    refine ⟨env, d, F, fs.es, (so.out fs).imp fun x d1 F1 H1 st w so1 v dq => ?_⟩
    have fs1 := fs.step st w
    refine ⟨env, d1, F1, fs1.es, (so1.out fs1).imp fun y d2 F2 H2 st2 w2 so2 u dq2 => ⟨_, _, rfl, ?_⟩⟩
    have fs2 := fs1.step st2 w2
    obtain ⟨env2, e2, so3⟩ := so2.ofE
    cases e1 : env.put i (.sh x) with
    | none => rw [e1] at e2; cases e2
    | some env1 =>
      rw [e1] at e2
      have fa := fs2.put (dq.mono (st2.le w)) e1
      exact so3 _ H2 F2 ⟨fun _ h => h, fun _ _ _ h => h, fun _ _ h => h⟩ (fa.put dq2 e2)
  · cases h
theorem st_parO {i j : Nat} {a : E} {y : SSyn} (g : GF c ck cf k X W) (h : chkS ck X.env.scope (.parO i j a) y = true) : SndS c Fb Hb cf X W (.parO i j a) y := by
  simp only [chkS] at h
  split at h
  · simp only [Bool.and_eq_true, Bool.or_eq_true] at h
    obtain ⟨⟨⟨h1, h2⟩, h3⟩, h4⟩ := h
    have hi := of_decide_eq_true h1
    have hj := of_decide_eq_true h2
    rename_i x px y' py k1 p1 u lp k2 p2 pos
    rcases h3 with h3 | h3
    · have h3' := h3
      unfold parC at h3'
      simp only [Bool.and_eq_true] at h3'
      obtain ⟨⟨⟨⟨⟨⟨⟨n1, n2⟩, n3⟩, n4⟩, n5⟩, n6⟩, n7⟩, n8⟩ := h3'
      have hn := of_decide_eq_true n1
      have hij : i ≠ j := fun z => by subst z; rw [hi] at hj; cases hj; exact hn rfl
      refine PS.imp (ps_par g.G.calm (by rw [g.G.N]; exact g.G.nd) (by rw [g.G.N]; exact hi) (by rw [g.G.N]; exact hj) hij (of_decide_eq_true n2) (of_decide_eq_true n3) (pa_cons (sound a g.G g.tk _ h4).1 (pa_cons (pe_lst pa_nil) pa_nil (star1 n6)) (star1 n5)) (par_sw g.kind h3) rfl) fun D σ H ⟨env, d, F, fs, so⟩ => ?_
      simp only [evS] at so
      refine ⟨env, d, F, fs.es, (so.out fs).imp fun x d1 F1 H1 st w so1 v dq => ?_⟩
      have fs1 := fs.step st w
      refine ⟨by decide, fun p hp => ⟨_, _, rfl, ?_⟩⟩
      obtain ⟨env2, e2, so3⟩ := so1.ofE
      cases e1 : env.put i (.sh x) with
      | none => rw [e1] at e2; cases e2
      | some env1 =>
        rw [e1] at e2
        have fa := fs1.put dq e1
        exact so3 _ _ F1 (le_new hp) (fa.putO hp e2)
    · unfold parD at h3
      simp only [Bool.and_eq_true] at h3
      obtain ⟨⟨⟨⟨⟨n1, n2⟩, n3⟩, n4⟩, n5⟩, n6⟩ := h3
      have n3' := Bool.not_eq_true' _ |>.mp n3
      refine PS.imp (ps_asg (pe_tup (pa_cons (sound a g.G g.tk _ h4).1 (pa_cons (pe_lst pa_nil) pa_nil rfl) (star1 n6))) (pg_tup (n := 2) g.G.calm (pgs_cons (pg_name (i := i) (by rw [g.G.N]; exact g.G.nd) (by rw [g.G.N]; exact hi) (g.tg _ n4).1 (g.tg _ n4).2) (pgs_cons (pg_name (i := j) (by rw [g.G.N]; exact g.G.nd) (by rw [g.G.N]; exact hj) (g.tg _ n5).1 (g.tg _ n5).2) pgs_nil))) ((sw_eq (X := X) (v := .Tuple [u, .List [] lp] k2 p2) (tg := .Tuple [.Name x px, .Name y' py] k1 p1) (l := pos.line) g.kind n2).trans (by rw [n3'])) (swN_eq n1) rfl) fun D σ H ⟨env, d, F, fs, so⟩ => ?_
      simp only [evS] at so
      refine ⟨env, d, F, fs.es, (so.out fs).imp fun x d1 F1 H1 st w so1 v dq => ?_⟩
      have fs1 := fs.step st w
      refine ⟨by decide, fun p hp => ⟨(show 2 ≤ sizeLine by decide), fun q hq => ⟨q, _, rfl, .inl (.inl upd_same), rfl, _, _, rfl, _, _, rfl, rfl, ?_⟩⟩⟩
      obtain ⟨env2, e2, so3⟩ := so1.ofE
      cases e1 : env.put i (.sh x) with
      | none => rw [e1] at e2; cases e2
      | some env1 =>
        rw [e1] at e2
        have fa := fs1.put dq e1
        have fb := fa.putO hp e2
        exact so3 _ _ F1 ((le_new hp).trans (le_new hq)) (fb.step (.new' hq) (fb.es.wf.new' hq))
  · cases h
theorem par3_sw {x y z : Str} {px py pz pt pt2 : Pos} {kt k2 : Nat} {a b d : Expr} (hk : X.env.scope.kind = .function) (h : par3C X.env.scope x y z px py pz a b d = true) : swappedStores [.Tuple [.Name x px, .Name y py, .Name z pz] kt pt] (.Tuple [a, b, d] k2 pt2) X.env = pure (some [x, y, z]) := by
  unfold par3C at h
  simp only [Bool.and_eq_true] at h
  obtain ⟨⟨⟨⟨⟨⟨⟨⟨⟨⟨⟨⟨h1, h2⟩, h3⟩, h4⟩, h5⟩, h6⟩, h7⟩, h8⟩, h9⟩, h10⟩, h11⟩, h12⟩, h13⟩ := h
  have n1 := of_decide_eq_true h1
  have n2 := of_decide_eq_true h2
  have n3 := of_decide_eq_true h3
  have hb : X.env.blockKind = .function := by unfold PySem.Env.blockKind; rw [hk]; rfl
  have k1 : X.env.kindOf x = some .local := of_decide_eq_true h4
  have k2 : X.env.kindOf y = some .local := of_decide_eq_true h5
  have k3 : X.env.kindOf z = some .local := of_decide_eq_true h6
  have ex : ([x, y, z] : List Str).eraseDups.length = 3 := by
    have e1 : (y == x) = false := by simpa using Ne.symm n1
    have e2 : (z == x) = false := by simpa using Ne.symm n2
    have e3 : (z == y) = false := by simpa using Ne.symm n3
    simp [List.eraseDups_cons, e1, e2, e3]
  have f1 : ([a, b, d].all (foldedForSure 8)) = false := by cases e1 : foldedForSure 8 a <;> cases e2 : foldedForSure 8 b <;> cases e3 : foldedForSure 8 d <;> simp_all
  have f2 : ([a, b, d].all (constantsAlone 8)) = false := by cases e1 : constantsAlone 8 a <;> cases e2 : constantsAlone 8 b <;> cases e3 : constantsAlone 8 d <;> simp_all
  unfold swappedStores
  simp only [hb, List.any_cons, List.any_nil, List.filterMap_cons, k1, k2, k3, List.head?_cons, Option.map_some, Option.getD_some, Expr.pos, h7, h8, List.filterMap_nil, f1, f2]
  simp [ex]
  intro h
  exfalso
  rcases h with h | h | h
  · cases a <;> first | (simp [notStar] at h9; done) | (simp at h)
  · cases b <;> first | (simp [notStar] at h10; done) | (simp at h)
  · cases d <;> first | (simp [notStar] at h11; done) | (simp at h)
theorem st_par3 {i j l : Nat} {a b e : E} {y : SSyn} (g : GF c ck cf k X W) (h : chkS ck X.env.scope (.par3 i j l a b e) y = true) : SndS c Fb Hb cf X W (.par3 i j l a b e) y := by
  simp only [chkS] at h
  split at h
  · simp only [Bool.and_eq_true] at h
    obtain ⟨⟨⟨⟨⟨⟨h1, h2⟩, h3⟩, h4⟩, h5⟩, h6⟩, h7⟩ := h
    have hi := of_decide_eq_true h1
    have hj := of_decide_eq_true h2
    have hl := of_decide_eq_true h3
    have h4' := h4
    unfold par3C at h4'
    simp only [Bool.and_eq_true] at h4'
    obtain ⟨⟨⟨⟨⟨⟨⟨⟨⟨⟨⟨⟨n1, n2⟩, n3⟩, n4⟩, n5⟩, n6⟩, n7⟩, n8⟩, n9⟩, n10⟩, n11⟩, n12⟩, n13⟩ := h4'
    have x1 := of_decide_eq_true n1
    have x2 := of_decide_eq_true n2
    have x3 := of_decide_eq_true n3
    have hij : i ≠ j := fun z => by subst z; rw [hi] at hj; cases hj; exact x1 rfl
    have hil : i ≠ l := fun z => by subst z; rw [hi] at hl; cases hl; exact x2 rfl
    have hjl : j ≠ l := fun z => by subst z; rw [hj] at hl; cases hl; exact x3 rfl
    refine PS.imp (ps_par3 g.G.calm (by rw [g.G.N]; exact g.G.nd) (by rw [g.G.N]; exact hi) (by rw [g.G.N]; exact hj) (by rw [g.G.N]; exact hl) hij hil hjl (of_decide_eq_true n4) (of_decide_eq_true n5) (of_decide_eq_true n6) (pa_cons (sound a g.G g.tk _ h5).1 (pa_cons (sound b g.G g.tk _ h6).1 (pa_cons (sound e g.G g.tk _ h7).1 pa_nil (star1 n11)) (star1 n10)) (star1 n9)) (par3_sw g.kind h4) rfl) fun D σ H ⟨env, d, F, fs, so⟩ => ?_
    simp only [evS] at so
    refine ⟨env, d, F, fs.es, (so.out fs).imp fun x d1 F1 H1 st w so1 v dq => ?_⟩
    have fs1 := fs.step st w
    refine ⟨env, d1, F1, fs1.es, (so1.out fs1).imp fun y d2 F2 H2 st2 w2 so2 u dq2 => ?_⟩
    have fs2 := fs1.step st2 w2
    refine ⟨env, d2, F2, fs2.es, (so2.out fs2).imp fun z d3 F3 H3 st3 w3 so3 u3 dq3 => ⟨_, _, _, rfl, ?_⟩⟩
    have fs3 := fs2.step st3 w3
    obtain ⟨env3, e3, so4⟩ := so3.ofE
    cases e1 : env.put i (.sh x) with
    | none => rw [e1] at e3; cases e3
    | some env1 =>
      rw [e1] at e3
      dsimp only [Option.bind_some] at e3
      cases e2 : env1.put j (.sh y) with
      | none => rw [e2] at e3; cases e3
      | some env2 =>
        rw [e2] at e3
        have fa := fs3.put ((dq.mono (st2.le w)).mono (st3.le w2)) e1
        have fb := fa.put (dq2.mono (st3.le w2)) e2
        exact so4 _ H3 F3 ⟨fun _ h => h, fun _ _ _ h => h, fun _ _ h => h⟩ (fb.put dq3 e3)
  · cases h
theorem st_app {i : Nat} {e : E} {y : SSyn} (g : GF c ck cf k X W) (h : chkS ck X.env.scope (.app i e) y = true) : SndS c Fb Hb cf X W (.app i e) y := by
  simp only [chkS] at h
  split at h
  · simp only [Bool.and_eq_true] at h
    obtain ⟨⟨⟨⟨⟨⟨h1, h2⟩, h3⟩, h4⟩, h5⟩, h6⟩, h7⟩ := h
    have hi := of_decide_eq_true h1
    have e4 := of_decide_eq_true h4
    subst e4
    refine PS.imp (ps_expr (pe_bm PySem.F.plainAttrs_list PySem.F.slot_list_append PySem.F.type_list_append mt_append (pe_var (i := i) (by rw [g.G.N]; exact hi) (vis_of h2) (nm_of h3).1 (nm_of h3).2) (pa_cons (sound e g.G g.tk _ h7).1 pa_nil (star1 h6)) rfl ?_ h5 (star1 h6) rfl) rfl) fun D σ H ⟨env, d, F, fs, so⟩ => ?_
    · rw [star1 h6]; rfl
    · simp only [evS] at so
      cases eo : env.getO i with
      | none =>
        rw [eo] at so
        exact so.elim
      | some xs =>
        rw [eo] at so
        have e0 := getO_some eo
        obtain ⟨p, vs, e1, hp, r, nf, nd⟩ := fs.es.ow i xs e0
        refine ⟨.ref p, e1, .inl ⟨rfl, _, SqL.of hp⟩, env, d, F, fs.es, (so.out fs).imp fun x d1 F1 H1 st w so1 v dq => ?_⟩
        have fs1 := fs.step st w
        have hp1 : H1 p = some (.lst vs) := st.keep p _ hp nd (by intro ps z; cases z)
        split at so1
        · rename_i hl
          obtain ⟨env', e2, so2⟩ := so1.ofE
          have r1 := (r.mono (st.le fs.es.wf)).snoc dq
          refine ⟨p, vs, v, rfl, rfl, hp1, ?_, ?_⟩
          · rw [r.length]; exact Nat.lt_of_lt_of_le hl lim_line
          · obtain ⟨f2, l2⟩ := fs1.change e0 e1 hp1 r1 e2
            exact so2 _ _ _ l2 f2
        · exact so1.elim
  · cases h
theorem le_refl {F : Addr → Prop} {H : Hp} : Le F H F H := ⟨fun _ h => h, fun _ _ _ h => h, fun _ _ h => h⟩
theorem st_for {tg it : E} {b : S} {y : SSyn} (g : GF c ck cf k X W) (ihb : ∀ y, chkS ck X.env.scope b y = true → SndS c Fb Hb cf X W b y) (h : chkS ck X.env.scope (.fors tg it b) y = true) : SndS c Fb Hb cf X W (.fors tg it b) y := by
  simp only [chkS] at h
  split at h
  · simp only [Bool.and_eq_true] at h
    obtain ⟨⟨⟨⟨h1, h2⟩, h3⟩, h4⟩, h5⟩ := h
    have pb : PSs X _ (tS c Fb Hb cf W b) := ihb _ h5
    refine PS.imp (ps_for g.hp g.G.calm (pi_of (sound it g.G g.tk) h4 h1) ((sound_tg g.G (W := W)).1 _ h3 g.tg) pb (fold_of h2)) fun D σ H ⟨env, d, F, fs, so⟩ => ?_
    simp only [evS] at so
    refine ⟨env, d, F, fs.es, (so.out fs).imp fun x d1 F1 H1 st w so1 => ?_⟩
    have fs1 := fs.step st w
    split at so1
    · rename_i l hl
      refine ⟨l, hl, fun J itok => ?_⟩
      obtain ⟨G, Y, wk, hG, hY⟩ := itok
      refine for_it wk (fun i σ2 H2 => ∃ env2 d2 F2, FS c Fb Hb env2 d2 F2 σ2 H2 ∧ Le F1 H1 F2 H2 ∧ SO c Fb Hb W D F2 H2 (forLoop tg (fun env d => evS cf b env d) (l.drop i) env2 d2)) ⟨env, d1, F1, fs1, le_refl, by simpa using so1⟩ ?_ ?_ ?_
      · rintro i σ2 H2 hi ⟨env2, d2, F2, _, l2, _⟩
        exact hG H2 F2 l2
      · rintro i x2 σ2 H2 H3 hi ⟨env2, d2, F2, fs2, l2, so2⟩ hy
        have hli : i < l.length := hi
        have ey : l[i]? = some l[i] := by simp [hli]
        have : ∃ st2 : Step c.dc F2 H2 F2 H3, Wf c F2 H3 d2 ∧ Dq c.dc F2 H3 x2 l[i] := by
          rcases hY i H2 F2 x2 H3 l[i] l2 ey hy with ⟨e, dq⟩ | ⟨T, xs, ys, e1, e2, e3, e4, dq⟩
          · subst e; exact ⟨.refl, fs2.es.wf, dq⟩
          · subst e1 e3
            rw [e4]
            exact ⟨.new' e2, fs2.es.wf.new' e2, .newT fs2.es.wf e2 dq⟩
        obtain ⟨st3, w3, dq3⟩ := this
        have fs3 := fs2.step st3 w3
        rw [List.drop_eq_getElem_cons hli] at so2
        simp only [forLoop] at so2
        cases ea : asg tg l[i] env2 with
        | none => rw [ea] at so2; exact so2.elim
        | some env3 =>
          rw [ea] at so2
          refine ⟨env2, d2, F2, l[i], fs3.es, dq3, env3, ea, fun σ4 es4 sm => ?_⟩
          have fs4 := fs3.asg ea es4 sm
          have l3 := l2.trans (fs2.le st3)
          refine ⟨env3, d2, F2, fs4, ?_⟩
          dsimp only at so2
          cases eb : evS cf b env3 d2 with
          | nx env5 d5 =>
            rw [eb] at so2
            exact fun σ5 H5 F5 l5 fs5 => ⟨env5, d5, F5, fs5, l3.trans l5, SO.le so2 ((fs2.le st3).trans l5)⟩
          | rt v d5 => rw [eb] at so2; exact so2
          | er n d5 => rw [eb] at so2; exact so2
          | bad => rw [eb] at so2; exact so2
      · rintro σ2 H2 ⟨env2, d2, F2, fs2, l2, so2⟩
        rw [List.drop_length] at so2
        exact so2 σ2 H2 F2 le_refl fs2
    · exact so1.elim
  · cases h
theorem st_whl {n : Nat} {e : E} {b : S} {y : SSyn} (g : GF c ck cf k X W) (ihb : ∀ y, chkS ck X.env.scope b y = true → SndS c Fb Hb cf X W b y) (h : chkS ck X.env.scope (.whl n e b) y = true) : SndS c Fb Hb cf X W (.whl n e b) y := by
  simp only [chkS] at h
  split at h
  · simp only [Bool.and_eq_true] at h
    obtain ⟨h1, h2⟩ := h
    have pb : PSs X _ (tS c Fb Hb cf W b) := ihb _ h2
    refine PS.imp (ps_while g.hp (sound e g.G g.tk _ h1).2 pb) fun D σ H ⟨env, d, F, fs, so⟩ => ?_
    simp only [evS] at so
    refine ⟨fun m σ2 H2 => ∃ env2 d2 F2, FS c Fb Hb env2 d2 F2 σ2 H2 ∧ SO c Fb Hb W D F2 H2 (whileLoop (fun env d => ev cf e env d) (fun env d => evS cf b env d) m env2 d2), ⟨n, env, d, F, fs, so⟩, ?_⟩
    rintro m σ2 H2 ⟨env2, d2, F2, fs2, so2⟩
    cases m with
    | zero => exact so2.elim
    | succ m =>
      simp only [whileLoop] at so2
      refine ⟨env2, d2, F2, fs2.es, (so2.out fs2).imp fun x d3 F3 H3 st w so3 => ?_⟩
      have fs3 := fs2.step st w
      split at so3
      · rename_i ht
        refine ⟨true, ht, iteT' ⟨fun σ4 H4 => ∃ env2 d2 F2, FS c Fb Hb env2 d2 F2 σ4 H4 ∧ SO c Fb Hb W D F2 H4 (whileLoop (fun env d => ev cf e env d) (fun env d => evS cf b env d) m env2 d2), fun σ4 H4 z => ⟨m, Nat.lt_succ_self m, z⟩, env2, d3, F3, fs3, ?_⟩⟩
        cases eb : evS cf b env2 d3 with
        | nx env5 d5 =>
          rw [eb] at so3
          exact fun σ5 H5 F5 l5 fs5 => ⟨env5, d5, F5, fs5, SO.le so3 l5⟩
        | rt v d5 => rw [eb] at so3; exact so3
        | er n d5 => rw [eb] at so3; exact so3
        | bad => rw [eb] at so3; exact so3
      · rename_i ht
        exact ⟨false, ht, iteF' (so3 _ _ _ le_refl fs3)⟩
      · exact so3.elim
  · cases h
theorem wf_die {F : Addr → Prop} {H : Hp} {d d2 : Dice} (w : Wf c F H d) : Wf c F (upd H c.dc (.lst [.int d2.1, .int d2.2])) d2 ∧ Step c.dc F H F (upd H c.dc (.lst [.int d2.1, .int d2.2])) := by
  have ne : ∀ b, b ≠ c.dc → upd H c.dc (.lst [.int d2.1, .int d2.2]) b = H b := fun b hb => upd_ne hb
  refine ⟨⟨fun b f => ?_, w.nd, upd_same, tabs_ext w.tabs fun b o e n => ?_⟩, fun _ h => h, fun _ h => .inl h, fun b o e n _ => ?_⟩
  · rw [ne b fun z => w.nd (z ▸ f)]; exact w.dom b f
  · rw [ne b fun z => by rw [z, w.die] at e; cases e; exact n _ rfl]; exact e
  · rw [ne b n]; exact e
theorem st_dst {i j : Nat} {e : E} {y : SSyn} (g : GF c ck cf k X W) (h : chkS ck X.env.scope (.dst i j e) y = true) : SndS c Fb Hb cf X W (.dst i j e) y := by
  simp only [chkS] at h
  split at h
  · simp only [Bool.and_eq_true] at h
    obtain ⟨⟨⟨⟨⟨⟨h1, h2⟩, h3⟩, h4⟩, h5⟩, h6⟩, h7⟩ := h
    have hi := of_decide_eq_true h1
    have hz := of_decide_eq_true h4
    have hj := of_decide_eq_true h5
    subst hz
    rename_i x _ _ _ _ v _
    have sw : ∀ tg l, (∀ n p, tg ≠ .Name n p) → swapsWithSole [tg] v l X.env = pure false := fun tg l ht => by
      cases v <;> first | rfl | (simp at h6)
    have sn : ∀ o ix p, swappedStores [.Subscript o ix p] v X.env = pure none := fun o ix p => by
      cases v <;> first | rfl | (simp at h6)
    refine PS.imp (ps_asg (sound e g.G g.tk _ h7).1 (pg_sub (pe_var (i := i) (by rw [g.G.N]; exact hi) (vis_of h2) (nm_of h3).1 (nm_of h3).2) pe_int set_list) (sw _ _ (by intro n p z; cases z)) (sn _ _ _) rfl) fun D σ H ⟨env, d, F, fs, so⟩ => ?_
    simp only [evS] at so
    split at so
    · rename_i he
      unfold Env.get at he
      split at he <;> cases he
      rename_i he
      refine ⟨env, d, F, fs.es, (so.out fs).imp fun x d1 F1 H1 st w so1 v dq => ?_⟩
      have fs1 := fs.step st w
      obtain ⟨u, e1, dqd⟩ := fs.es.sh i _ he
      cases dqd
      cases x <;> try (exact so1.elim)
      rename_i z
      cases dq
      refine ⟨_, e1, c.dc, [.int d1.1, .int d1.2], _, j, rfl, rfl, w.die, ?_, ?_⟩
      · rcases (show j = 0 ∨ j = 1 by omega) with z | z <;> subst z <;> rfl
      · rcases (show j = 0 ∨ j = 1 by omega) with z0 | z0 <;> subst z0
        · obtain ⟨w2, s2⟩ := wf_die (d2 := (z, d1.2)) w
          exact so1 σ _ F1 (s2.le w) (fs1.step s2 w2)
        · obtain ⟨w2, s2⟩ := wf_die (d2 := (d1.1, z)) w
          exact so1 σ _ F1 (s2.le w) (fs1.step s2 w2)
    · exact so.elim
  · cases h
theorem rep_ones {dc : Addr} {F : Addr → Prop} {H : Hp} (z : Int) : ∀ k : Nat, DqA dc F H (List.replicate k [V.int z]).flatten (List.replicate k (SG.D.int z))
  | 0 => .nil
  | k + 1 => by
    rw [List.replicate_succ, List.replicate_succ, List.flatten_cons]
    exact .cons (.int z) (rep_ones z k)
theorem st_ownR {i : Nat} {z : Int} {e : E} {y : SSyn} (g : GF c ck cf k X W) (h : chkS ck X.env.scope (.ownR i z e) y = true) : SndS c Fb Hb cf X W (.ownR i z e) y := by
  simp only [chkS] at h
  split at h
  · simp only [Bool.and_eq_true] at h
    obtain ⟨⟨⟨h1, h2⟩, h3⟩, h4⟩ := h
    have hi := of_decide_eq_true h1
    have hz := (of_decide_eq_true h3).symm
    subst hz
    refine PS.imp (ps_set (i := i) (by rw [g.G.N]; exact g.G.nd) (by rw [g.G.N]; exact hi) (g.tg _ h2).1 (pe_op op_rep (pe_lst (pa_cons pe_int pa_nil rfl)) (sound e g.G g.tk _ h4).1) rfl (g.tg _ h2).2) fun D σ H ⟨env, d, F, fs, so⟩ => ?_
    simp only [evS] at so
    refine ⟨(show 1 ≤ sizeLine by decide), fun p hp => ?_⟩
    have fs0 := fs.step (.new' (o := .lst [.int z]) hp) (fs.es.wf.new' hp)
    refine ⟨env, d, F, fs0.es, ((SO.le so (le_new hp)).out fs0).imp fun x d1 F1 H1 st w so1 v dq => ?_⟩
    have fs1 := fs0.step st w
    cases x <;> try (exact so1.elim)
    rename_i n
    cases dq
    dsimp only at so1
    split at so1
    · rename_i hn
      rw [Bool.and_eq_true, decide_eq_true_eq, decide_eq_true_eq] at hn
      obtain ⟨env', e2, so2⟩ := so1.ofE
      have hp1 := st.keep p _ (show upd H p (.lst [V.int z]) p = some (.lst [V.int z]) from upd_same) (fs.es.wf.fresh_ne hp) (by intro ps z; cases z)
      refine ⟨p, n, _, rfl, rfl, hp1, by omega, by omega, ?_, fun q hq => ?_⟩
      · rw [sizeLine_eq]; show 1 * n.toNat ≤ _; omega
      · exact so2 _ _ F1 (le_new hq) (fs1.putL (rep_ones _ _) hq e2)
    · exact so1.elim
  · cases h
theorem st_aug {i : Nat} {e : E} {y : SSyn} (g : GF c ck cf k X W) (h : chkS ck X.env.scope (.aug i e) y = true) : SndS c Fb Hb cf X W (.aug i e) y := by
  simp only [chkS] at h
  split at h
  · simp only [Bool.and_eq_true] at h
    obtain ⟨⟨h1, h2⟩, h3⟩ := h
    have hi := of_decide_eq_true h1
    refine PS.imp (ps_aug (i := i) (by rw [g.G.N]; exact g.G.nd) (by rw [g.G.N]; exact hi) (g.tg _ h2).1 (sound e g.G g.tk _ h3).1 ip_add (g.tg _ h2).2) fun D σ H ⟨env, d, F, fs, so⟩ => ?_
    simp only [evS] at so
    split at so
    · rename_i a0 he
      unfold Env.get at he
      split at he <;> cases he
      rename_i he
      obtain ⟨u, e1, dqd⟩ := fs.es.sh i _ he
      cases dqd
      refine ⟨_, e1, env, d, F, fs.es, (so.out fs).imp fun x d1 F1 H1 st w so1 v dq => ?_⟩
      have fs1 := fs.step st w
      cases x <;> try (exact so1.elim)
      rename_i z
      cases dq
      obtain ⟨env', e2, so2⟩ := so1.ofE
      exact ⟨_, _, rfl, rfl, so2 _ H1 F1 ⟨fun _ h => h, fun _ _ _ h => h, fun _ _ h => h⟩ (fs1.put (.int _) e2)⟩
    · exact so.elim
  · cases h
theorem st_sti {i : Nat} {a e : E} {y : SSyn} (g : GF c ck cf k X W) (h : chkS ck X.env.scope (.sti i a e) y = true) : SndS c Fb Hb cf X W (.sti i a e) y := by
  simp only [chkS] at h
  split at h
  · simp only [Bool.and_eq_true] at h
    obtain ⟨⟨⟨⟨⟨⟨h1, h2⟩, h3⟩, h4⟩, h5⟩, h6⟩, h7⟩ := h
    have hi := of_decide_eq_true h1
    rename_i x px ix sp v pos
    have hb : swB X.env.scope v (.Subscript (.Name x px) ix sp) = false := by cases v <;> rfl
    refine PS.imp (ps_asg (sound e g.G g.tk _ h6).1 (pg_sub (pe_var (i := i) (by rw [g.G.N]; exact hi) (vis_of h2) (nm_of h3).1 (nm_of h3).2) (sound a g.G g.tk _ h7).1 set_list (by intro _; cases ix <;> first | rfl | (simp [notSlice] at h5))) ((sw_eq (X := X) (v := v) (tg := .Subscript (.Name x px) ix sp) (l := pos.line) g.kind h4).trans (by rw [hb])) (swN_eq (by cases v <;> rfl)) rfl) fun D σ H ⟨env, d, F, fs, so⟩ => ?_
    simp only [evS] at so
    refine ⟨env, d, F, fs.es, (so.out fs).imp fun x d1 F1 H1 st w so1 v dq => ?_⟩
    have fs1 := fs.step st w
    cases eo : env.getO i with
    | none =>
      rw [eo] at so1
      exact so1.elim
    | some xs =>
      rw [eo] at so1
      dsimp only at so1
      have e0 := getO_some eo
      obtain ⟨p, vs, e1, hp, r, nf, nd⟩ := fs1.es.ow i xs e0
      refine ⟨_, e1, env, d1, F1, fs1.es, (so1.out fs1).imp fun y d2 F2 H2 st2 w2 so2 u dq2 => ?_⟩
      have fs2 := fs1.step st2 w2
      have hp2 : H2 p = some (.lst vs) := st2.keep p _ hp nd (by intro ps z; cases z)
      cases y <;> try (exact so2.elim)
      rename_i z
      cases dq2
      dsimp only at so2
      cases ej : ixP xs.length z with
      | none => rw [ej] at so2; exact so2.elim
      | some j =>
        rw [ej] at so2
        dsimp only at so2
        obtain ⟨env', e2, so3⟩ := so2.ofE
        obtain ⟨f3, l3⟩ := fs2.change e0 e1 hp2 (DqA.set (dq.mono (st2.le fs1.es.wf)) j (r.mono (st2.le fs1.es.wf))) e2
        exact ⟨p, vs, z, j, rfl, rfl, hp2, by rw [r.length]; rw [← ixP_eq]; exact ej, so3 _ _ _ l3 f3⟩
  · cases h
theorem soundS (g : GF c ck cf k X W) (s : S) : ∀ y, chkS ck X.env.scope s y = true → SndS c Fb Hb cf X W s y := by
  induction s with
  | nil =>
    intro y h
    simp only [chkS] at h
    split at h
    · exact PSs.imp pss_nil fun D σ H ⟨env, d, F, fs, so⟩ => by
        simp only [evS] at so
        exact so σ H F le_refl fs
    · cases h
  | seq a r iha ihr =>
    intro y h
    simp only [chkS] at h
    split at h
    · split at h
      · rename_i l _ i hf
        cases a <;> try (simp [isFrz] at hf; done)
        rename_i i'
        refine PSs.imp (ihr (.many l) h) fun D σ H ⟨env, d, F, fs, so⟩ => ?_
        simp only [evS] at so
        cases eo : env.getO i' with
        | none => rw [eo] at so; exact so.elim
        | some xs =>
          rw [eo] at so
          dsimp only at so
          cases ep : env.put i' (.sh (.lst xs)) with
          | none => rw [ep] at so; exact so.elim
          | some env1 =>
            rw [ep] at so
            obtain ⟨F1, fs1, l1⟩ := fs.frz (getO_some eo) ep
            exact ⟨env1, d, F1, fs1, SO.le so l1⟩
      · split at h
        · rw [Bool.and_eq_true] at h
          refine PSs.imp (pss_cons (iha (.one _) h.1) (ihr (.many _) h.2)) fun D σ H ⟨env, d, F, fs, so⟩ => ?_
          simp only [evS] at so
          refine ⟨env, d, F, fs, ?_⟩
          cases eb : evS cf a env d with
          | nx env5 d5 =>
            rw [eb] at so
            exact fun σ5 H5 F5 l5 fs5 => ⟨env5, d5, F5, fs5, SO.le so l5⟩
          | rt v d5 => rw [eb] at so; exact so
          | er n d5 => rw [eb] at so; exact so
          | bad => rw [eb] at so; exact so
        · cases h
    · cases h
  | set tg e => intro y h; exact st_set g h
  | own i => intro y h; exact st_own g h
  | par i j a b => intro y h; exact st_par g h
  | parO i j a => intro y h; exact st_parO g h
  | par3 i j l a b e => intro y h; exact st_par3 g h
  | nev =>
    intro y h
    cases y with
    | one st => exact PS.imp ps_never fun D σ H ⟨env, d, F, fs, so⟩ => by simp only [evS] at so; exact so
    | many l => exact PSs.imp pss_never fun D σ H ⟨env, d, F, fs, so⟩ => by simp only [evS] at so; exact so
  | app i e => intro y h; exact st_app g h
  | ret e =>
    intro y h
    simp only [chkS] at h
    split at h
    · exact PS.imp (ps_ret (sound e g.G g.tk _ h).1) fun D σ H ⟨env, d, F, fs, so⟩ => by
        simp only [evS] at so
        exact ⟨env, d, F, fs.es, (so.out fs).imp fun x d1 F1 H1 st w so1 v dq => so1 v H1 F1 (fs.st.trans st) w dq⟩
    · cases h
  | ifs e a b iha ihb =>
    intro y h
    simp only [chkS] at h
    split at h
    · simp only [Bool.and_eq_true] at h
      obtain ⟨⟨h1, h2⟩, h3⟩ := h
      refine PS.imp (ps_if (sound e g.G g.tk _ h1).2 (iha (.many _) h2) (ihb (.many _) h3)) fun D σ H ⟨env, d, F, fs, so⟩ => ?_
      simp only [evS] at so
      refine ⟨env, d, F, fs.es, (so.out fs).imp fun x d1 F1 H1 st w so1 => ?_⟩
      have fs1 := fs.step st w
      split at so1
      · rename_i ht; exact ⟨true, ht, iteT' ⟨env, d1, F1, fs1, so1⟩⟩
      · rename_i ht; exact ⟨false, ht, iteF' ⟨env, d1, F1, fs1, so1⟩⟩
      · exact so1.elim
    · cases h
  | fors tg it b ihb => intro y h; exact st_for g ihb h
  | whl n e b ihb => intro y h; exact st_whl g ihb h
  | ex e =>
    intro y h
    simp only [chkS] at h
    split at h
    · rw [Bool.and_eq_true] at h
      rename_i v p
      refine PS.imp (ps_expr (sound e g.G g.tk _ h.2).1 ?_) fun D σ H ⟨env, d, F, fs, so⟩ => ?_
      · have := h.1
        cases v <;> first | rfl | (simp at this)
      · simp only [evS] at so
        exact ⟨env, d, F, fs.es, (so.out fs).imp fun x d1 F1 H1 st w so1 v dq => so1 σ H1 F1 le_refl (fs.step st w)⟩
    · cases h
  | ownR i z e => intro y h; exact st_ownR g h
  | aug i e => intro y h; exact st_aug g h
  | sti i a e => intro y h; exact st_sti g h
  | dst i j e => intro y h; exact st_dst g h
  | rse j =>
    intro y h
    simp only [chkS] at h
    split at h
    · rw [Bool.and_eq_true] at h
      have R := g.cls j _ (of_decide_eq_true h.1)
      refine PS.imp (L2N.ps_raise g.G.calm g.tk (L2N.pmk_own PySem.F.excBase_ValueError R.ex R.mg R.kp (raises_own R.sb R.ty) (gl_of h.2) R.db)) fun D σ H ⟨env, d, F, fs, so⟩ => ?_
      simp only [evS] at so
      exact so σ H F fs.st fs.es.wf
    · cases h
  | _ => intro y h; simp [chkS] at h
end
end SG
namespace SG
open PySem PySem.Spec PyProof.Rows L2
structure TD where
  nm : Str
  st : Stmt
  N : List Str
  df : Df
abbrev Tb := List (Nat × TD)
def Tb.at (tb : Tb) (i : Nat) : Option TD := (tb.find? fun p => p.1 == i).map (·.2)
def Tb.fnm (tb : Tb) : Nat → Option Str := fun i => (tb.at i).map (·.nm)
theorem Tb.mem {tb : Tb} {i : Nat} {td : TD} (h : tb.at i = some td) : (i, td) ∈ tb := by
  unfold Tb.at at h
  cases e : tb.find? (fun p => p.1 == i) with
  | none => rw [e] at h; cases h
  | some p =>
    rw [e] at h
    cases h
    have h1 := List.mem_of_find?_eq_some e
    have h2 : (p.1 == i) = true := List.find?_some (p := fun p : Nat × TD => p.1 == i) e
    have h3 : p.1 = i := by simpa using h2
    rw [← h3]; exact h1
def scB (N P : List Str) (sc : Scope) : Bool :=
  decide (sc.kind = .function) && !sc.isCoroutine && !sc.isGenerator && decide N.Nodup && decide (N.take P.length = P) && P.all (fun x => decide (sc.names.lookup x = some .local) || decide (sc.names.lookup x = some .cell)) && sc.names.all (fun y => !decide (y.2 = .free))
theorem scB_ok {N P : List Str} {sc : Scope} (h : scB N P sc = true) : FnScope N P sc := by
  unfold scB at h
  simp only [Bool.and_eq_true, Bool.not_eq_true', decide_eq_true_eq, List.all_eq_true, Bool.or_eq_true, decide_eq_false_iff_not] at h
  obtain ⟨⟨⟨⟨⟨⟨h1, h2⟩, h3⟩, h4⟩, h5⟩, h6⟩, h7⟩ := h
  exact ⟨h1, h2, h3, h4, h5, h6, h7⟩
def TD.ok (td : TD) (fnm er : Nat → Option Str) : Bool :=
  scB td.N (td.N.take td.df.ps) (defScope td.st) && decide (td.N.length = td.df.n) && decide (td.df.ps ≤ td.df.n) && !(td.nm == ("__debug__" : Str)) && chkS ⟨td.N, fnm, er, false⟩ (defScope td.st) td.df.body (.many (defBody td.st))
structure Mods (tb : Tb) (er : Nat → Option Str) (cl : Nat → Addr) (K : PySem.W.Frag) (mg : Str → Option Value) : Prop where
  ok : ∀ p ∈ tb, p.2.ok tb.fnm er = true
  cls : ∀ j nm, er j = some nm → RaiseF cl K mg j nm
  blt : ∀ x ∈ bltNames, mg (Str.ofString x) = none
  fns : ∀ p ∈ tb, ∃ f fd, Fun K p.2.nm p.2.nm p.2.st f fd ∧ mg p.2.nm = some (.ref f) ∧ Binds K fd (p.2.N.take p.2.df.ps) []
section
variable {P : Program} {w : World} {K : PySem.W.Frag} {mg : Str → Option Value} {base : Heap} {tb : Tb} {c : Cn} {er : Nat → Option Str} {cl : Nat → Addr}
theorem start_es {F : Addr → Prop} {H : Hp} {d : Dice} {vs : List V} {xs : List D} {N : List Str} {n : Nat} (w : Wf c F H d) (r : DqA c.dc F H vs xs) (hn : N.length = n) (hl : xs.length ≤ n) : ES c (startE n xs) d F (L2.start N vs) H := by
  have el := r.length
  have key : ∀ (i : Nat) s, s ≠ Sl.no → (startE n xs)[i]? = some s → ∃ x, s = .sh x ∧ xs[i]? = some x := fun i s hs e => by
    unfold startE at e
    rw [List.getElem?_append] at e
    split at e
    · rw [List.getElem?_map] at e
      cases ex : xs[i]? with
      | none => rw [ex] at e; cases e
      | some x => rw [ex] at e; cases e; exact ⟨x, rfl, rfl⟩
    · rw [List.getElem?_replicate] at e
      split at e <;> cases e
      exact absurd rfl hs
  refine ⟨w, ?_, fun i x e => ?_, fun i ys e => ?_, fun i j ys zs p e => ?_⟩
  · unfold startE L2.start
    simp [el, hn]
  · obtain ⟨x', e1, e2⟩ := key i _ (by simp) e
    cases e1
    obtain ⟨v, e3, q⟩ := r.get e2
    refine ⟨v, ?_, q⟩
    unfold L2.start
    have hlt : i < vs.length := by
      rw [el]
      exact (List.getElem?_eq_some_iff.mp e2).1
    rw [List.getElem?_append_left (by simpa using hlt), List.getElem?_map, e3]; rfl
  · obtain ⟨x', e1, e2⟩ := key i _ (by simp) e
    cases e1
  · obtain ⟨x', e1, e2⟩ := key i _ (by simp) e
    cases e1
theorem okN {x qual : Str} {st : Stmt} {f : Addr} {fd : FuncData} {N ps : List Str} {k : Nat} {sp : Sp} (F : Fun K x qual st f fd) (S : FnScope N ps (defScope st)) (len : ∀ vs H Q E, sp vs H Q E → vs.length = ps.length)
    (hbody : ∀ (cdv : Value) (A : Around) (outer : List PySem.Env) (s : Shared) (H : Hp) (vs : List V) (Q : VK) (E : XK), fd.code = cdv → Room k (A.deeper (envOfC qual (defScope st) s.heap.objs.size f cdv)) → sp vs H Q E →
      ∃ t, PSs (cxOf (L2N.CX P w) P w K mg base N qual (defScope st) f cdv A outer s H E) (defBody st) t ∧ t { nx := fun _ H' => Q .non H', rt := Q } (L2.start N vs) H) : FnOk P w K mg base (L2N.CX P w) (k + 1) f fd ps sp := by
  obtain ⟨oc, od, kV, doc, pm, an, cdv, ct, osl, rfl, lk, hcd⟩ := F.ex
  exact fn_of lk hcd S len fun A outer s H vs Q E hr hsp => hbody cdv A outer s H vs Q E rfl hr hsp
theorem cx_gf {td : TD} {qual : Str} {scope : Scope} {f : Addr} {cdv : Value} {A : Around} {outer : List PySem.Env} {s : Shared} {H : Hp} {E : XK} {k : Nat} {cf : CF} {N ps : List Str} (S : FnScope N ps scope) (hr : Room k (A.deeper (envOfC qual scope s.heap.objs.size f cdv)))
    (blt : ∀ x ∈ bltNames, mg (Str.ofString x) = none) (hcl : ∀ j nm, er j = some nm → RaiseF c.cl K mg j nm) {lam : Bool}
    (fns : ∀ i nm, tb.fnm i = some nm → (nm == ("__debug__" : Str)) = false ∧ ∃ fa fd ps, mg nm = some (.ref fa) ∧ PySem.W.keepIn K (.ref fa) = true ∧ Binds K fd ps [] ∧ FnOk P w K mg base (L2N.CX P w) k fa fd ps (spF c cf i))
    (hlam : lam = true → CodeF c (cxOf (L2N.CX P w) P w K mg base N qual scope f cdv A outer s H E) ∧ Room (k + 2) (A.deeper (envOfC qual scope s.heap.objs.size f cdv)) ∧ ToldR c k P w K mg base) :
    GF c ⟨N, tb.fnm, er, lam⟩ cf k (cxOf (L2N.CX P w) P w K mg base N qual scope f cdv A outer s H E) (fun cls d _ H' => E cls d H') := by
  refine ⟨⟨rfl, S.nd, rfl, hr, blt, fns, hlam⟩, S.kind, fun x h => ⟨loc_of h, .inl rfl⟩, L2N.takes_of rfl rfl rfl rfl, passes_of rfl, hcl⟩
theorem fns_ok {defs : Nat → Option Df} (M : Mods tb er cl K mg) (hD : ∀ p ∈ tb, defs p.1 = some p.2.df) : ∀ (c : Cn), c.cl = cl → ∀ (k i : Nat) (nm : Str), tb.fnm i = some nm → (nm == ("__debug__" : Str)) = false ∧ ∃ fa fd ps, mg nm = some (.ref fa) ∧ PySem.W.keepIn K (.ref fa) = true ∧ Binds K fd ps [] ∧ FnOk P w K mg base (L2N.CX P w) k fa fd ps (spF c (evCall defs k) i) := by
  intro c hcc k
  induction k with
  | zero =>
    intro i nm h
    unfold Tb.fnm at h
    cases e : tb.at i with
    | none => rw [e] at h; cases h
    | some td =>
      rw [e] at h
      cases h
      have hm := Tb.mem e
      have ok : td.ok tb.fnm er = true := M.ok (i, td) hm
      unfold TD.ok at ok
      simp only [Bool.and_eq_true, Bool.not_eq_true'] at ok
      obtain ⟨⟨⟨⟨h1, h2⟩, h3⟩, h4⟩, h5⟩ := ok
      obtain ⟨f, fd, F, m, b⟩ := M.fns (i, td) hm
      refine ⟨h4, f, fd, _, m, F.kp, b, ⟨fun vs H Q E h => ?_, fun A outer s H args us vs Q E _ _ _ _ h => ?_⟩⟩
      · obtain ⟨F, d, xs, _, _, h⟩ := h
        exact h.elim
      · obtain ⟨F, d, xs, _, _, h⟩ := h
        exact h.elim
  | succ k ih =>
    intro i nm h
    unfold Tb.fnm at h
    cases e : tb.at i with
    | none => rw [e] at h; cases h
    | some td =>
      rw [e] at h
      cases h
      have hm := Tb.mem e
      have ok : td.ok tb.fnm er = true := M.ok (i, td) hm
      unfold TD.ok at ok
      simp only [Bool.and_eq_true, Bool.not_eq_true'] at ok
      obtain ⟨⟨⟨⟨h1, h2⟩, h3⟩, h4⟩, h5⟩ := ok
      have hN := of_decide_eq_true h2
      have hps := of_decide_eq_true h3
      obtain ⟨f, fd, F, m, b⟩ := M.fns (i, td) hm
      have hdf : defs i = some td.df := hD (i, td) hm
      have hpl : (td.N.take td.df.ps).length = td.df.ps := by rw [List.length_take]; omega
      have S := scB_ok h1
      refine ⟨h4, f, fd, _, m, F.kp, b, okN F S (fun vs H Q E h => ?_) fun cdv A outer s H vs Q E _ hr h => ?_⟩
      · obtain ⟨F', d, xs, _, r, h⟩ := h
        rw [hpl, r.length]
        simp only [evCall, hdf] at h
        by_cases hz : xs.length = td.df.ps
        · exact hz
        · rw [if_neg hz] at h; exact h.elim
      · obtain ⟨F', d, xs, wf, r, h⟩ := h
        simp only [evCall, hdf] at h
        by_cases hz : xs.length = td.df.ps
        · rw [if_pos hz] at h
          have gf := cx_gf (P := P) (w := w) (K := K) (mg := mg) (base := base) (tb := tb) (c := c) (td := td) (cf := evCall defs k) (E := E) (outer := outer) (H := H) (lam := false) S hr M.blt (fun j nm h => hcc ▸ M.cls j nm h) ih (fun z => by cases z)
          refine ⟨fun D σ H2 => ∃ Fb Hb, tS c Fb Hb (evCall defs k) (fun cls d _ H' => E cls d H') td.df.body D σ H2, ⟨fun pins s2 σ H2 D I ⟨Fb, Hb, q⟩ => (soundS (Fb := Fb) (Hb := Hb) gf td.df.body (.many (defBody td.st)) h5).run pins s2 σ H2 D I q⟩, F', H, startE td.df.n xs, d, F', ⟨start_es wf r hN (by omega), .refl, fun i ys p e1 _ => ?_⟩, ?_⟩
          · have es := start_es (N := td.N) wf r hN (by omega)
            exfalso
            unfold startE at e1
            rw [List.getElem?_append] at e1
            split at e1
            · rw [List.getElem?_map] at e1
              cases ex : xs[i]? <;> rw [ex] at e1 <;> cases e1
            · rw [List.getElem?_replicate] at e1
              split at e1 <;> cases e1
          · cases eo : evS (evCall defs k) td.df.body (startE td.df.n xs) d with
            | nx env' d' =>
              rw [eo] at h
              exact fun σ' H' F2 _ fs => h _ H' F2 fs.st fs.es.wf .non
            | rt v d' =>
              rw [eo] at h
              exact fun v' H' F2 st w dq => h v' H' F2 st w dq
            | er n d' =>
              rw [eo] at h
              exact fun σ' H' F2 st w => h H' F2 st w
            | bad => rw [eo] at h; exact h
        · rw [if_neg hz] at h
          exact h.elim
end
end SG
namespace SG
open PySem PySem.Spec PyProof.Rows L2
def isCell : List Stmt → Bool
  | [.If (.Compare (.Name a1 _) [.Eq] [.List [] _] _) [.Return (some (.BinOp (.Name b1 _) .Mult (.Constant (.int 7919) _ _) _)) _] [] _,
     .Return (some (.BinOp (.Subscript (.Name a2 _) (.BinOp (.Name b2 _) .Mod (.Call (.Name l1 _) [.Name a3 _] [] _) _) _) .Add (.BinOp (.BinOp (.Name b3 _) .FloorDiv (.Call (.Name l2 _) [.Name a4 _] [] _) _) .Mult (.Constant (.int 104729) _ _) _) _)) _] =>
    decide (a1 = "script") && decide (a2 = "script") && decide (a3 = "script") && decide (a4 = "script") && decide (b1 = "k") && decide (b2 = "k") && decide (b3 = "k") && decide (l1 = "len") && decide (l2 = "len")
  | _ => false
def cellN : List Str := ["script", "k"]
def roundsN : List Str := ["script", "most", "k"]
def spC (K : PySem.W.Frag) : Sp := fun vs H Q _ => ∃ (a : Addr) (ns : List Int) (k : Int), vs = [.ref a, .int k] ∧ SqL K H a (ns.map V.int) ∧ 0 ≤ k ∧ k < 1000 ∧ ns.length ≤ 1000 ∧ ∀ z H', Same H H' → Q (.int z) H'
theorem ints_dp {K : PySem.W.Frag} {H : Hp} : ∀ ns : List Int, DpAll K H (ns.map V.int) (ns.map PyData.int)
  | [] => .nil
  | n :: r => .cons (.int n) (ints_dp r)
theorem ints_lay : ∀ ns : List Int, PyData.canLayAll0 (ns.map PyData.int) = true
  | [] => by simp [PyData.canLayAll0]
  | n :: r => by simp [PyData.canLayAll0, PyData.canLay0, ints_lay r]
theorem ints_dep : ∀ ns : List Int, PyData.depthAll (ns.map PyData.int) ≤ 1
  | [] => by simp [PyData.depthAll]
  | n :: r => by
    have := ints_dep r
    simp [PyData.depthAll, PyData.depth]
    omega
theorem ints_shaped (ns : List Int) : SeqAt.shaped (.list (ns.map PyData.int)) = true := by
  unfold SeqAt.shaped
  have := ints_dep ns
  rw [Bool.and_eq_true]
  refine ⟨by simp [PyData.canLay0, ints_lay], decide_eq_true ?_⟩
  simp only [PyData.depth]
  omega
section
variable {P : Program} {w : World} {K : PySem.W.Frag} {mg : Str → Option Value} {base : Heap}
theorem ok_cell {st : Stmt} {f : Addr} {fd : FuncData} {k : Nat} (F : Fun K "_law_cell" "_law_cell" st f fd) (S : FnScope cellN cellN (defScope st)) (hb : isCell (defBody st) = true) (hl : (defScope st).names.lookup ("len" : Str) = some .globalImplicit) (ml : mg "len" = none) :
    FnOk P w K mg base (L2N.CX P w) (k + 1) f fd cellN (spC K) := by
  refine okN F S (fun vs H Q E h => ?_) fun cdv A outer s H vs Q E _ hr h => ?_
  · obtain ⟨a, ns, z, rfl, _⟩ := h; rfl
  · obtain ⟨a, ns, z, rfl, hS, h0, h1, hlen, q⟩ := h
    unfold isCell at hb
    split at hb
    · rename_i hbe
      simp only [Bool.and_eq_true, decide_eq_true_eq] at hb
      obtain ⟨⟨⟨⟨⟨⟨⟨⟨e1, e2⟩, e3⟩, e4⟩, e5⟩, e6⟩, e7⟩, e8⟩, e9⟩ := hb
      subst e1 e2 e3 e4 e5 e6 e7 e8 e9
      rw [hbe]
      generalize hX : cxOf (L2N.CX P w) P w K mg base cellN "_law_cell" (defScope st) f cdv A outer s H E = X
      have XN : X.N = cellN := by rw [← hX]; rfl
      have XK' : X.K = K := by rw [← hX]; rfl
      have Xm : X.mg = mg := by rw [← hX]; rfl
      have v0 : Vis X.env.scope "script" := by rw [← hX]; rcases S.par "script" (by decide) with h | h; exact .inl h; exact .inr (.inl h)
      have v1 : Vis X.env.scope "k" := by rw [← hX]; rcases S.par "k" (by decide) with h | h; exact .inl h; exact .inr (.inl h)
      have g : Gl X "len" := by rw [← hX]; exact gl_of (by unfold glB; show (match (defScope st).names.lookup ("len" : Str) with | some .globalImplicit => true | _ => false) = true; rw [hl])
      have hu : X.A.units + 64 < cLine := by rw [← hX]; have := hr.un; show (A.deeper _).units + 64 < cLine; omega
      refine ⟨_, pss_cons (ps_if (pt_cmpR (op_eqD hu) (pe_var (i := 0) (by rw [XN]; rfl) v0) (pe_lst pa_nil) rfl) (pss_one (ps_ret (pe_op op_mul (pe_var (i := 1) (by rw [XN]; rfl) v1) pe_int))) pss_nil)
        (pss_one (ps_ret (pe_op op_add (pe_ix ix_seq (pe_var (i := 0) (by rw [XN]; rfl) v0) (pe_op op_mod (pe_var (i := 1) (by rw [XN]; rfl) v1) (pe_callB call_len g (by rw [Xm]; exact ml) PySem.boot_len (pa_cons (pe_var (i := 0) (by rw [XN]; rfl) v0) pa_nil))) (fun _ _ => rfl))
          (pe_op op_mul (pe_op op_fdiv (pe_var (i := 1) (by rw [XN]; rfl) v1) (pe_callB call_len g (by rw [Xm]; exact ml) PySem.boot_len (pa_cons (pe_var (i := 0) (by rw [XN]; rfl) v0) pa_nil))) pe_int)))), ?_⟩
      rw [XK']
      refine ⟨.ref a, rfl, by decide, fun p hp => ?_⟩
      have sm : Same H (upd H p (.lst [])) := fun b o e => upd_keep hp b o e
      refine ⟨_, .list [], .lst (sm.seq hS) (ints_dp ns), .lst (SqL.of upd_same) .nil, ints_shaped ns, ints_shaped [], _, rfl, ?_⟩
      cases ns with
      | nil =>
        have : PyData.eqv (.list (([] : List Int).map PyData.int)) (.list []) = true := by simp [PyData.eqv, PyData.eqvAll]
        rw [this]
        exact iteT' ⟨.int z, rfl, _, _, rfl, rfl, .inr ⟨by decide, by decide⟩, q _ _ sm⟩
      | cons n0 nr =>
        have : PyData.eqv (.list ((n0 :: nr).map PyData.int)) (.list []) = false := by simp [PyData.eqv, PyData.eqvAll]
        rw [this]
        refine iteF' ?_
        have hS2 := sm.seq hS
        have hL : LenV K (.ref a) (upd H p (.lst [])) ((n0 :: nr).map V.int).length := .inl ⟨_, hS2, rfl⟩
        have pos : 0 < (((n0 :: nr).map V.int).length : Int) := by first | (simp; done) | (simp; omega)
        have hlen' : (((n0 :: nr).map V.int).length : Int) < 1073741824 := by simp at hlen ⊢; omega
        have hi0 : 0 ≤ z % (((n0 :: nr).map V.int).length : Int) := Int.emod_nonneg _ (by omega)
        have hi1 : z % (((n0 :: nr).map V.int).length : Int) < (((n0 :: nr).map V.int).length : Int) := Int.emod_lt_of_pos _ pos
        obtain ⟨j, hj⟩ := Int.eq_ofNat_of_zero_le hi0
        have hj2 : j < (n0 :: nr).length := by rw [hj] at hi1; simp at hi1 ⊢; omega
        have hat : atI ((n0 :: nr).map V.int) (z % (((n0 :: nr).map V.int).length : Int)) = some (.int (n0 :: nr)[j]) := by
          rw [hj]
          refine atI_nat ?_
          rw [List.getElem?_map, List.getElem?_eq_getElem hj2]; rfl
        refine ⟨.ref a, rfl, .int z, rfl, .ref a, rfl, .ref a, _, rfl, hL, _, _, rfl, rfl, pos, .inl ⟨a, _, _, _, rfl, rfl, hS2, hat, ?_⟩⟩
        refine ⟨.int z, rfl, .ref a, rfl, .ref a, _, rfl, hL, _, _, rfl, rfl, ⟨pos, hlen'⟩, _, _, rfl, rfl, .inr ⟨by decide, by decide⟩, _, _, rfl, rfl, ?_⟩
        exact q _ _ sm
    · cases hb
def isRounds (sc : Scope) : List Stmt → Bool
  | [.Return (some (.ListComp (.List [.Call (.Name c1 _) [.Name a1 _, .Name k1 _] [] _, .Constant (.int 0) _ _] _) [⟨.Name k2 _, .Call (.Name r1 _) [.Call (.Name m1 _) [.Constant (.int 1) _ _, .Call (.Name n1 _) [.Name o1 _, .Call (.Name l1 _) [.Name a2 _] [] _] [] _] [] _] [] _, [], 0⟩] scope _)) _] =>
    decide (c1 = "_law_cell") && decide (a1 = "script") && decide (k1 = "k") && decide (k2 = "k") && decide (r1 = "range") && decide (m1 = "max") && decide (n1 = "min") && decide (o1 = "most") && decide (l1 = "len") && decide (a2 = "script") &&
      blkC roundsN sc scope [("k", 2)] && visB (relS scope sc) "script" && visB (relS scope sc) "k" && locB scope "k" && glB (relS scope sc) "_law_cell" && glB sc "range" && glB sc "max" && glB sc "min" && glB sc "len"
  | _ => false
def spR (K : PySem.W.Frag) : Sp := fun vs H Q _ => ∃ (a : Addr) (ns : List Int) (m : Int), vs = [.ref a, .int m] ∧ SqL K H a (ns.map V.int) ∧ ns.length ≤ 900 ∧ m ≤ 900 ∧
  ∀ (R : Addr) (ps : List Addr) (H' : Hp), Same H H' → H' R = some (.lst (ps.map V.ref)) → R ∉ ps → ps.Nodup → (∀ p ∈ ps, ∃ z, H' p = some (.lst [.int z, .int 0])) → Q (.ref R) H'
theorem ok_rounds {st : Stmt} {f fC : Addr} {fd fdC : FuncData} {k : Nat} (F : Fun K "_law_rounds" "_law_rounds" st f fd) (S : FnScope roundsN ["script", "most"] (defScope st)) (hb : isRounds (defScope st) (defBody st) = true)
    (FC : FnOk P w K mg base (L2N.CX P w) k fC fdC cellN (spC K)) (mC : mg "_law_cell" = some (.ref fC)) (kC : PySem.W.keepIn K (.ref fC) = true) (bC : Binds K fdC cellN []) (blt : ∀ x ∈ bltNames, mg (Str.ofString x) = none) :
    FnOk P w K mg base (L2N.CX P w) (k + 1) f fd ["script", "most"] (spR K) := by
  refine okN F S (fun vs H Q E h => ?_) fun cdv A outer s H vs Q E _ hr h => ?_
  · obtain ⟨a, ns, z, rfl, _⟩ := h; rfl
  · obtain ⟨a, ns, m, rfl, hS, hlen, hm, q⟩ := h
    unfold isRounds at hb
    split at hb
    · rename_i hbe
      simp only [Bool.and_eq_true, decide_eq_true_eq] at hb
      obtain ⟨⟨⟨⟨⟨⟨⟨⟨⟨⟨⟨⟨⟨⟨⟨⟨⟨⟨e1, e2⟩, e3⟩, e4⟩, e5⟩, e6⟩, e7⟩, e8⟩, e9⟩, e10⟩, g1⟩, g2⟩, g3⟩, g4⟩, g5⟩, g6⟩, g7⟩, g8⟩, g9⟩ := hb
      subst e1 e2 e3 e4 e5 e6 e7 e8 e9 e10
      rw [hbe]
      rename_i scope _ _
      generalize hX : cxOf (L2N.CX P w) P w K mg base roundsN "_law_rounds" (defScope st) f cdv A outer s H E = X
      have XN : X.N = roundsN := by rw [← hX]; rfl
      have XK' : X.K = K := by rw [← hX]; rfl
      have Xm : X.mg = mg := by rw [← hX]; rfl
      have Xs : X.env.scope = defScope st := by rw [← hX]; rfl
      have Xc : X.calm = true := by rw [← hX]; rfl
      have XA : Room k X.A := by rw [← hX]; exact hr
      have FC' : FnOk X.prog X.w X.K X.mg X.base (L2N.CX X.prog X.w) k fC fdC cellN (spC X.K) := by rw [← hX]; exact FC
      have v0 : Vis X.env.scope "script" := by rw [Xs]; rcases S.par "script" (by decide) with h | h; exact .inl h; exact .inr (.inl h)
      have v1 : Vis X.env.scope "most" := by rw [Xs]; rcases S.par "most" (by decide) with h | h; exact .inl h; exact .inr (.inl h)
      have gl : ∀ x, glB (defScope st) x = true → Gl X x := fun x h => gl_of (by rw [Xs]; exact h)
      have bN : ∀ x ∈ bltNames, X.mg (Str.ofString x) = none := by rw [Xm]; exact blt
      have nd : X.N.Nodup := by rw [XN]; decide
      refine ⟨_, pss_one (ps_ret (pe_lc (own := [("k", 2)]) (g := gName 2) (tt := tYes) Xc nd
        (pi_range1 (gl _ g6) (bN "range" (by decide)) (pa_cons (pe_callB (call_max2 Xc) (gl _ g7) (bN "max" (by decide)) (by decide +kernel) (pa_cons pe_int (pa_cons (pe_callB (call_min2 Xc) (gl _ g8) (bN "min" (by decide)) (by decide +kernel)
          (pa_cons (pe_var (i := 1) (by rw [XN]; rfl) v1) (pa_cons (pe_callB call_len (gl _ g9) (bN "len" (by decide)) PySem.boot_len (pa_cons (pe_var (i := 0) (by rw [XN]; rfl) v0) pa_nil)) pa_nil))) pa_nil))) pa_nil))
        (by rw [XN, Xs]; exact blkOk_by g1)
        (fun s H C cl fp => by
          have tk := (tgOk_blk (X := X) (s := s) (H := H) (scope := scope) (cl := cl) (C := C) (fp := fp)) "k" g4
          exact pg_name (i := 2) nd (by rw [show (X.blk s H scope (compEnvC scope cl C X.env) fp).N = X.N from rfl, XN]; rfl) tk.1 tk.2)
        (fun s H C cl fp => pts_nil)
        (fun s H C cl fp => by
          have es : (X.blk s H scope (compEnvC scope cl C X.env) fp).env.scope = relS scope (defScope st) := by rw [← Xs]; rfl
          have bN : (X.blk s H scope (compEnvC scope cl C X.env) fp).N = roundsN := XN
          exact pe_lst (pa_cons (pe_callS (X := X.blk s H scope (compEnvC scope cl C X.env) fp) FC' XA (gl_of (by rw [es]; exact g5)) (show X.mg _ = _ by rw [Xm]; exact mC) (show PySem.W.keepIn X.K _ = true by rw [XK']; exact kC) (show Binds X.K _ _ _ by rw [XK']; exact bC) (fun σ => L2N.passAt takes0 σ)
            (pa_cons (pe_var (i := 0) (by rw [bN]; rfl) (vis_of (by rw [es]; exact g2))) (pa_cons (pe_var (i := 2) (by rw [bN]; rfl) (vis_of (by rw [es]; exact g3))) pa_nil))) (pa_cons pe_int pa_nil))))), ?_⟩
      refine ⟨.int m, rfl, .ref a, rfl, ?_⟩
      rw [XK']
      refine ⟨.ref a, _, rfl, .inl ⟨_, hS, rfl⟩, _, _, rfl, _, _, rfl, ?_⟩
      generalize hj : (if (if (((ns.map V.int).length : Nat) : Int) < m then (((ns.map V.int).length : Nat) : Int) else m) > 1 then (if (((ns.map V.int).length : Nat) : Int) < m then (((ns.map V.int).length : Nat) : Int) else m) else 1) = j
      have hj0 : 0 ≤ j ∧ j ≤ 1000 := by
        rw [← hj]
        simp only [List.length_map]
        split <;> split <;> omega
      refine ⟨j, rfl, by omega, by omega, fun D hD => ?_⟩
      refine lc_range (fun i H' => ∃ ps : List Addr, Same H H' ∧ H' D = some (.lst (ps.map V.ref)) ∧ D ∉ ps ∧ ps.Nodup ∧ (∀ p ∈ ps, ∃ z, H' p = some (.lst [.int z, .int 0])) ∧ ps.length = i) ⟨[], fun b o e => upd_keep hD b o e, upd_same, by simp, by simp, by simp, rfl⟩ ?_ ?_
      · rintro i H' hi ⟨ps, sm, hd, nD, np, hp, hl⟩
        refine ⟨rfl, ?_⟩
        unfold tYes
        dsimp only
        rw [if_pos rfl]
        refine ⟨_, rfl, _, rfl, a, ns, _, rfl, sm.seq hS, by omega, by omega, by omega, fun z H2 sm2 => ?_⟩
        refine ⟨by show 2 ≤ sizeLine; decide, fun p fp => ?_⟩
        have hd2 := sm2 _ _ hd
        have nDp : D ≠ p := ne_of_none hd2 fp
        have npp : p ∉ ps := fun z => by
          obtain ⟨z1, e⟩ := hp p z
          rw [sm2 _ _ e] at fp; cases fp
        refine ⟨ps.map V.ref, by rw [upd_ne nDp]; exact hd2, ?_, ps ++ [p], fun b o e => ?_, by rw [upd_same]; simp, ?_, ?_, fun b hb => ?_, by simp [hl]⟩
        · rw [sizeLine_eq]; simp; omega
        · have nb : b ≠ D := ne_of_none e hD
          rw [upd_ne nb]
          exact upd_keep fp b o (sm2 _ _ (sm _ _ e))
        · simp [nD, nDp]
        · rw [List.nodup_append]; exact ⟨np, by simp, fun x hx y hy => by simp at hy; subst hy; exact fun e => npp (e ▸ hx)⟩
        · have nb : b ≠ D := fun e => by subst e; rcases List.mem_append.mp hb with h | h; exact nD h; simp at h; exact nDp h
          rw [upd_ne nb]
          rcases List.mem_append.mp hb with h | h
          · obtain ⟨z1, e⟩ := hp b h
            exact ⟨z1, upd_keep fp _ _ (sm2 _ _ e)⟩
          · simp at h; subst h; exact ⟨z, upd_same⟩
      · rintro H' ⟨ps, sm, hd, nD, np, hp, hl⟩
        exact q D ps H' sm hd nD np hp
    · cases hb
end
end SG
namespace SG
open PySem PySem.Spec PyProof.Rows L2 HotX L2H
section
variable {prog : Program} {w : World} {A : Around} {E : Value → Shared → Prop} {s : Shared}
theorem list_end_hot {it l x1 : Addr} {i : Nat} {items : Array Value} {Q : Option Value → Shared → Prop} (hot : HotAt A x1 s.heap) (hx1 : x1 ≠ it)
    (hit : s.heap.IsListIter it l i) (hl : s.heap.IsList l items) (hx : items[i]? = none)
    (hQ : ∀ h', (∀ b o, b ≠ it → s.heap.get? b = some o → h'.get? b = some o) → Q none { s with heap := h' }) : wpAny (model prog w) A (pyNext (.ref it)) Q E s := by
  obtain ⟨o, ho, hc, hd⟩ := id hit
  obtain ⟨ol, hol, _, nl, hdl⟩ := hl
  obtain ⟨hh, o1, vs1, h1, d1, c1⟩ := hot
  unfold pyNext
  refine wpAny_bind (wpAny_attempt (wpAny_callSpecial?_slot (name := Str.ofString "__next__") hit.typeIs slot_listiter_next
    (wpAny_call_entry slot_listiter_next hit.typeIs entry_listiter_next ?_ (args_listiter_next _))))
  show wpAny _ _ (field (.ref it) 0 >>= _) _ _ s
  refine wpAny_bind (wpAny_field ho hd (x := .ref l) rfl ?_)
  show wpAny _ _ (if (Value.ref l == Value.none) = true then _ else _) _ _ s
  rw [if_neg (show ¬ ((Value.ref l == Value.none) = true) from Bool.false_ne_true)]
  show wpAny _ _ (field (.ref it) 1 >>= _) _ _ s
  refine wpAny_bind (wpAny_field ho hd (x := .int i 0) rfl ?_)
  show wpAny _ _ (seqItems? (.ref l) >>= _) _ _ s
  refine wpAny_bind (wpAny_seqItems hol hdl ?_)
  simp only [Int.toNat_natCast, hx]
  refine wpAny_bind (wpAny_rule (wpAny_bind (wpAny_setField ho hd (by simp) ?_)))
  have h1' : ∀ g, (s.heap.update it g).get? x1 = some o1 := fun g => by rw [Heap.get?_update_other _ _ (Ne.symm hx1)]; exact h1
  show wpAny _ _ (newExc (.type "StopIteration") [] >>= _) _ _ _
  refine wpAny_bind ?_
  simp only [newExc, newTuple]
  refine wpAny_bind (wpAny_newObj_type ?_ (by size_fits))
  refine wpAny_bind (m := firstArgMember _ _) (wpAny_of_eq (a := Value.none) (by first | rfl | (simp only [firstArgMember]; rfl)) ?_)
  refine wpAny_newObj_type ?_ (by size_fits)
  refine raiseNew_hot ⟨hh, o1, vs1, Heap.get?_push_of_some _ (Heap.get?_push_of_some _ (h1' _)), d1, c1⟩ (Nat.ne_of_lt (Heap.lt_size (Heap.get?_push_of_some _ (h1' _)))) (Heap.get?_push_size _ rfl) rfl (by first | (simp; done) | (simp; omega) | (simp only [Array.size_append]; simp; omega)) ?_
  refine wpAny_bind (wpAny_isInstance (T := "StopIteration") (b := true) ⟨_, Heap.get?_update_self _ (Heap.get?_push_size _ rfl) rfl, rfl⟩ isSubtype_stop ?_)
  refine wpAny_pure (hQ _ fun b o hb e => ?_)
  have e2 : ∀ g, (s.heap.update it g).get? b = some o := fun g => by rw [Heap.get?_update_other _ _ (Ne.symm hb)]; exact e
  rw [Heap.get?_update_other _ _ (Nat.ne_of_gt (Heap.lt_size (Heap.get?_push_of_some _ (e2 _))))]
  exact Heap.get?_push_of_some _ (Heap.get?_push_of_some _ (e2 _))
def Held (h : Heap) (x1 : Addr) : Prop := ∃ (o : Obj) (vs : Array Value), h.get? x1 = some o ∧ o.data = .fields vs ∧ vs[2]? = some .none
theorem walks_hot {x1 : Addr} (hh : A.handled = some (.ref x1)) (I ax : Addr) (hne : ax ≠ I) (hx1 : x1 ≠ I) (items : Array Value) :
    Walks prog w A I [I, ax, x1] [I] items.size (fun i v => items[i]? = some v) (fun i h => h.IsListIter I ax i ∧ h.IsList ax items ∧ Held h x1) where
  sub := fun b hb => by simp at hb; simp [hb]
  frame := fun _ _ _ st hk => ⟨st.1.at fun o e => hk I (by simp) o e, st.2.1.at fun o e => hk ax (by simp) o e, let ⟨o, vs, e, r⟩ := st.2.2; ⟨o, vs, hk x1 (by simp) o e, r⟩⟩
  item := fun i s Q E hi st hQ => by
    refine wpAny_pyNext_list_item st.1 st.2.1 (x := items[i]) (by simp [hi]) fun h' hit' hs' => ?_
    refine hQ _ h' s.toks (by simp [hi]) ⟨hit', st.2.1.extBut hs'.extBut hne, ?_⟩ fun b o hb e => hs'.extBut b o (fun h => hb (by simp [h])) e
    obtain ⟨o, vs, e, r⟩ := st.2.2
    exact ⟨o, vs, hs'.extBut x1 o hx1 e, r⟩
  done := fun s Q E st hQ => by
    obtain ⟨o, vs, e, r⟩ := st.2.2
    exact list_end_hot ⟨hh, o, vs, e, r⟩ hx1 st.1 st.2.1 (by simp) fun h' he' => hQ h' s.toks fun b o hb e => he' b o (fun h => hb (by simp [h])) e
  self := fun _ _ _ _ st hQ => wpAny_pyIter_listiter st.1 hQ
theorem sum_hot {x1 l : Addr} {its : List Value} {ns : List Int} {Q : Value → Shared → Prop} (hot : HotAt A x1 s.heap) (hl : s.heap.IsList l its.toArray) (hi : IntsAre its ns)
    (h : ∀ h' tk t', (∀ b o, s.heap.get? b = some o → h'.get? b = some o) → Q (.int ns.sum t') { s with heap := h', toks := tk }) : wpAny (model prog w) A (call (.builtin "sum") [.ref l]) Q E s := by
  obtain ⟨xs, e⟩ := hi.allInts.items
  have hn : numsOf (intItems xs).toList = ns := by rw [← e]; exact hi.numsOf
  rw [nums_intItems] at hn
  rw [e] at hl
  obtain ⟨hh, o1, vs1, h1, d1, c1⟩ := hot
  refine call_sum_walkG (iter_intList hl fun s₂ e st hfp hlI => ?_)
  have hx : x1 < s.heap.objs.size := Heap.lt_size h1
  have h1' : s₂.heap.get? x1 = some o1 := by rw [e]; exact Heap.get?_push_of_some _ h1
  refine ⟨_, _, _, _, _, _, numAt xs, rfl, walks_hot (A := A.in1) hh _ l hlI (Nat.ne_of_lt hx) (intItems xs), ⟨st.1, st.2, o1, vs1, h1', d1, c1⟩, fun b hb => ?_, (fun _ _ => intItems_at), fun h' tk t' hk => ?_⟩
  · rcases (by simpa using hb : b = s.heap.objs.size ∨ b = l ∨ b = x1) with z | z | z
    · exact hfp b (by simp [z])
    · exact hfp b (by simp [z])
    · rw [z]; exact Heap.lt_size h1'
  · subst e
    have := h h' tk t' (old_kept hk)
    have e3 : preSum (numAt xs) xs.size = ns.sum := by rw [preSum_eq, List.take_of_length_le (by simp), hn]
    have e4 : (intItems xs).size = xs.size := by simp [intItems]
    rw [e4, e3]
    exact this
end
section
variable {X : Cx}
theorem cr_sumH (hc : HotC X) : CallR X (.builtin "sum") (rSum X.K) := by
  intro pins s σ H vs us Q I r h
  obtain ⟨a, ns, rfl, hs, q⟩ := h
  obtain ⟨its, rv, hl, _⟩ := I.list hs
  rw [Vals.ref1 r]
  obtain ⟨x1, hot⟩ := hc.at I
  exact sum_hot hot hl.isList rv.ints fun h' tk t' hk => ⟨.int _, H, I.kept hk, ⟨_, rfl⟩, q⟩
end
end SG
namespace SG
open PySem PySem.Spec PyProof.Rows L2 HotX L2H
section
variable {X : Cx} {pins : List (Addr × Obj)} {σ : L2.St} {H : Hp} {s : Shared} {E : Value → Shared → Prop} {a it : Addr}
theorem list_item {tg : Expr} {i : Nat} (I : Inv X pins σ H s) (hf : FpOk X pins H it) (st : s.heap.IsListIter it a i) (hg : (Itl X.K a).go i H) :
    wpAny (model X.prog X.w) X.A (pyNext (.ref it)) (fun r s1 => ∃ u, r = some u ∧
      wpAny (model X.prog X.w) X.A (letOwnedTupleGo tg (.ref it) u) (fun _ s2 => ∃ x H', Inv X pins σ H' s2 ∧ RelV x u ∧ (Itl X.K a).yld i H x H' ∧ s2.heap.IsListIter it a (i + 1) ∧ H' it = none) E s1) E s := by
  obtain ⟨xs, x, hq, hx⟩ := hg
  obtain ⟨its, rv, p, hz⟩ := I.list hq
  obtain ⟨u, hu, ru⟩ := rv.get hx
  obtain ⟨f0, f1, f2, f3, f4, f5⟩ := hf
  refine wpAny_pyNext_list_item st p.isList (x := u) (by simpa using hu) fun h' st' sb => ?_
  have I1 : Inv X pins σ H { s with heap := h' } := I.turned (t' := s.toks) (fun b o hb e => (sb.2 b hb).trans e) f0 f1 f3 f4 f5
  obtain ⟨o, e, c, d⟩ := id st'
  exact ⟨u, rfl, go_of (s := { s with heap := h' }) e c d (by decide) ⟨x, H, I1, ru, ⟨rfl, fun ys hy => by rw [I.list_inj hy hq]; exact hx⟩, st', f0⟩⟩
theorem list_stop {i : Nat} {x1 : Addr} (hot : HotAt X.A x1 s.heap) (hx1 : x1 ≠ it) (I : Inv X pins σ H s) (hf : FpOk X pins H it) (st : s.heap.IsListIter it a i) (hg : (Itl X.K a).stop i H) :
    wpAny (model X.prog X.w) X.A (pyNext (.ref it)) (fun r s1 => r = none ∧ Inv X pins σ H s1) E s := by
  obtain ⟨xs, hq, hx⟩ := hg
  obtain ⟨its, rv, p, hz⟩ := I.list hq
  obtain ⟨f0, f1, f2, f3, f4, f5⟩ := hf
  have hl := rv.length
  exact list_end_hot hot hx1 st p.isList (by simp; omega) fun h' eb => ⟨rfl, I.turned (t' := s.toks) (fun b o hb e => eb b o hb e) f0 f1 f3 f4 f5⟩
end
section
variable {X : Cx}
theorem pe_lcH {elt tg iter : Expr} {scope : Scope} {own : List (Str × Nat)} {pos : Pos} {tl te : TE} {g : TG} (hc : HotC X) (hN : X.N.Nodup) (hi : PE X iter tl) (ok : BlkOk X.N X.env.scope scope own)
    (hg : ∀ (s : Shared) (H : Hp) (C : Addr) (cl : List (Str × Addr)) (fp : List Addr), PG (X.blk s H scope (compEnvC scope cl C X.env) fp) tg g)
    (he : ∀ (s : Shared) (H : Hp) (C : Addr) (cl : List (Str × Addr)) (fp : List Addr), PE (X.blk s H scope (compEnvC scope cl C X.env) fp) elt te) (hs : ∀ x, foldedSetIterable iter X.env x = pure x := by intro _; rfl) :
    PE X (.ListComp elt [⟨tg, iter, [], 0⟩] scope pos) (tLc (iList X.K tl) g tYes te (own.map (·.2))) := by
  refine ⟨fun pins s σ H Q I h => ?_⟩
  rw [eval_ListComp]
  have hfree : ∀ y ∈ scope.names, y.2 = .free → ∃ c, X.env.cells.lookup y.1 = some c := fun y hy e => by
    rcases ok.free y hy e with k | k
    · exact I.ok.has _ (.inl k)
    · exact I.ok.has _ (.inr k)
  refine wpAny_comprehension_free (use := none) rfl hs (closure_ok hfree) ok.kind (fun y hy e => by rw [ok.uniq y hy, e])
    (thn (hi.run pins s σ H _ I h) fun xv s1 ⟨x, H1, I1, r1, q1⟩ => ?_)
  obtain ⟨a, e, ⟨xs, hq⟩, q⟩ := q1
  subst e
  cases r1
  obtain ⟨its, rv, p, hz⟩ := I1.list hq
  refine wpAny_pyIter_list p.isList ?_
  generalize hit : s1.heap.objs.size = it
  have st2 : (s1.heap.push { cls := .type "list_iterator", data := .fields #[.ref a, .int 0 0] }).IsListIter it a 0 := ⟨_, by rw [← hit]; exact Heap.get?_push_size _ rfl, rfl, rfl⟩
  have I2 : Inv X pins σ H1 { s1 with heap := s1.heap.push { cls := .type "list_iterator", data := .fields #[.ref a, .int 0 0] } } := I1.kept (t' := s1.toks) fun b o e => Heap.get?_push_of_some _ e
  have f2 : FpOk X pins H1 it := by rw [← hit]; exact I1.fpOk (Nat.le_refl _) (I1.hok.fresh (Nat.le_refl _))
  obtain ⟨px, hpx, hpm⟩ := hc
  have pin2 := I2.pin px (List.mem_append_left _ hpm)
  generalize hs2 : ({ s1 with heap := s1.heap.push { cls := .type "list_iterator", data := .fields #[.ref a, .int 0 0] } } : Shared) = s2 at I2 pin2
  have st2' : s2.heap.IsListIter it a 0 := by rw [← hs2]; exact st2
  have hitl : it < s2.heap.objs.size := by rw [← hs2, ← hit]; show _ < (s1.heap.push _).objs.size; rw [Heap.size_push]; exact Nat.lt_succ_self _
  have hx1 : px.1 ≠ it := by
    have := (I1.pin px (List.mem_append_left _ hpm)).1
    rw [← hit]
    exact Nat.ne_of_lt (Heap.lt_size this)
  refine wpAny_newObj_type (newEnv_comp ?_) (by show 0 ≤ sizeLine; decide)
  generalize hD : s2.heap.objs.size = D
  have hDn : H1 D = none := I2.hok.fresh (Nat.le_of_eq hD)
  obtain ⟨W, ⟨m0, w0⟩, turn⟩ := q D hDn
  generalize hs3 : ({ s2 with heap := s2.heap.push { cls := .type "list", data := .seq ([] : List Value).toArray } } : Shared) = s3
  have h3 : s3.heap = s2.heap.push { cls := .type "list", data := .seq ([] : List Value).toArray } := by rw [← hs3]
  have I3 : Inv X pins σ (upd H1 D (.lst [])) s3 := by
    rw [← hs3]
    refine I2.laid (t' := s2.toks) (fun b o e => Heap.get?_push_of_some _ e) (Nat.le_of_eq hD) ⟨Nat.zero_le _, [], 0, .nil, ?_⟩
    rw [← hD]
    exact Heap.get?_push_size _ rfl
  have f3 : ∀ b ∈ [it], FpOk X pins (upd H1 D (.lst [])) b ∧ b < s3.heap.objs.size := fun b hb => by
    have e : b = it := by simpa using hb
    subst e
    refine ⟨⟨?_, f2.2⟩, by rw [h3, Heap.size_push]; exact Nat.lt_succ_of_lt hitl⟩
    rw [upd_ne (by rw [← hD]; exact Nat.ne_of_lt hitl)]
    exact f2.1
  have st3 : s3.heap.IsListIter it a 0 := st2'.at fun o e => by rw [h3]; exact Heap.get?_push_of_some _ e
  have pin3 := I3.pin px (List.mem_append_left _ hpm)
  have I4 := block_start I3 ok hN f3
  have pg := hg s3 (upd H1 D (.lst [])) s3.heap.objs.size (cellsFrom (s3.heap.objs.size + 1) scope.names (cloFrom X.env.cells scope.names [])) [it]
  have pe := he s3 (upd H1 D (.lst [])) s3.heap.objs.size (cellsFrom (s3.heap.objs.size + 1) scope.names (cloFrom X.env.cells scope.names [])) [it]
  show codeAny _ _ (.compStart (.ListComp elt [⟨tg, iter, [], 0⟩] scope pos) 0 (.ref it) (.ref D) (compEnvC scope (cellsFrom (s3.heap.objs.size + 1) scope.names (cloFrom X.env.cells scope.names [])) s3.heap.objs.size X.env)) (compPost (model X.prog X.w) X.A X.xe none _ (.ref D) s3.heap.objs.size) { s3 with heap := pushCells (s3.heap.push { cls := .type "dict", data := .dict #[] }) scope.names }
  have nfp : (upd H1 D (.lst [])) it = none := (f3 it (by simp)).1.1
  generalize hce : compEnvC scope (cellsFrom (s3.heap.objs.size + 1) scope.names (cloFrom X.env.cells scope.names [])) s3.heap.objs.size X.env = ce at I4 pg pe ⊢
  have cL : ce.locals = s3.heap.objs.size := by subst hce; rfl
  generalize hH3 : upd H1 D (.lst []) = H3 at I3 I4 pg pe w0 nfp f3 pin3
  generalize hs4 : ({ s3 with heap := pushCells (s3.heap.push { cls := .type "dict", data := .dict #[] }) scope.names } : Shared) = s4 at I4 ⊢
  have st4 : s4.heap.IsListIter it a 0 := st3.at fun o e => by rw [← hs4]; exact pushCells_keeps _ _ _ _ (Heap.get?_push_of_some _ e)
  have stat : ∀ {σ' : L2.St} {H' : Hp} {s' : Shared}, Inv (X.blk s3 H3 scope ce [it]) [] σ' H' s' → H' it = none → ∀ b ∈ [it], FpOk (X.blk s3 H3 scope ce [it]) [] H' b := fun {σ' H' s'} I' hn b hb =>
    ⟨by have e : b = it := by simpa using hb
        rw [e]; exact hn, (I'.ok.exf b hb).1, I'.ok.exfs b hb, .inl hb, fun x c e => (I'.ok.exf b hb).2 x c e, fun p hp => absurd (show p ∈ ([] : List (Addr × Obj)) ++ [] from hp) (by simp)⟩
  have objs : ∀ {i : Nat} {h : Heap}, h.IsListIter it a i → ∀ b ∈ [it], ∃ o, h.get? b = some o ∧ ∀ v, o.data ≠ .cell v := fun {i h} st b hb => by
    have e : b = it := by simpa using hb
    subst e
    obtain ⟨o, e, c, d⟩ := st
    exact ⟨o, e, fun v z => by rw [d] at z; cases z⟩
  have hot5 : ∀ {σ' : L2.St} {H' : Hp} {s' : Shared}, Inv (X.blk s3 H3 scope ce [it]) [] σ' H' s' → HotAt X.A px.1 s'.heap := fun {σ' H' s'} I' => by
    obtain ⟨hh, v1, e1, c1⟩ := hpx
    refine ⟨hh, px.2, v1, I'.base.keep px.1 px.2 pin3.1 pin3.2.1 (fun hm => ?_) (by simpa using hx1), e1, c1⟩
    rcases List.mem_cons.mp (I3.stkSub px.1 hm) with z | z
    · exact pin3.2.2.1 z
    · exact pin3.2.2.2.1 z
  have loop : codeAny (model X.prog X.w) X.A (.compLoop (.ListComp elt [⟨tg, iter, [], 0⟩] scope pos) 0 (.ref it) (.ref D) ce) (compPost (model X.prog X.w) X.A X.xe none (EP X pins σ Q) (.ref D) s3.heap.objs.size) s4 := by
    refine compLoop_any (fun n s' => ∃ i H', Inv (X.blk s3 H3 scope ce [it]) [] (wipe σ (own.map (·.2))) H' s' ∧ s'.heap.IsListIter it a i ∧ H' it = none ∧ W i n H') ?_ m0 ⟨0, H3, I4, st4, nfp, w0⟩
    rintro n s5 ⟨i, H5, I5, st5, n5, w5⟩
    rcases turn i n H5 w5 with ⟨stop, qq⟩ | ⟨go, Nx, hNx, step⟩
    · have td := list_stop (X := X.blk s3 H3 scope ce [it]) (E := fun _ _ => False) (hot5 I5) hx1 I5 (stat I5 n5 it (by simp)) st5 stop
      refine thnF td fun r s6 ⟨hr, I6⟩ => ?_
      subst hr
      have I7 : Inv X pins σ H5 s6 := I3.call' (ch := [it]) I6.os I6.base I6.hok I6.bare fun b hb => ⟨(f3 b hb).1.2.2.2.1, (f3 b hb).1.2.1, (f3 b hb).1.2.2.2.2.1, (f3 b hb).1.2.2.2.2.2⟩
      have nC : H5 s3.heap.objs.size = none := by
        have z : H5 ce.locals = none := I6.free
        rw [cL] at z
        exact z
      obtain ⟨m, hn, _⟩ := I6.loc
      have hn : s6.heap.Ns ce.locals m := hn
      rw [cL] at hn
      refine ⟨m, hn, fun h'' sb => ?_⟩
      obtain ⟨f0, f1, f2, f3, f4, f5⟩ := I3.fpOk (Nat.le_refl _) nC
      exact ⟨.ref D, H5, I7.turned (t' := s6.toks) (fun b o hb e => (sb.2 b hb).trans e) f0 f1 f3 f4 f5, rfl, qq⟩
    · have ti := list_item (X := X.blk s3 H3 scope ce [it]) (tg := tg) (E := fun _ _ => False) I5 (stat I5 n5 it (by simp)) st5 go
      refine thnF ti fun r s6 ⟨u, hr, h6⟩ => ?_
      subst hr
      refine thnF h6 fun _ s7 ⟨x, H7, I7, r7, y7, st7, n7⟩ => ?_
      have I7' := I7.pinned (stat I7 n7) (objs st7)
      refine thnF (pg.run _ s7 _ H7 x u _ I7' r7 (step x H7 y7)) fun _ s8 ⟨σ8, H8, I8, hw8, q8⟩ => ?_
      have fin : ∀ {s' : Shared} {H' : Hp}, Inv (X.blk s3 H3 scope ce [it]) ([] ++ pinsAt [it] s7.heap) σ8 H' s' → Nx H' → ∃ m, m < n ∧ ∃ i H', Inv (X.blk s3 H3 scope ce [it]) [] (wipe σ (own.map (·.2))) H' s' ∧ s'.heap.IsListIter it a i ∧ H' it = none ∧ W i m H' := fun {s' H'} I' nx => by
        obtain ⟨m', hm, w'⟩ := hNx H' nx
        have pin' : ∀ b ∈ [it], ∀ o, s7.heap.get? b = some o → s'.heap.get? b = some o ∧ H' b = none := fun b hb o e =>
          let z := I'.pin (b, o) (List.mem_append_right _ (List.mem_append_right _ (mem_pinsAt hb e)))
          ⟨z.1, z.2.1⟩
        have hl : (wipe σ (own.map (·.2))).length = σ8.length := by rw [← hw8, wipe_length]
        refine ⟨m', hm, i + 1, H', (I'.unpinned (pins := [])).weak hl (fun j v e => ?_), st7.at fun o e => (pin' it (by simp) o e).1, ?_, w'⟩
        · rw [← hw8] at e
          exact (wipe_some e).1
        · obtain ⟨o, e, _⟩ := objs st7 it (by simp)
          exact (pin' it (by simp) o e).2
      have q9 : te σ8 H8 fun y H4 => ∃ acc, H4 D = some (.lst acc) ∧ acc.length < sizeLine ∧ Nx (upd H4 D (.lst (acc ++ [y]))) := by
        unfold tYes at q8
        simpa using q8
      refine thnF (show wpAny _ _ (forIn ([] : List Expr) true _) (fun b s9 => b = true ∧ s9 = s8) _ s8 from wpAny_pure ⟨rfl, rfl⟩) fun b s9 ⟨hb, hs9⟩ => ?_
      subst hb hs9
      simp only [if_true]
      refine thnF (pe.run _ s9 σ8 H8 _ I8 q9) fun z s10 ⟨yv, H10, I10, r10, acc, hD10, hz10, nx⟩ => ?_
      exact app_ok (X := X.blk s3 H3 scope ce [it]) I10 hD10 hz10 r10 fun s11 I11 => fin I11 nx
  exact codeAny_compStart_list loop (wpAny_pyIter_listiter st4 loop)
end
end SG
namespace SG
open PySem PySem.Spec PyProof.Rows L2 HotX L2H
def errN : List Str := ["InvalidTable", "InvalidRight", "InvalidPlace", "InvalidSign", "InvalidText", "NotSquare", "NotInvertible", "NotNegative", "TooLarge", "Unchanged", "NothingToUndo"]
def termN : List Str := ["e", "flags", "kinds", "flag"]
def isIs (nm : Str) : Expr → Bool
  | .Call (.Name x _) [.Name y _, .Name z _] [] _ => decide (x = "isinstance") && decide (y = "e") && decide (z = nm)
  | _ => false
def isIss : List Str → List Expr → Bool
  | [], [] => true
  | nm :: r, x :: l => isIs nm x && isIss r l
  | _, _ => false
def isSt (nm : Str) : Expr → Bool
  | .Constant (.str z) _ _ => decide (z = nm)
  | _ => false
def isSts : List Str → List Expr → Bool
  | [], [] => true
  | nm :: r, x :: l => isSt nm x && isSts r l
  | _, _ => false
def isTerm (sc : Scope) : List Stmt → Bool
  | [.Assign [.Name f1 _] (.List l1 _) _,
     .Assign [.Name f2 _] (.BinOp (.Name f3 _) .Add (.List l2 _) _) _,
     .Assign [.Name f4 _] (.BinOp (.Name f5 _) .Add (.List l3 _) _) _,
     .Assign [.Name f6 _] (.BinOp (.Name f7 _) .Add (.List l4 _) _) _,
     .Assign [.Name k1 _] (.List m1 _) _,
     .Assign [.Name k2 _] (.BinOp (.Name k3 _) .Add (.List m2 _) _) _,
     .If (.BoolOp .Or [.Compare (.Call (.Name s1 _) [.ListComp (.Call (.Name i1 _) [.Name g1 _] [] _) [⟨.Name g2 _, .Name f8 _, [], 0⟩] scope _] [] _) [.NotEq] [.Constant (.int 1) _ _] _, .UnaryOp .Not v _] _) _ [] _,
     .Return (some (.Tuple [.Constant (.str r1) _ _, .Subscript (.Name k4 _) (.Call (.Attribute (.Name f9 _) a1 ap) [.Constant (.bool true) _ _] [] cp) _] _ _)) _] =>
    decide (f1 = "flags") && decide (f2 = "flags") && decide (f3 = "flags") && decide (f4 = "flags") && decide (f5 = "flags") && decide (f6 = "flags") && decide (f7 = "flags") && decide (f8 = "flags") && decide (f9 = "flags") && decide (k1 = "kinds") && decide (k2 = "kinds") && decide (k3 = "kinds") && decide (k4 = "kinds") &&
      decide (s1 = "sum") && decide (i1 = "int") && decide (g1 = "flag") && decide (g2 = "flag") && decide (r1 = "error") && decide (a1 = Str.ofString "index") && (ap.endLine == cp.line) &&
      isIss (errN.take 3) l1 && isIss ((errN.drop 3).take 3) l2 && isIss ((errN.drop 6).take 3) l3 && isIss (errN.drop 9) l4 && isSts (errN.take 6) m1 && isSts (errN.drop 6) m2 && isIs "ValueError" v &&
      blkC termN sc scope [("flag", 3)] && locB scope "flag" && visB (relS scope sc) "flag" && glB (relS scope sc) "int" && glB sc "sum" && glB sc "isinstance" && glB sc "ValueError" && errN.all (glB sc) && visB sc "e" && visB sc "flags" && visB sc "kinds" && decide (sc.names.lookup ("flags" : Str) = some .local) && decide (sc.names.lookup ("kinds" : Str) = some .local)
  | _ => false
structure ClsOk (K : PySem.W.Frag) (mg : Str → Option Value) (cl : Nat → Addr) : Prop where
  mg : ∀ (j : Nat) nm, errN[j]? = some nm → mg nm = some (.ref (cl j))
  kp : ∀ j, j < 11 → PySem.W.keepIn K (.ref (cl j)) = true
  ne : ∀ j k, j < 11 → k < 11 → PySem.W.kitOne K (.ref (cl k)) (.ref (cl j)) = some (decide (k = j))
  ve : ∀ k, k < 11 → PySem.W.kitOne K (.ref (cl k)) (.type "ValueError") = some true
  ex : ∀ k, k < 11 → ExcC K (cl k)
theorem call_isP {X : Cx} {p : Addr × Obj} {D : Addr} (hp : p ∈ X.pn) (C : ExcC X.K D) (hz : Zc (.ref D) none p.2) (hf : ∃ vs, p.2.data = .fields vs) : CallR X (.builtin "isinstance") (rIsE X.K D p.1) := by
  intro pins s σ H xs us Q I r h
  obtain ⟨c, cv, b, rfl, hcv, e, q⟩ := h
  cases r with
  | cons rx rr =>
    cases rr with
    | cons rt rr =>
      cases rr
      cases rx
      have ec := hcv _ rt
      subst ec
      obtain ⟨hget, _⟩ := I.pin p (List.mem_append.mpr (.inl hp))
      obtain ⟨vs, hv⟩ := hf
      have J : PySem.W.InstAt s.heap p.1 p.2 D none := by
        obtain ⟨a, ⟨oc, od, oda, osl⟩⟩ := p
        obtain ⟨h1, h2⟩ := hz
        dsimp only at h1 h2 hv hget
        subst h1 h2 hv
        exact ⟨hget, rfl, rfl, trivial⟩
      exact PySem.W.kia_one (PySem.W.handS_kitx_exc C.hg C.hk C.hs C.hd C.ha C.hn C.ht C.hm) I.kIn J e (fun z => nomatch z) fun tk => ⟨.bl b, H, I.kept (t' := tk) fun _ _ z => z, rfl, q⟩
structure TermX (X : Cx) (sc : Scope) (cl : Nat → Addr) (k : Nat) (p : Addr × Obj) : Prop where
  N : X.N = termN
  sc : X.env.scope = sc
  hot : HotC X
  mem : p ∈ X.pn
  z : Zc (.ref (cl k)) none p.2
  f : ∃ vs, p.2.data = .fields vs
  cls : ClsOk X.K X.mg cl
  k : k < 11
  blt : ∀ x ∈ (["sum", "int", "isinstance", "ValueError"] : List String), X.mg (Str.ofString x) = none
def tIss (a : Addr) (bs : List Bool) : TA := fun σ H Q => σ[0]? = some (some (.ref a)) ∧ Q (bs.map V.bl) H
section
variable {X : Cx} {sc : Scope} {cl : Nat → Addr} {k : Nat} {p : Addr × Obj}
theorem TermX.is (T : TermX X sc cl k p) {x : Expr} {nm : Str} {j : Nat} (h : isIs nm x = true) (hj : errN[j]? = some nm) (hv : visB sc "e" = true) (hi : glB sc "isinstance" = true) (hg : glB sc nm = true) :
    PE X x (fun σ H Q => σ[0]? = some (some (.ref p.1)) ∧ Q (.bl (decide (k = j))) H) ∧ notStar x = true := by
  unfold isIs at h
  split at h
  · simp only [Bool.and_eq_true, decide_eq_true_eq] at h
    obtain ⟨⟨h1, h2⟩, h3⟩ := h
    subst h1 h2 h3
    have hjl : j < 11 := (List.getElem?_eq_some_iff.mp hj).1
    have hdb : ∀ z ∈ errN, (z == ("__debug__" : Str)) = false := by decide
    have pc : ∀ {q : Pos}, PE X (.Name _ q) (tC (.ref (cl j))) := fun {q} => pe_glob (gl_of (by rw [T.sc]; exact hg)) (T.cls.mg j _ hj) rfl (hdb _ (List.mem_of_getElem? hj))
    refine ⟨PE.imp (pe_callB (call_isP T.mem (T.cls.ex k T.k) T.z T.f) (gl_of (by rw [T.sc]; exact hi)) (T.blt "isinstance" (by decide)) (by decide +kernel) (pa_cons (pe_var (i := 0) (by rw [T.N]; rfl) (vis_of (by rw [T.sc]; exact hv))) (pa_cons pc pa_nil rfl) rfl) (by decide) (by decide) rfl rfl) fun σ H Q ⟨e, q⟩ => ?_, rfl⟩
    exact ⟨_, e, _, _, _, rfl, fun u r => r, T.cls.ne j k hjl T.k, q⟩
  · cases h
theorem TermX.iss (T : TermX X sc cl k p) (hv : visB sc "e" = true) (hi : glB sc "isinstance" = true) (hg : errN.all (glB sc) = true) : ∀ (l : List Expr) (nms : List Str) (j : Nat), isIss nms l = true → (∀ i nm, nms[i]? = some nm → errN[j + i]? = some nm) →
    PA X l (tIss p.1 ((List.range nms.length).map fun i => decide (k = j + i)))
  | [], [], j, _, _ => PA.imp pa_nil fun σ H Q ⟨_, q⟩ => q
  | x :: l, nm :: nms, j, h, hj => by
    simp only [isIss, Bool.and_eq_true] at h
    have h0 := hj 0 nm rfl
    have g0 : glB sc nm = true := List.all_eq_true.mp hg nm (List.mem_of_getElem? h0)
    have p1 := T.is h.1 h0 hv hi g0
    have p2 := TermX.iss T hv hi hg l nms (j + 1) h.2 fun i nm' e => by
      have := hj (i + 1) nm' (by simpa using e)
      rw [← this]; congr 1; omega
    refine PA.imp (pa_cons p1.1 p2 (star1 p1.2)) fun σ H Q ⟨e, q⟩ => ⟨e, e, ?_⟩
    have : (List.range (nm :: nms).length).map (fun i => decide (k = j + i)) = decide (k = j + 0) :: (List.range nms.length).map fun i => decide (k = j + 1 + i) := by
      rw [List.length_cons, List.range_succ_eq_map, List.map_cons, List.map_map]
      congr 1
      refine List.map_congr_left fun i _ => ?_
      simp only [Function.comp]
      congr 2
      omega
    rw [this] at q
    exact q
  | [], _ :: _, _, h, _ => by simp [isIss] at h
  | _ :: _, [], _, h, _ => by simp [isIss] at h
theorem TermX.sts : ∀ (l : List Expr) (nms : List Str), isSts nms l = true → PA X l (fun σ H Q => Q (nms.map V.str) H)
  | [], [], _ => PA.imp pa_nil fun σ H Q q => q
  | x :: l, nm :: nms, h => by
    simp only [isSts, Bool.and_eq_true] at h
    obtain ⟨h1, h2⟩ := h
    unfold isSt at h1
    split at h1
    · have e := of_decide_eq_true h1
      subst e
      exact PA.imp (pa_cons pe_str (TermX.sts l nms h2) rfl) fun σ H Q q => q
    · cases h1
  | [], _ :: _, h => by simp [isSts] at h
  | _ :: _, [], h => by simp [isSts] at h
def flB (k : Nat) : List Bool := ((((List.range 3).map fun i => decide (k = 0 + i)) ++ (List.range 3).map fun i => decide (k = 3 + i)) ++ (List.range 3).map fun i => decide (k = 6 + i)) ++ (List.range 2).map fun i => decide (k = 9 + i)
theorem flB_ok : ∀ k, k < 11 → ((flB k).map fun b => if b then (1 : Int) else 0).sum = 1 ∧ (flB k)[k]? = some true ∧ ∀ m, m < k → (flB k)[m]? = some false := by decide
theorem errN_at : ∀ k, k < 11 → (errN.take 6 ++ errN.drop 6)[k]? = some ⟨(errS k).toArray⟩ := by decide
theorem sub_at {l : List Str} {j n : Nat} : ∀ i nm, ((l.drop j).take n)[i]? = some nm → l[j + i]? = some nm := fun i nm h => by
  rw [List.getElem?_take] at h
  split at h
  · rwa [List.getElem?_drop] at h
  · cases h
theorem sub_drop {l : List Str} {j : Nat} : ∀ i nm, (l.drop j)[i]? = some nm → l[j + i]? = some nm := fun i nm h => by rwa [List.getElem?_drop] at h
theorem sub_take {l : List Str} {n : Nat} : ∀ i nm, (l.take n)[i]? = some nm → l[0 + i]? = some nm := fun i nm h => by
  rw [List.getElem?_take] at h
  split at h
  · rwa [Nat.zero_add]
  · cases h
def tTerm (a : Addr) (k : Nat) : TS := fun D σ H => σ = [some (.ref a), none, none, none] ∧ ∀ q H', Same H H' → H' q = some (.tup [.str ⟨errT.toArray⟩, .str ⟨(errS k).toArray⟩]) → D.rt (.ref q) H'
theorem same_upd {H : Hp} {p : Addr} {o : HO} (h : H p = none) : Same H (upd H p o) := fun b q e => upd_keep h b q e
theorem same_refl {H : Hp} : Same H H := fun _ _ e => e
theorem same_trans {H H1 H2 : Hp} (a : Same H H1) (b : Same H1 H2) : Same H H2 := fun c o e => b c o (a c o e)
theorem rd_lst {σ : L2.St} {H : Hp} {t : TA} {ys : List V} {Q : VK} (ht : ∀ H Q, Q ys H → t σ H Q) (hl : ys.length ≤ 11) (q : ∀ p' H', Same H H' → H' p' = some (.lst ys) → Q (.ref p') H') : tLst t σ H Q :=
  ht _ _ ⟨Nat.le_trans hl (by decide), fun p hp => q p _ (same_upd hp) upd_same⟩
theorem rd_cat {σ : L2.St} {H : Hp} {t : TA} {xs ys : List V} {i : Nat} {p : Addr} {Q : VK} (e : σ[i]? = some (some (.ref p))) (hp : H p = some (.lst xs)) (ht : ∀ H Q, Q ys H → t σ H Q) (hl : xs.length + ys.length ≤ 11)
    (q : ∀ p' H', Same H H' → H' p' = some (.lst (xs ++ ys)) → Q (.ref p') H') : tOp rCat (tVar i) (tLst t) σ H Q :=
  ⟨_, e, rd_lst ht (by omega) fun p2 H2 sm h2 => ⟨p, p2, xs, ys, rfl, rfl, sm _ _ hp, h2, Nat.le_trans hl (by decide), fun p3 hp3 => q p3 _ (same_trans sm (same_upd hp3)) upd_same⟩⟩
def flI (k : Nat) : List Int := (flB k).map fun b => if b then (1 : Int) else 0
theorem flB_len (k : Nat) : (flB k).length = 11 := rfl
theorem TermX.isV (T : TermX X sc cl k p) {x : Expr} (h : isIs "ValueError" x = true) (hv : visB sc "e" = true) (hi : glB sc "isinstance" = true) (hg : glB sc "ValueError" = true) :
    PT X x (fun σ H Q => σ[0]? = some (some (.ref p.1)) ∧ Q true H) := by
  unfold isIs at h
  split at h
  · simp only [Bool.and_eq_true, decide_eq_true_eq] at h
    obtain ⟨⟨h1, h2⟩, h3⟩ := h
    subst h1 h2 h3
    refine PT.imp (pt_truth (pe_callB (call_isP T.mem (T.cls.ex k T.k) T.z T.f) (gl_of (by rw [T.sc]; exact hi)) (T.blt "isinstance" (by decide)) (by decide +kernel) (pa_cons (pe_var (i := 0) (by rw [T.N]; rfl) (vis_of (by rw [T.sc]; exact hv))) (pa_cons (pe_bltn (v := .ty "ValueError") (gl_of (by rw [T.sc]; exact hg)) (T.blt "ValueError" (by decide)) (by decide +kernel) rfl (by decide) (by decide)) pa_nil rfl) rfl) (by decide) (by decide) rfl rfl) (fun _ => rfl)) fun σ H Q ⟨e, q⟩ => ?_
    exact ⟨_, e, _, _, _, rfl, fun u r => r, T.cls.ve k T.k, true, rfl, q⟩
  · cases h
theorem TermX.tgF (T : TermX X sc cl k p) {s : Shared} {H : Hp} {scope : Scope} {cs : List (Str × Addr)} {C : Addr} {fp : List Addr} {pos : Pos} (lf : locB scope "flag" = true) : PG (X.blk s H scope (compEnvC scope cs C X.env) fp) (.Name "flag" pos) (gName 3) := by
  have tk := (tgOk_blk (X := X) (s := s) (H := H) (scope := scope) (cl := cs) (C := C) (fp := fp)) "flag" lf
  exact pg_name (i := 3) (by show X.N.Nodup; rw [T.N]; decide) (by show X.N[3]? = _; rw [T.N]; rfl) tk.1 tk.2
theorem TermX.elF (T : TermX X sc cl k p) {s : Shared} {H : Hp} {scope : Scope} {cs : List (Str × Addr)} {C : Addr} {fp : List Addr} {p1 p2 p3 : Pos} (gi : glB (relS scope sc) "int" = true) (vf : visB (relS scope sc) "flag" = true) :
    PE (X.blk s H scope (compEnvC scope cs C X.env) fp) (.Call (.Name "int" p1) [.Name "flag" p2] [] p3) (fun σ H Q => ∃ b, σ[3]? = some (some (.bl b)) ∧ Q (.int (if b then 1 else 0)) H) := by
  have es : (X.blk s H scope (compEnvC scope cs C X.env) fp).env.scope = relS scope sc := by rw [← T.sc]; rfl
  refine PE.imp (pe_callTy call_int1 (gl_of (by rw [es]; exact gi)) (T.blt "int" (by decide)) (by decide +kernel) (pa_cons (pe_var (i := 3) (by show X.N[3]? = _; rw [T.N]; rfl) (vis_of (by rw [es]; exact vf))) pa_nil)) fun σ H Q ⟨b, e, q⟩ => ?_
  exact ⟨_, e, .inr ⟨b, rfl, q⟩⟩
theorem rd_lc {K : PySem.W.Frag} {σ : L2.St} {H : Hp} {Q : VK} {p4 : Addr} (e4 : H p4 = some (.lst ((flB k).map V.bl))) (hv : σ[1]? = some (some (.ref p4))) (hl : σ.length = 4) (q : ∀ Dl H7, Same H H7 → H7 Dl = some (.lst ((flI k).map V.int)) → Q (.ref Dl) H7) :
    tLc (iList K (tVar 1)) (gName 3) tYes (fun σ H Q => ∃ b, σ[3]? = some (some (.bl b)) ∧ Q (.int (if b then 1 else 0)) H) [3] σ H Q := by
  refine ⟨.ref p4, hv, p4, rfl, ⟨_, SqL.of e4⟩, fun Dl hD => ?_⟩
  refine lc_it (walk_list (K := K) (xs := (flB k).map V.bl)) (g := gName 3) (tt := tYes) (te := fun σ H Q => ∃ b, σ[3]? = some (some (V.bl b)) ∧ Q (V.int (if b then 1 else 0)) H) (vs := [3]) (σ := σ) (Qd := fun H => Q (.ref Dl) H) (fun i H' => Same H H' ∧ H' Dl = some (.lst (((flI k).take i).map V.int))) ⟨same_upd hD, by simpa using upd_same⟩ (fun i H' hi ⟨sm, _⟩ => SqL.of (sm _ _ e4)) ?_ ?_
  · rintro i x Ha Hb hi ⟨sm, hd⟩ ⟨rfl, hx⟩
    have hi' : i < (flB k).length := by simpa using hi
    rw [List.getElem?_map, List.getElem?_eq_getElem hi'] at hx
    cases hx
    refine ⟨by simp [L2.wipe], ?_⟩
    unfold tYes
    dsimp only
    rw [if_pos rfl]
    refine ⟨_, by rw [List.getElem?_set_self (by simp [L2.wipe]; omega)], _, hd, ?_, fun b o e => ?_, ?_⟩
    · have : ((flI k).take i).length ≤ 11 := by rw [List.length_take]; have := flB_len k; simp [flI]; omega
      rw [List.length_map]
      exact Nat.lt_of_le_of_lt this (by decide)
    · have : b ≠ Dl := ne_of_none e hD
      rw [upd_ne this]; exact sm b o e
    · rw [upd_same]
      have h2 : i < (flI k).length := by simpa [flI] using hi'
      rw [List.take_succ, List.getElem?_eq_getElem h2]
      simp [flI]
  · rintro H7 ⟨s7, e7⟩
    have : ((flI k).take ((flB k).map V.bl).length) = flI k := List.take_of_length_le (by simp [flI])
    rw [this] at e7
    exact q Dl H7 s7 e7
theorem TermX.walk {body : List Stmt} (T : TermX X sc cl k p) (hb : isTerm sc body = true) : PSs X body (tTerm p.1 k) := by
  unfold isTerm at hb
  split at hb
  · simp only [Bool.and_eq_true, decide_eq_true_eq] at hb
    obtain ⟨⟨⟨⟨⟨⟨⟨⟨⟨⟨⟨⟨⟨⟨⟨⟨⟨⟨⟨⟨⟨⟨⟨⟨⟨⟨⟨⟨⟨⟨⟨⟨⟨⟨⟨⟨⟨⟨⟨f1, f2⟩, f3⟩, f4⟩, f5⟩, f6⟩, f7⟩, f8⟩, f9⟩, k1⟩, k2⟩, k3⟩, k4⟩, s1⟩, i1⟩, g1⟩, g2⟩, r1⟩, a1⟩, ln⟩, l1⟩, l2⟩, l3⟩, l4⟩, m1⟩, m2⟩, vv⟩, bk⟩, lf⟩, vf⟩, gi⟩, gs⟩, gn⟩, gv⟩, ge⟩, ve⟩, vfl⟩, vk⟩, lfl⟩, lk⟩ := hb
    subst f1 f2 f3 f4 f5 f6 f7 f8 f9 k1 k2 k3 k4 s1 i1 g1 g2 r1 a1
    have nd : X.N.Nodup := by rw [T.N]; decide
    have loF : L2.Loc X.env.scope "flags" := .inl (by rw [T.sc]; exact lfl)
    have loK : L2.Loc X.env.scope "kinds" := .inl (by rw [T.sc]; exact lk)
    have lF : X.fn "flags" = true ∨ X.env.scope.names.lookup ("flags" : Str) = some .local := .inr (by rw [T.sc]; exact lfl)
    have lK : X.fn "kinds" = true ∨ X.env.scope.names.lookup ("kinds" : Str) = some .local := .inr (by rw [T.sc]; exact lk)
    have viF : Vis X.env.scope "flags" := vis_of (by rw [T.sc]; exact vfl)
    have viK : Vis X.env.scope "kinds" := vis_of (by rw [T.sc]; exact vk)
    have n1 : X.N[1]? = some ("flags" : Str) := by rw [T.N]; rfl
    have n2 : X.N[2]? = some ("kinds" : Str) := by rw [T.N]; rfl
    have j1 := T.iss ve gn ge _ _ 0 l1 sub_take
    have j2 := T.iss ve gn ge _ _ 3 l2 sub_at
    have j3 := T.iss ve gn ge _ _ 6 l3 sub_at
    have j4 := T.iss ve gn ge _ _ 9 l4 sub_drop
    have mm1 := TermX.sts (X := X) _ _ m1
    have mm2 := TermX.sts (X := X) _ _ m2
    refine PSs.imp (pss_cons (ps_set (i := 1) nd n1 loF (pe_lst j1) rfl lF) (pss_cons (ps_set (i := 1) nd n1 loF (pe_op op_cat (pe_var (i := 1) n1 viF) (pe_lst j2)) rfl lF) (pss_cons (ps_set (i := 1) nd n1 loF (pe_op op_cat (pe_var (i := 1) n1 viF) (pe_lst j3)) rfl lF)
      (pss_cons (ps_set (i := 1) nd n1 loF (pe_op op_cat (pe_var (i := 1) n1 viF) (pe_lst j4)) rfl lF) (pss_cons (ps_set (i := 2) nd n2 loK (pe_lst mm1) rfl lK) (pss_cons (ps_set (i := 2) nd n2 loK (pe_op op_cat (pe_var (i := 2) n2 viK) (pe_lst mm2)) rfl lK)
      (pss_cons (ps_if (PW.pt (pw_or (pt_cmpR op_ne (pe_callB (cr_sumH T.hot) (gl_of (by rw [T.sc]; exact gs)) (T.blt "sum" (by decide)) (by decide +kernel) (pa_cons (pe_lcH (own := [("flag", 3)]) (te := fun σ H Q => ∃ b, σ[3]? = some (some (.bl b)) ∧ Q (.int (if b then 1 else 0)) H) (g := gName 3) T.hot nd (pe_var (i := 1) n1 viF) (by rw [T.N, T.sc]; exact blkOk_by bk)
          (fun s H C cl fp => T.tgF lf) (fun s H C cl fp => T.elF gi vf)) pa_nil)) pe_int rfl) (pw_or1 (pt_not (T.isV vv ve gn gv))))) pss_never pss_nil)
      (pss_one (ps_ret (pe_tup (pa_cons pe_str (pa_cons (pe_ix ix_seq (pe_var (i := 2) n2 viK) (pe_bm PySem.F.plainAttrs_list PySem.F.slot_list_index PySem.F.type_list_index mt_index (pe_var (i := 1) n1 viF) (pa_cons pe_bl pa_nil) rfl rfl ln) (fun _ _ => rfl)) pa_nil)))))))))))) fun D σ H ⟨hσ, q⟩ => ?_
    subst hσ
    simp only [tSeq, tAsg, gName]
    try dsimp only
    refine rd_lst (fun H Q q => ⟨rfl, q⟩) (Nat.le_of_ble_eq_true rfl) fun p1 H1 s1 e1 => ?_
    try dsimp only
    refine rd_cat rfl e1 (fun H Q q => ⟨rfl, q⟩) (Nat.le_of_ble_eq_true rfl) fun p2 H2 s2 e2 => ?_
    try dsimp only
    refine rd_cat rfl e2 (fun H Q q => ⟨rfl, q⟩) (Nat.le_of_ble_eq_true rfl) fun p3 H3 s3 e3 => ?_
    try dsimp only
    refine rd_cat rfl e3 (fun H Q q => ⟨rfl, q⟩) (Nat.le_of_ble_eq_true rfl) fun p4 H4 s4 e4 => ?_
    try dsimp only
    refine rd_lst (fun H Q q => q) (by decide) fun p5 H5 s5 e5 => ?_
    try dsimp only
    refine rd_cat rfl e5 (fun H Q q => q) (by decide) fun p6 H6 s6 e6 => ?_
    have e4 : H4 p4 = some (.lst ((flB k).map V.bl)) := by rw [e4]; simp [flB]; rfl
    have e46 : H6 p4 = some (.lst ((flB k).map V.bl)) := s6 _ _ (s5 _ _ e4)
    obtain ⟨fs, fk, fm⟩ := flB_ok k T.k
    unfold tIfS tOr tTest tOp tCB tCons
    dsimp only
    refine rd_lc e46 ?_ ?_ fun Dl H7 s7 e7 => ?_
    · rfl
    · rfl
    refine ⟨Dl, flI k, rfl, SqL.of e7, rfl, ?_⟩
    rw [show (flI k).sum = 1 from fs]
    refine ⟨_, rfl, iteF' (show tNot _ _ _ _ from ⟨rfl, iteF' ?_⟩)⟩
    refine ⟨.ref p6, rfl, .ref p4, rfl, .inl ⟨rfl, _, SqL.of (s7 _ _ e46)⟩, p4, _, .bl true, k, .bl true, rfl, rfl, SqL.of (s7 _ _ e46), rfl, ?_, ?_, rfl, fun m z hm hz => ?_, ?_⟩
    · exact List.all_eq_true.mpr fun z hz => by obtain ⟨b, _, rfl⟩ := List.mem_map.mp hz; rfl
    · rw [List.getElem?_map, fk]; rfl
    · rw [List.getElem?_map, fm m hm] at hz; cases hz; rfl
    · have e6' : H7 p6 = _ := s7 _ _ e6
      refine .inl ⟨p6, _, _, .str ⟨(errS k).toArray⟩, rfl, rfl, SqL.of e6', ?_, ?_⟩
      · refine atI_nat ?_
        rw [← List.map_append, List.getElem?_map, errN_at k T.k]; rfl
      · refine ⟨show 2 ≤ sizeLine by decide, fun p8 hp8 => ?_⟩
        exact q p8 _ (same_trans s1 (same_trans s2 (same_trans s3 (same_trans s4 (same_trans s5 (same_trans s6 (same_trans s7 (same_upd hp8)))))))) upd_same
  · cases hb
end
end SG
namespace SG
open PySem PySem.Spec PyProof.Rows L2 HotX L2H
section
variable {P : Program} {w : World} {K : PySem.W.Frag} {mg : Str → Option Value} {base : Heap} {cl : Nat → Addr}
theorem run_term {f : Addr} {name qual : Str} {params : Arguments} {body : List Stmt} {scope : Scope} {dV kV doc pm cdv ct oc : Value} {an od : Option Addr} {osl : Array (Option Value)}
    (lk : K.lookup f = some ⟨oc, od, .func (PySem.W.fnOf name qual params body scope dV kV doc pm an cdv ct), osl⟩) (hcd : PySem.W.codeIn K cdv qual = true) (S : FnScope termN ["e"] scope) (hT : isTerm scope body = true) (hC : ClsOk K mg cl)
    (hB : ∀ x ∈ (["sum", "int", "isinstance", "ValueError"] : List String), mg (Str.ofString x) = none)
    {A : Around} {outer : List PySem.Env} {s : Shared} {H : Hp} {args : Args} {us : List Value} {Q : VK} {p : Addr × Obj} {k : Nat} (hr : RoomH 1 A) (hot : Hot1 A p) (pin : PinOk outer H s p) (e0 : Env0 P w K mg base A outer s H)
    (hb : BindsTo s (PySem.W.fnOf name qual params body scope dV kV doc pm an cdv ct) args ((["e"] : List Str).zip us)) (r : Vals [.ref p.1] us) (hk : k < 11) (hz : Zc (.ref (cl k)) none p.2)
    (q : ∀ q H', Same H H' → H' q = some (.tup [.str ⟨errT.toArray⟩, .str ⟨(errS k).toArray⟩]) → Q (.ref q) H') : codeAny (model P w) A (.call (.ref f) args) (CR C8.CX0 outer P w H s Q C8.E0) s := by
  have KX : K.In s.heap := e0.mod.kin.keeps fun b o e => (e0.bs b o e).1
  have lim : s.heap.NoLimit := e0.mod.nolimit.keeps fun b o e => (e0.bs b o e).1
  have hkind : ∀ y ∈ (["e"] : List Str).zip us, scope.names.lookup y.1 = some .local ∨ (scope.names.lookup y.1 = some .cell ∧ ((cellsFrom (s.heap.objs.size + 1) scope.names []).lookup y.1).isSome = true) := fun ⟨n, v⟩ hy => by
    rcases S.par n (List.of_mem_zip hy).1 with z | z
    · exact .inl z
    · exact .inr ⟨z, PySem.W.cellsFrom_some _ _ _ (.inl z)⟩
  refine codeAny_call_function hr.depth (KX _ _ lk) rfl S.co S.gen rfl (PySem.W.codeRec_of KX hcd) (hb _ _ _ _ ?_)
  refine wpAny_newFunctionEnv_cells S.kind hkind fun env he s1 x => ?_
  subst he
  refine ⟨lim.keeps x.toInCall.keep, codeAny_func ?_⟩
  have T : TermX (cxH C8.CX0 P w K mg base termN qual scope f cdv A outer s H C8.E0 p) scope cl k p :=
    ⟨rfl, rfl, ⟨p, hot, List.mem_cons_self⟩, List.mem_cons_self, hz, let ⟨vs, e, _⟩ := hot.2; ⟨vs, e⟩, hC, hk, hB⟩
  have I : Inv (cxH C8.CX0 P w K mg base termN qual scope f cdv A outer s H C8.E0 p) [] (L2.start termN [.ref p.1]) H s1 := inv_startH S pin e0 rfl r x
  refine wpAny_mono ((T.walk hT).run [] s1 _ H { nx := fun _ _ => False, rt := Q } I ⟨rfl, q⟩) (fun fl s' hs => ?_) fun e s' hs => hs
  cases fl with
  | ret u =>
    obtain ⟨v, σ', H', J, rv, z⟩ := hs
    exact ⟨v, H', J.os, J.bare, J.base, J.hok, rv, z⟩
  | next =>
    obtain ⟨σ', H', J, z⟩ := hs
    exact z.elim
  | brk =>
    obtain ⟨_, _, _, z⟩ := hs
    exact False.elim z
  | cont =>
    obtain ⟨_, _, _, z⟩ := hs
    exact False.elim z
end
structure TermF (K : PySem.W.Frag) (mg : Str → Option Value) (cl : Nat → Addr) : Prop where
  ex : ∃ (f : Addr) (fd : FuncData) (st : Stmt), Fun K "_law_term" "_law_term" st f fd ∧ mg "_law_term" = some (.ref f) ∧ Binds K fd ["e"] [] ∧ FnScope termN ["e"] (defScope st) ∧ isTerm (defScope st) (defBody st) = true
  cls : ClsOk K mg cl
  blt : ∀ x ∈ (["sum", "int", "isinstance", "ValueError"] : List String), mg (Str.ofString x) = none
section
variable {X : Cx} {cl : Nat → Addr}
theorem pe_term {p : Addr × Obj} {k i : Nat} {x : Str} {q p1 pos : Pos} (F : TermF X.K X.mg cl) (hr : RoomH 1 X.A) (hot : Hot1 X.A p) (hp : p ∈ X.pn) (hk : k < 11) (hz : Zc (.ref (cl k)) none p.2) (hg : Gl X "_law_term") (hN : X.N[i]? = some x) (hv : Vis X.env.scope x)
    (hd : (x == ("__debug__" : Str)) = false) (hcd : (x == ("__classdict__" : Str)) = false) :
    PE X (.Call (.Name "_law_term" q) [.Name x p1] [] pos) (fun σ H Q => σ[i]? = some (some (.ref p.1)) ∧ ∀ q H', Same H H' → H' q = some (.tup [.str ⟨errT.toArray⟩, .str ⟨(errS k).toArray⟩]) → Q (.ref q) H') := by
  refine ⟨fun pins s σ H Q I ⟨h1, h2⟩ => ?_⟩
  obtain ⟨f, fd, st, Fu, hm, hb, S, hT⟩ := F.ex
  refine wpAny_Call_Name_kw (ld_glob I hg hm ?_ (by decide))
  have ha : PA X [.Name x p1] (tCons (tVar i) tNil) := pa_cons (pe_var hN hv hd hcd) pa_nil
  refine PySem.W.callWith_K (h₀ := X.base) I.ok.mod.kin Fu.kp (thn (ha.run pos pins s σ H (fun vs H1 => vs = [V.ref p.1] ∧ H = H1) I ⟨_, h1, rfl, rfl⟩) fun us s1 ⟨vs, H1, I1, r, ev, eH⟩ => ⟨I1.kIn, ?_⟩) rfl rfl
  subst ev
  subst eH
  have hl : us.length = 1 := by rw [← r.length]; rfl
  have b := hb s1 us I1.kIn (by rw [List.append_nil]; exact hl)
  rw [List.append_nil] at b
  have P1 := I1.pin p (List.mem_append_left _ hp)
  have hpin : PinOk X.stack H s1 p := ⟨P1.1, P1.2.1, fun hm => (List.mem_cons.mp (I1.stkSub p.1 hm)).elim P1.2.2.1 P1.2.2.2.1, P1.2.2.2.2⟩
  obtain ⟨oc, od, kV, doc, pm, an, cdv, ct, osl, rfl, lk, hcd'⟩ := Fu.ex
  refine wpAny_call (codeAny_mono (run_term (args := ⟨us, []⟩) lk hcd' S hT F.cls F.blt hr hot hpin I1.env0 b r hk hz h2) fun r s' hq => ?_)
  cases r with
  | error e => exact (show False from hq).elim
  | ok fl =>
    cases fl with
    | ret u => exact I1.after hq
    | next => exact False.elim hq
    | brk => exact False.elim hq
    | cont => exact False.elim hq
end
open LamX in
def lamCxN (X : Cx) (A : Around) (outer : List PySem.Env) (s : Shared) (H : Hp) (E : XK) (scope : Scope) (f c' : Addr) : Cx :=
  (lamCx X A outer s H E scope f c').wish fun e s' => wpAny (model X.prog X.w) (A.deeper (lamEnv X scope s.heap.objs.size f c')) (leaving (lamEnv X scope s.heap.objs.size f c') e) (fun _ s'' => L2N.CX X.prog X.w outer H s E e s'') (fun e' s'' => L2N.CX X.prog X.w outer H s E e' s'') s'
def toldN : List Str := ["deed", "e"]
def isTold (sc : Scope) : List Stmt → Bool
  | [.Try [.Return (some (.Call (.Name a _) [] [] _)) _] [.ExceptHandler (some (.Name x _)) (some n) [.Return (some (.Call (.Name t _) [.Name m _] [] _)) _] _] [] [] _] =>
    decide (a = "deed") && decide (x = "SignError") && decide (n = "e") && decide (t = "_law_term") && decide (m = "e") && glB sc "SignError" && glB sc "_law_term" && visB sc "deed" && decide (sc.names.lookup ("e" : Str) = some .local)
  | _ => false
structure ToldF (K : PySem.W.Frag) (mg : Str → Option Value) (cl : Nat → Addr) : Prop where
  tm : TermF K mg cl
  ex : ∃ (f : Addr) (fd : FuncData) (st : Stmt), Fun K "_law_told" "_law_told" st f fd ∧ mg "_law_told" = some (.ref f) ∧ Binds K fd ["deed"] [] ∧ FnScope toldN ["deed"] (defScope st) ∧ isTold (defScope st) (defBody st) = true
  sg : ∃ CS, mg "SignError" = some (.ref CS) ∧ ∀ k, k < 11 → PySem.W.exmOne K (.ref (cl k)) (.ref CS) = some true
section
open LamX
variable {X : Cx} {pins : List (Addr × Obj)} {σ : L2.St} {H : Hp} {s : Shared}
theorem pe_actN {Ng : List Str} {qg : Str} {sg : Scope} {g f c' : Addr} {cdg pm ctv : Value} {params : Arguments} {body : Expr} {scope : Scope} {k i : Nat} {a : Str} {pn : List (Addr × Obj)} {xe : Value → Shared → Prop} {W : WX} {E : XK} {tb : TE} {p1 p2 : Pos}
    (I : Inv X pins σ H s) (L : LamS X.env.scope scope) (hf : s.heap.get? f = some (PySem.W.kla_obj "<lambda>" (X.env.qual ++ "<lambda>") params body scope (cloFrom X.env.cells scope.names []) pm c' ctv)) (hfn : H f = none) (hfr : f ∉ frs X.stack)
    (hbind : bindArgs (PySem.W.kla_fn "<lambda>" (X.env.qual ++ "<lambda>") params body scope (cloFrom X.env.cells scope.names []) pm (.ref c') ctv) ⟨[], []⟩ = pure [])
    (tk : L2N.Takes ((cxOf C8.CX0 X.prog X.w X.K X.mg X.base Ng qg sg g cdg X.A X.stack s H C8.E0).tr pn xe) W) (hr : Room (k + 1) (X.A.deeper (envOfC qg sg s.heap.objs.size g cdg)))
    (hbody : ∀ (A : Around) (outer : List PySem.Env) (s : Shared) (H : Hp), Room k (A.deeper (lamEnv X scope s.heap.objs.size f c')) → PE (lamCxN X A outer s H E scope f c') body tb)
    (hN : Ng[i]? = some a) (hv : Vis sg a) (hd : (a == ("__debug__" : Str)) = false) (hcd : (a == ("__classdict__" : Str)) = false) :
    PE ((cxOf C8.CX0 X.prog X.w X.K X.mg X.base Ng qg sg g cdg X.A X.stack s H C8.E0).tr pn xe) (.Call (.Name a p1) [] [] p2)
      (fun σZ HZ Q => (∀ cls d H', E cls d H' → W cls d σZ H') ∧ σZ[i]? = some (some (.ref f)) ∧ HZ c' = some (CodeO c' (X.env.qual ++ "<lambda>")) ∧ tb σ HZ Q) := by
  refine ⟨fun pinsZ sZ σZ HZ Q IZ h => ?_⟩
  obtain ⟨hW, hs, hc, ht⟩ := h
  refine wpAny_Call_Name_kw (thn ((pe_var (pos := p1) (i := i) hN hv hd hcd).run pinsZ sZ σZ HZ (fun v H1 => v = .ref f ∧ H1 = HZ) IZ ⟨.ref f, hs, rfl, rfl⟩) fun u s1 ⟨v, H1, I1, r1, q1⟩ => ?_)
  obtain ⟨ev, eH⟩ := q1
  subst ev
  rw [eH] at I1
  obtain rfl : u = Value.ref f := r1
  have of1 := I1.base.keep f _ hf hfn hfr (fun z => nomatch (show f ∈ ([] : List Addr) from z))
  refine PySem.W.callWith_F0 ⟨_, _, _, _, of1⟩ ?_
  have un : Un (frs X.stack) [] H HZ s.heap s1.heap := I1.base
  obtain ⟨⟨oc, vs, t, hoc, hdc, hvc⟩, _, _⟩ := I1.hok c' _ hc
  have rc : codeAny (model X.prog X.w) (X.A.deeper (envOfC qg sg s.heap.objs.size g cdg)) (.call (.ref f) ⟨[], []⟩) (CR (L2N.CX X.prog X.w) (envOfC qg sg s.heap.objs.size g cdg :: X.stack) X.prog X.w HZ s1 Q E) s1 := by
    refine PySem.W.kla_callFunE hr.depth of1 rfl L.co L.gen rfl ⟨c', oc, vs, t, rfl, hoc, hdc, hvc⟩ ?_
    rw [hbind]
    refine wpAny_pure (wpAny_newFunctionEnv (fun y hy => (L.own y hy).2) (fun y hy => absurd hy (by simp)) (fun h₁ hns hsb => ⟨I1.nolimit.fresh _ hsb, ?_⟩) L.kind)
    show codeAny _ _ (.expr body (lamEnv X scope s1.heap.objs.size f c')) _ _
    have kp : ∀ b o, s1.heap.get? b = some o → h₁.get? b = some o := fun b o e => hsb.extBut b o (Nat.ne_of_lt (Heap.lt_size e)) (Heap.get?_push_of_some _ e)
    have J0 := lam_start2 (E := E) (f := f) (c' := c') (tk := s1.toks + ([] : List (Str × Value)).length) I L I1.env0 hr.hd un hns kp
    have J : Inv (lamCxN X (X.A.deeper (envOfC qg sg s.heap.objs.size g cdg)) (envOfC qg sg s.heap.objs.size g cdg :: X.stack) s1 HZ E scope f c') [] σ HZ { s1 with heap := h₁, toks := s1.toks + ([] : List (Str × Value)).length } := J0.wish _
    refine PySem.W.kla_codeExpr (wpAny_mono ((hbody _ _ s1 HZ (hr.deeper _)).run [] _ _ HZ Q J ht) (fun v s' hq => ?_) fun e s' hq => hq)
    obtain ⟨w', H', J', rv, q⟩ := hq
    exact ⟨w', H', J'.os, J'.bare, J'.base, J'.hok, rv, q⟩
  refine wpAny_call (codeAny_mono rc fun r s' hq => ?_)
  cases r with
  | error e => exact tk e s' (L2N.XE.of_call I1 (fun cls d H' h => hW cls d H' h) hq)
  | ok fl =>
    cases fl with
    | ret u => exact I1.after hq
    | next => exact False.elim hq
    | brk => exact False.elim hq
    | cont => exact False.elim hq
theorem lam_par {params : Arguments} (h : noPar params = true) : (∀ env, defaultsOf params env = ([], [])) ∧ ∀ (body : Expr) (scope : Scope) (q : Str) (cl : List (Str × Addr)) (pm cv ctv : Value), bindArgs (PySem.W.kla_fn "<lambda>" q params body scope cl pm cv ctv) ⟨[], []⟩ = pure [] := by
  unfold noPar at h
  split at h
  · exact ⟨fun _ => rfl, fun _ _ _ _ _ _ _ => rfl⟩
  · cases h
theorem told_rule {c : Cn} {k : Nat} {P : Program} {w : World} {K : PySem.W.Frag} {mg : Str → Option Value} {base : Heap} (F : ToldF K mg c.cl) : ToldR c k P w K mg base := by
  intro X e1 e2 e3 e4 e5 hc hr hcode params body scope lpos p pos t hg hl hp hbody
  subst e1 e2 e3 e4 e5
  obtain ⟨cc, PT, hcd, TB, hmT, hu⟩ := hcode
  obtain ⟨g, fd, st, Fu, hm, hb, Sg, isT⟩ := F.ex
  obtain ⟨CS, hCS, hex⟩ := F.sg
  obtain ⟨oc, od, kV, doc, pm, an, cdv, ct, osl, rfl, lk, hcg⟩ := Fu.ex
  obtain ⟨hdef, hbind⟩ := lam_par hp
  have L := lamS_by hl
  refine ⟨fun pins s σ H Q I h => ?_⟩
  obtain ⟨hT, h⟩ := h
  refine wpAny_Call_Name_kw (ld_glob I (gl_of hg) hm ?_ (by decide))
  refine PySem.W.callWith_K (h₀ := X.base) I.ok.mod.kin Fu.kp ?_ (by rfl) (by rfl)
  show wpAny _ _ (spliced ((false, eval (.Lambda params body scope lpos) X.env) :: backTo pos (starEach [] X.env))) _ _ s
  refine Calls.spliced_cons (lam_make2 I TB hcd hmT hu hT (hdef _) (L.has I.ok) fun f c' pm' ctv H1 s' I1 eN T1 hf hfn hfr hco => ?_)
  refine Calls.spliced_nil ⟨I1.kIn, ?_⟩
  have hq := h H1 eN T1
  have rc : codeAny (model X.prog X.w) X.A (.call (.ref g) ⟨[.ref f], []⟩) (CR C8.CX0 X.stack X.prog X.w H1 s' Q C8.E0) s' := by
    refine run_ofS (N := toldN) (ps := ["deed"]) (us := [.ref f]) (vs := [.ref f]) lk hcg Sg hr I1.env0 (hb s' [.ref f] I1.kIn rfl) (.cons rfl .nil) rfl fun hr' => ?_
    unfold isTold at isT
    split at isT
    · rename_i hbe
      simp only [Bool.and_eq_true, decide_eq_true_eq] at isT
      obtain ⟨⟨⟨⟨⟨⟨⟨⟨z1, z2⟩, z3⟩, z4⟩, z5⟩, g1⟩, g2⟩, v1⟩, le⟩ := isT
      subst z1 z2 z3 z4 z5
      rw [hbe]
      generalize hZ : (cxOf C8.CX0 X.prog X.w X.K X.mg X.base toldN "_law_told" (defScope st) g cdv X.A X.stack s' H1 C8.E0).nox = Z
      have ZK : Z.K = X.K := by rw [← hZ]; rfl
      have Zm : Z.mg = X.mg := by rw [← hZ]; rfl
      have Zs : Z.env.scope = defScope st := by rw [← hZ]; rfl
      have ZN : Z.N = toldN := by rw [← hZ]; rfl
      have ZA : RoomH 1 Z.A := by rw [← hZ]; exact (roomH_of hr').mono (by omega)
      have st1 : Z.stack = Z.env :: Z.outer := by rw [← hZ]; rfl
      have st2 : Z.env.frame = some Z.env.locals := by rw [← hZ]; rfl
      have tr : ∀ (W : WX) (pn : List (Addr × Obj)) (xe : Value → Shared → Prop) (p1 p2 p3 : Pos), L2N.Takes (Z.tr pn xe) W → PSs (Z.tr pn xe) [.Return (some (.Call (.Name "deed" p1) [] [] p2)) p3]
          (fun D σZ HZ => ∃ Ech : XK, (∀ cls d H', Ech cls d H' → W cls d σZ H') ∧ σZ[0]? = some (some (.ref f)) ∧ HZ c' = some (CodeO c' (X.env.qual ++ "<lambda>")) ∧ t (fun cls d _ H' => Ech cls d H') σ HZ D.rt) := by
        intro W pn xe p1 p2 p3 tk
        refine ⟨fun pinsZ sZ σZ HZ D IZ hh => ?_⟩
        obtain ⟨Ech, hW, h1, h2, h3⟩ := hh
        subst hZ
        exact (pss_one (ps_ret (pos := p3) (pe_actN (pn := pn) (xe := xe) (p1 := p1) (p2 := p2) (i := 0) (k := k) (E := Ech) I1 L hf hfn hfr (hbind _ _ _ _ _ _ _) tk hr' (fun A outer s H hr2 =>
          hbody (lamCxN X A outer s H Ech scope f c') (fun cls d _ H' => Ech cls d H') ⟨rfl, rfl, rfl, rfl, rfl, rfl⟩ rfl hr2 rfl (L2N.takes_of rfl rfl rfl rfl)) rfl (vis_of v1) (by decide) (by decide)))).run pinsZ sZ σZ HZ D IZ ⟨hW, h1, h2, h3⟩
      have su : ∀ (a : Addr) (oe : Obj) (cls : Value) (d : Option Addr) (pn : List (Addr × Obj)) (p1 p2 p3 p4 : Pos), L2N.Zn cls d oe → (∃ vs, oe.data = .fields vs) → PSs (Z.suite a ((a, oe) :: pn)) [.Return (some (.Call (.Name "_law_term" p1) [.Name "e" p2] [] p3)) p4]
          (fun D σZ HZ => ∃ n, n < 11 ∧ cls = .ref (c.cl n) ∧ d = none ∧ σZ[1]? = some (some (.ref a)) ∧ ∀ q H', Same HZ H' → H' q = some (.tup [.str ⟨errT.toArray⟩, .str ⟨(errS n).toArray⟩]) → D.rt (.ref q) H') := by
        intro a oe cls d pn p1 p2 p3 p4 zn ⟨vs, hvs⟩
        refine ⟨fun pinsZ sZ σZ HZ D IZ hh => ?_⟩
        obtain ⟨n, hn, ec, ed, h1, h2⟩ := hh
        subst ec ed
        refine (pss_one (ps_ret (pos := p4) (pe_term (X := Z.suite a ((a, oe) :: pn)) (cl := c.cl) (p := (a, oe)) (k := n) (i := 1) (q := p1) (p1 := p2) (pos := p3) ?_ ?_ ⟨rfl, vs, hvs, zn.2.2 vs hvs⟩ List.mem_cons_self hn zn.zc ?_ ?_ ?_ (by decide) (by decide)))).run pinsZ sZ σZ HZ D IZ ⟨h1, h2⟩
        · show TermF Z.K Z.mg c.cl
          rw [ZK, Zm]; exact F.tm
        · exact ⟨ZA.dp, ZA.un⟩
        · exact gl_of (by show glB Z.env.scope _ = true; rw [Zs]; exact g2)
        · show Z.N[1]? = _; rw [ZN]; rfl
        · show Vis Z.env.scope _; rw [Zs]; exact .inl le
      refine ⟨_, (pss_one (L2N.ps_try_as (X := Z) (i := 1) (c := .ref CS) st1 st2 (by rw [ZN]; decide) (by rw [ZN]; rfl) (by show Z.env.scope.names.lookup _ = _; rw [Zs]; exact le) ⟨gl_of (by rw [Zs]; exact g1), by decide, .inl (by rw [Zm]; exact hCS)⟩ (takes0 (X := Z)) (fun W pn xe tk _ => tr W pn xe _ _ _ tk) (fun a oe cls d pn zn hv => su a oe cls d pn _ _ _ _ zn hv))) |> fun h => (by subst hZ; exact h.nox), ?_⟩
      refine ⟨fun cls dd H' => ∃ n, n < 11 ∧ cls = .ref (c.cl n) ∧ dd = none ∧ ∀ q H'', Same H' H'' → H'' q = some (.tup [.str ⟨errT.toArray⟩, .str ⟨(errS n).toArray⟩]) → Q (.ref q) H'', fun cls d H' ⟨n, hn, ec, ed, hh⟩ => ?_, rfl, hco, hq⟩
      subst ec ed
      refine ⟨true, hex n hn, fun _ a na => ⟨n, hn, rfl, rfl, rfl, hh⟩, fun z => (by cases z)⟩
    · cases isT
  refine wpAny_call (codeAny_mono rc fun r s2 hq => ?_)
  cases r with
  | error e => exact (show False from hq).elim
  | ok fl =>
    cases fl with
    | ret u => exact I1.after hq
    | next => exact False.elim hq
    | brk => exact False.elim hq
    | cont => exact False.elim hq
end
end SG
namespace SG
open PySem PySem.Spec PyProof.Rows L2
def lawBody : List Stmt → List Stmt
  | [.For _ _ body [] _, _] => body
  | _ => []
def isLaw (sc : Scope) : List Stmt → Bool
  | [.For (.Name x _) (.Call (.Name r _) [.Name a _, .Constant (.int m) _ _] [] _) body [] _, .Return (some (.Constant (.bool true) _ _)) _] =>
    decide (x = "dice") && decide (r = "_law_rounds") && decide (a = "script") && decide (m ≤ 900) && glB sc "_law_rounds" && locB sc "dice" && visB sc "script"
  | _ => false
def env0 (n : Nat) : Env := (List.replicate n Sl.no).set 1 (.sh .die)
def spLaw (K : PySem.W.Frag) (T : List (Addr × Str)) : Sp := fun vs H Q _ => ∃ (a : Addr) (ns : List Int), vs = [.ref a] ∧ SqL K H a (ns.map V.int) ∧ ns.length ≤ 63 ∧ LamX.Tabs T H ∧ ∀ H', Q (.bl true) H'
def lamQ : Str := ("law" : Str) ++ ".<locals>." ++ "<lambda>"
section
variable {P : Program} {w : World} {K : PySem.W.Frag} {mg : Str → Option Value} {base : Heap} {tb : Tb} {er : Nat → Option Str} {cl : Nat → Addr} {T : List (Addr × Str)} {lam : Bool}
theorem ok_law {defs : Nat → Option Df} {st : Stmt} {f fR : Addr} {fd fdR : FuncData} {k : Nat} {N : List Str} {b : S} (M : Mods tb er cl K mg) (hD : ∀ p ∈ tb, defs p.1 = some p.2.df) (F : Fun K "law" "law" st f fd) (hsc : scB N ["script"] (defScope st) = true) (h0 : N[0]? = some ("script" : Str)) (h1 : N[1]? = some ("dice" : Str)) (hb : isLaw (defScope st) (defBody st) = true)
    (hlam : lam = true → ToldF K mg cl ∧ ∃ cc PT, fd.code = .ref cc ∧ LamX.TabB base mg cc PT ∧ T = [(PT, lamQ)])
    (hch : chkS ⟨N, tb.fnm, er, lam⟩ (defScope st) b (.many (lawBody (defBody st))) = true)
    (FR : FnOk P w K mg base (L2N.CX P w) k fR fdR ["script", "most"] (spR K)) (mR : mg "_law_rounds" = some (.ref fR)) (kR : PySem.W.keepIn K (.ref fR) = true) (bR : Binds K fdR ["script", "most"] [])
    (hlaw : ∀ d : Dice, ∃ env' d', evS (evCall defs k) b (env0 N.length) d = .nx env' d' ∧ env'.length = N.length) : FnOk P w K mg base (L2N.CX P w) (k + 3) f fd ["script"] (spLaw K T) := by
  have S := scB_ok hsc
  refine okN (k := k + 2) F S (fun vs H Q E h => ?_) fun cdv A outer s H vs Q E hcv hr h => ?_
  · obtain ⟨a, ns, rfl, _⟩ := h; rfl
  · obtain ⟨a, ns, rfl, hS, hlen, hTb, q⟩ := h
    unfold isLaw at hb
    split at hb
    · rename_i hbe
      simp only [Bool.and_eq_true, decide_eq_true_eq] at hb
      obtain ⟨⟨⟨⟨⟨⟨e1, e2⟩, e3⟩, e4⟩, g1⟩, g2⟩, g3⟩ := hb
      subst e1 e2 e3
      rw [hbe] at hch
      simp only [lawBody] at hch
      rw [hbe]
      rename_i _ _ _ body _ _ _ _
      have gf := fun (dc : Addr) => cx_gf (P := P) (w := w) (K := K) (mg := mg) (base := base) (tb := tb) (er := er) (lam := lam) (c := ⟨dc, T, cl⟩) (td := ⟨"", .Pass ⟨0, 0, 0, 0⟩, [], ⟨0, 0, .nil⟩⟩) (cf := evCall defs k) (E := E) (outer := outer) (H := H) S (hr.mono (by omega)) M.blt M.cls (fns_ok M hD ⟨dc, T, cl⟩ rfl k) (fun hl => by
        obtain ⟨tf, cc, PT, e1, tb, rfl⟩ := hlam hl
        refine ⟨⟨cc, PT, hcv.symm.trans e1, tb, List.mem_cons_self, fun p hp _ => ?_⟩, hr, told_rule tf⟩
        rw [List.mem_singleton.mp hp]; rfl)
      generalize hX : cxOf (L2N.CX P w) P w K mg base N "law" (defScope st) f cdv A outer s H E = X at gf ⊢
      have XN : X.N = N := by rw [← hX]; rfl
      have XK' : X.K = K := by rw [← hX]; rfl
      have Xm : X.mg = mg := by rw [← hX]; rfl
      have Xs : X.env.scope = defScope st := by rw [← hX]; rfl
      have XA : Room k X.A := by rw [← hX]; exact hr.mono (by omega)
      have FR' : FnOk X.prog X.w X.K X.mg X.base (L2N.CX X.prog X.w) k fR fdR ["script", "most"] (spR X.K) := by rw [← hX]; exact FR
      have g0 := gf 0
      have nd : X.N.Nodup := by rw [XN]; exact S.nd
      have pb : PSs X body (fun D σ H2 => ∃ dc Fb Hb, tS ⟨dc, T, cl⟩ Fb Hb (evCall defs k) (fun cls d _ H' => E cls d H') b D σ H2) :=
        ⟨fun pins s2 σ H2 D I ⟨dc, Fb, Hb, q⟩ => (soundS (Fb := Fb) (Hb := Hb) (gf dc) b (.many body) (by rw [Xs]; exact hch)).run pins s2 σ H2 D I q⟩
      have tgd := g0.tg "dice" (by rw [Xs]; exact g2)
      refine ⟨_, pss_cons (ps_for g0.hp g0.G.calm (pi_list (pe_callS FR' XA (gl_of (by rw [Xs]; exact g1)) (by rw [Xm]; exact mR) (by rw [XK']; exact kR) (by rw [XK']; exact bR) (fun σ => L2N.passAt g0.tk σ)
          (pa_cons (pe_var (i := 0) (by rw [XN]; exact h0) (vis_of (by rw [Xs]; exact g3))) (pa_cons pe_int pa_nil)))) (pg_name (i := 1) nd (by rw [XN]; exact h1) tgd.1 tgd.2) pb) (pss_one (ps_ret pe_bl)), ?_⟩
      rw [XK']
      have h1N : 1 < N.length := (List.getElem?_eq_some_iff.mp h1).1
      refine ⟨.ref a, rfl, a, ns, _, rfl, hS, by omega, e4, fun R ps H1 sm hR nR np hp => ⟨R, rfl, ⟨_, SqL.of hR⟩, ?_⟩⟩
      refine ⟨fun i m σ H2 => i + m = ps.length ∧ σ.length = N.length ∧ H2 R = some (.lst (ps.map V.ref)) ∧ LamX.Tabs T H2 ∧ ∀ (j : Nat) p, i ≤ j → ps[j]? = some p → ∃ z, H2 p = some (.lst [.int z, .int 0]), ⟨ps.length, by omega, ?_, hR, hTb.ext sm, fun j p _ e => hp p (List.mem_of_getElem? e)⟩, ?_⟩
      · unfold L2.start; simp; omega
      · rintro i m σ H2 ⟨em, el, eR, eT, ep⟩
        by_cases hi : i < ps.length
        · have gi : (ps.map V.ref)[i]? = some (.ref ps[i]) := by rw [List.getElem?_map, List.getElem?_eq_getElem hi]; rfl
          have gp : ps[i]? = some ps[i] := List.getElem?_eq_getElem hi
          refine .inr ⟨⟨_, _, SqL.of eR, gi⟩, fun σ' H' => σ'.length = N.length ∧ H' R = some (.lst (ps.map V.ref)) ∧ LamX.Tabs T H' ∧ ∀ (j : Nat) p, i + 1 ≤ j → ps[j]? = some p → ∃ z, H' p = some (.lst [.int z, .int 0]), fun σ' H' z => ⟨m - 1, by omega, by omega, z.1, z.2.1, z.2.2.1, z.2.2.2⟩, fun x H' hy => ?_⟩
          obtain ⟨rfl, hx⟩ := hy
          have ex := Option.some.inj ((hx _ (SqL.of eR)).symm.trans gi)
          subst ex
          obtain ⟨z, hz⟩ := ep i ps[i] (Nat.le_refl _) gp
          obtain ⟨env', d', ev, elen⟩ := hlaw (z, 0)
          have nRp : R ≠ ps[i] := fun e => nR (e ▸ List.mem_of_getElem? gp)
          have keyE : ∀ (j : Nat) s, s ≠ Sl.no → (env0 N.length)[j]? = some s → j = 1 ∧ s = .sh .die := fun j s hs e => by
            unfold env0 at e
            by_cases hj : j = 1
            · subst hj
              rw [List.getElem?_set_self (by simpa using h1N)] at e
              exact ⟨rfl, (Option.some.inj e).symm⟩
            · rw [List.getElem?_set_ne (Ne.symm hj), List.getElem?_replicate] at e
              split at e <;> cases e
              exact absurd rfl hs
          refine ⟨ps[i], fun _ => False, H', env0 N.length, (z, 0), fun _ => False, ⟨⟨⟨fun _ h => h.elim, fun h => h, hz, eT⟩, ?_, fun j x e => ?_, fun j xs e => ?_, fun j k xs ys p e => ?_⟩, .refl, fun j xs p e => ?_⟩, ?_⟩
          · unfold env0; simp [el]
          · obtain ⟨rfl, e2⟩ := keyE j _ (by simp) e
            cases e2
            exact ⟨.ref ps[i], by rw [List.getElem?_set_self (by omega)], .die⟩
          · obtain ⟨_, e2⟩ := keyE j _ (by simp) e; cases e2
          · obtain ⟨_, e2⟩ := keyE j _ (by simp) e; cases e2
          · obtain ⟨_, e2⟩ := keyE j _ (by simp) e; cases e2
          · rw [ev]
            intro σ' H3 F' _ fs
            refine ⟨by rw [← fs.es.len, elen], fs.st.keep R _ eR nRp (by intro ps z; cases z), fs.es.wf.tabs, fun j p hj e => ?_⟩
            obtain ⟨z', hz'⟩ := ep j p (by omega) e
            have hjl := (List.getElem?_eq_some_iff.mp e).1
            have hpj := (List.getElem?_eq_some_iff.mp e).2
            have : p ≠ ps[i] := fun e2 => by
              exact List.pairwise_iff_getElem.mp np i j hi hjl (by omega) (by rw [hpj]; exact e2.symm)
            exact ⟨z', fs.st.keep p _ hz' this (by intro ps z; cases z)⟩
        · refine .inl ⟨⟨_, SqL.of eR, by simp; omega⟩, q _⟩
    · cases hb
end
end SG
namespace SG
open PySem PySem.Spec PyProof.Rows L2
def FnAt (K : PySem.W.Frag) (x : Str) (st : Stmt) : Prop := ∃ (f : Addr) (oc : Value) (od : Option Addr) (kV doc pm : Value) (an : Option Addr) (cdv ct : Value) (osl : Array (Option Value)),
  PySem.W.nsIn K mainGlobals x = some (some (.ref f)) ∧ K.lookup f = some ⟨oc, od, .func (PySem.W.fnOf x x (defArgs st) (defBody st) (defScope st) .none kV doc pm an cdv ct), osl⟩ ∧ PySem.W.codeIn K cdv x = true ∧ PySem.W.keepIn K (.ref f) = true
theorem at_mk {K : PySem.W.Frag} {x : Str} {st : Stmt} {f : Addr} {oc : Value} {od an : Option Addr} {osl : Array (Option Value)} {kV doc pm cdv ct : Value} (a : PySem.W.nsIn K mainGlobals x = some (some (.ref f)))
    (l : K.lookup f = some ⟨oc, od, .func (PySem.W.fnOf x x (defArgs st) (defBody st) (defScope st) .none kV doc pm an cdv ct), osl⟩) (c : PySem.W.codeIn K cdv x = true) (k : PySem.W.keepIn K (.ref f) = true) : FnAt K x st := ⟨f, oc, od, kV, doc, pm, an, cdv, ct, osl, a, l, c, k⟩
def BindOk (x : Str) (st : Stmt) (ps : List Str) : Prop := ∀ (kV doc pm : Value) (an : Option Addr) (cdv ct : Value) (us : List Value), us.length = ps.length → bindArgs (PySem.W.fnOf x x (defArgs st) (defBody st) (defScope st) .none kV doc pm an cdv ct) ⟨us, []⟩ = pure (ps.zip us)
theorem FnAt.get {K : PySem.W.Frag} {x : Str} {st : Stmt} {h : Heap} {mg : Str → Option Value} {ps : List Str} (q : FnAt K x st) (KX : K.In h) (G : h.Ns mainGlobals mg) (b : BindOk x st ps) : ∃ f fd, Fun K x x st f fd ∧ mg x = some (.ref f) ∧ Binds K fd ps [] := by
  obtain ⟨f, oc, od, kV, doc, pm, an, cdv, ct, osl, a, l, c, k⟩ := q
  have F := fun_mk (st := st) l c k
  exact ⟨f, _, F, PySem.W.mg_of KX G a, F.binds b⟩
def isB (o : Option (Option Value)) (s : String) : Bool := match o with
  | some (some (.builtin n)) => n == s
  | _ => false
theorem isB_ok {o : Option (Option Value)} {s : String} (h : isB o s = true) : o = some (some (.builtin s)) := by
  unfold isB at h
  split at h
  · rw [beq_iff_eq.mp h]
  · cases h
def isZ (o : Option (Option Value)) : Bool := match o with
  | some none => true
  | _ => false
theorem isZ_ok {o : Option (Option Value)} (h : isZ o = true) : o = some none := by
  unfold isZ at h
  split at h
  · rfl
  · cases h
def isT (o : Option Value) (s : String) : Bool := match o with
  | some (.type n) => n == s
  | _ => false
theorem isT_ok {o : Option Value} {s : String} (h : isT o s = true) : o = some (.type s) := by
  unfold isT at h
  split at h
  · rw [beq_iff_eq.mp h]
  · cases h
def veM : List Value := [.type "ValueError", .type "Exception", .type "BaseException", .type "object"]
def clB (K : PySem.W.Frag) (CS c : Addr) : Bool :=
  PySem.W.keepIn K (.ref c) && PySem.W.excIn K c veM "ValueError.__new__" && (PySem.W.subIn K (.ref c) (.type "BaseException") == some true) && isT (PySem.W.typeIn K (.ref c)) "type" &&
    isB (PySem.W.findIn K (.ref c) "__getattribute__") "BaseException.__getattribute__" && isZ (PySem.W.findIn K (.ref c) "__getattr__") && PySem.W.hasDictIn K c && isB (PySem.W.findIn K (.ref c) "__class__") "object.__class__" &&
    isB (PySem.W.specialIn K (.builtin "object.__class__") "__get__") "getset_descriptor.__get__" && (PySem.W.takesIn K (.builtin "object.__class__") == some true) && (PySem.W.mroIn K c (.type "object") == some true) &&
    (PySem.W.kitOne K (.ref c) (.type "ValueError") == some true) && (PySem.W.exmOne K (.ref c) (.ref CS) == some true)
def clsB (K : PySem.W.Frag) (CS : Addr) (cl : List Addr) : Bool :=
  (List.range 11).all (fun k => clB K CS (cl.getD k 0)) && (List.range 11).all fun k => (List.range 11).all fun j => PySem.W.kitOne K (.ref (cl.getD k 0)) (.ref (cl.getD j 0)) == some (decide (k = j))
def errO : Nat → Option Str := fun j => errN[j]?
section
variable {K : PySem.W.Frag} {h : Heap} {mg : Str → Option Value} {CS : Addr} {cl : List Addr}
theorem cls_ok (KX : K.In h) (G : h.Ns mainGlobals mg) (hb : clsB K CS cl = true) (hn : ∀ j nm, errN[j]? = some nm → PySem.W.nsIn K mainGlobals nm = some (some (.ref (cl.getD j 0)))) :
    ClsOk K mg (fun j => cl.getD j 0) ∧ (∀ j nm, errO j = some nm → RaiseF (fun j => cl.getD j 0) K mg j nm) ∧ ∀ k, k < 11 → PySem.W.exmOne K (.ref (cl.getD k 0)) (.ref CS) = some true := by
  unfold clsB at hb
  rw [Bool.and_eq_true] at hb
  obtain ⟨h1, h2⟩ := hb
  have c1 : ∀ k, k < 11 → clB K CS (cl.getD k 0) = true := fun k hk => List.all_eq_true.mp h1 k (List.mem_range.mpr hk)
  have c2 : ∀ j k, j < 11 → k < 11 → PySem.W.kitOne K (.ref (cl.getD k 0)) (.ref (cl.getD j 0)) = some (decide (k = j)) := fun j k hj hk => beq_iff_eq.mp (List.all_eq_true.mp (List.all_eq_true.mp h2 k (List.mem_range.mpr hk)) j (List.mem_range.mpr hj))
  have db : ∀ z ∈ errN, (z == ("__debug__" : Str)) = false := by decide
  have lt : ∀ j nm, errN[j]? = some nm → j < 11 := fun j nm e => (List.getElem?_eq_some_iff.mp e).1
  have all : ∀ k, k < 11 → _ := fun k hk => by
    have := c1 k hk
    unfold clB at this
    simp only [Bool.and_eq_true] at this
    exact this
  refine ⟨⟨fun j nm e => PySem.W.mg_of KX G (hn j nm e), fun j hj => (all j hj).1.1.1.1.1.1.1.1.1.1.1.1, c2, fun k hk => ?_, fun k hk => ?_⟩, fun j nm e => ?_, fun k hk => ?_⟩
  · obtain ⟨⟨⟨⟨⟨⟨⟨⟨⟨⟨⟨⟨a1, a2⟩, a3⟩, a4⟩, a5⟩, a6⟩, a7⟩, a8⟩, a9⟩, a10⟩, a11⟩, a12⟩, a13⟩ := all k hk
    exact beq_iff_eq.mp a12
  · obtain ⟨⟨⟨⟨⟨⟨⟨⟨⟨⟨⟨⟨a1, a2⟩, a3⟩, a4⟩, a5⟩, a6⟩, a7⟩, a8⟩, a9⟩, a10⟩, a11⟩, a12⟩, a13⟩ := all k hk
    exact ⟨isB_ok a5, isZ_ok a6, beq_iff_eq.mp a3, a7, isB_ok a8, isB_ok a9, beq_iff_eq.mp a10, beq_iff_eq.mp a11⟩
  · obtain ⟨⟨⟨⟨⟨⟨⟨⟨⟨⟨⟨⟨a1, a2⟩, a3⟩, a4⟩, a5⟩, a6⟩, a7⟩, a8⟩, a9⟩, a10⟩, a11⟩, a12⟩, a13⟩ := all j (lt j nm e)
    exact ⟨a2, PySem.W.mg_of KX G (hn j nm e), a1, beq_iff_eq.mp a3, isT_ok a4, db nm (List.mem_of_getElem? e)⟩
  · obtain ⟨⟨⟨⟨⟨⟨⟨⟨⟨⟨⟨⟨a1, a2⟩, a3⟩, a4⟩, a5⟩, a6⟩, a7⟩, a8⟩, a9⟩, a10⟩, a11⟩, a12⟩, a13⟩ := all k hk
    exact beq_iff_eq.mp a13
end
def codeOf (K : PySem.W.Frag) (f : Addr) : Addr := match K.lookup f with
  | some ⟨_, _, .func fd, _⟩ => (match fd.code with | .ref c => c | _ => 0)
  | _ => 0
def tabOf (K : PySem.W.Frag) (c : Addr) : Addr := match K.lookup c with
  | some ⟨_, _, .fields vs, _⟩ => (match (vs[11]? : Option Value) with | some (.ref P) => P | _ => 0)
  | _ => 0
theorem codeHd_in {K : PySem.W.Frag} {c P : Addr} (e : PySem.W.codeHdIn K c P = true) : ∃ e dd vs sl, K.lookup c = some ⟨e, dd, .fields vs, sl⟩ ∧ (vs[11]? : Option Value) = some (.ref P) := by
  unfold PySem.W.codeHdIn at e
  split at e
  · rename_i vs _ hk
    simp only [Bool.and_eq_true] at e
    obtain ⟨⟨⟨⟨⟨e1, e2⟩, e3⟩, e4⟩, e5⟩, e6⟩ := e
    split at e1
    · rename_i P' h11
      have hP : P' = P := beq_iff_eq.mp e1
      subst hP
      exact ⟨_, _, vs, _, hk, h11⟩
    · cases e1
  · cases e
theorem codeIn_ref {K : PySem.W.Frag} {cd : Value} {q : Str} (e : PySem.W.codeIn K cd q = true) : ∃ c, cd = .ref c := by
  unfold PySem.W.codeIn at e
  split at e
  · exact ⟨_, rfl⟩
  · cases e
theorem fin {P : Program} {w : World} {K : PySem.W.Frag} {h : Heap} {mg : Str → Option Value} {fa : Addr} {tab : Tb} {defs : Nat → Option Df} {N : List Str} {b : S} {k : Nat} {sLaw sCell sRounds : Stmt} (KX : K.In h) (G : h.Ns mainGlobals mg) (hfa : mg "law" = some (.ref fa))
    (tab_ok : ∀ p ∈ tab, p.2.ok tab.fnm (fun _ => none) = true) (tab_defs : ∀ p ∈ tab, defs p.1 = some p.2.df) (tab_bd : ∀ p ∈ tab, BindOk p.2.nm p.2.st (p.2.N.take p.2.df.ps)) (tab_at : ∀ p ∈ tab, FnAt K p.2.nm p.2.st)
    (qL : FnAt K "law" sLaw) (qC : FnAt K "_law_cell" sCell) (qR : FnAt K "_law_rounds" sRounds) (bL : BindOk "law" sLaw ["script"]) (bC : BindOk "_law_cell" sCell cellN) (bR : BindOk "_law_rounds" sRounds ["script", "most"])
    (blt : ∀ x ∈ bltNames, PySem.W.nsIn K mainGlobals (Str.ofString x) = some none)
    (law_sc : scB N ["script"] (defScope sLaw) = true) (h0 : N[0]? = some ("script" : Str)) (h1 : N[1]? = some ("dice" : Str)) (law_is : isLaw (defScope sLaw) (defBody sLaw) = true)
    (law_ch : chkS ⟨N, tab.fnm, fun _ => none, false⟩ (defScope sLaw) b (.many (lawBody (defBody sLaw))) = true)
    (cell_sc : scB cellN cellN (defScope sCell) = true) (cell_is : isCell (defBody sCell) = true) (cell_len : (defScope sCell).names.lookup ("len" : Str) = some .globalImplicit)
    (rounds_sc : scB roundsN ["script", "most"] (defScope sRounds) = true) (rounds_is : isRounds (defScope sRounds) (defBody sRounds) = true)
    (hlaw : ∀ d : Dice, ∃ env' d', evS (evCall defs (k + 2)) b (env0 N.length) d = .nx env' d' ∧ env'.length = N.length) :
    ∃ fd : FuncData, (∀ (s : Shared) (v : Value), BindsTo s fd ⟨[v], []⟩ [("script", v)]) ∧ ∀ base : Heap, K.In base → base.Ns mainGlobals mg → FnOk P w K mg base (L2N.CX P w) (k + 5) fa fd ["script"] (spLaw K []) := by
  have B : ∀ x ∈ bltNames, mg (Str.ofString x) = none := fun x hx => PySem.W.mg_none_of KX G (blt x hx)
  have M : Mods tab (fun _ => none) (fun _ => 0) K mg := ⟨tab_ok, (fun _ _ z => by cases z), B, fun p hp => (tab_at p hp).get KX G (tab_bd p hp)⟩
  obtain ⟨fC, fdC, FC, mC, bC'⟩ := qC.get KX G bC
  obtain ⟨fR, fdR, FR, mR, bR'⟩ := qR.get KX G bR
  obtain ⟨f, oc, od, kV, doc, pm, an, cdv, ct, osl, a, l, c, kk⟩ := qL
  have FL := fun_mk (st := sLaw) l c kk
  have e := hfa.symm.trans (PySem.W.mg_of KX G a)
  cases e
  refine ⟨_, fun s v => .of_eq (bL kV doc pm an cdv ct [v] rfl), fun base _ _ => ?_⟩
  have C : FnOk P w K mg base (L2N.CX P w) (k + 1) fC fdC cellN (spC K) := ok_cell FC (scB_ok cell_sc) cell_is cell_len (B "len" (by decide))
  have R : FnOk P w K mg base (L2N.CX P w) (k + 2) fR fdR ["script", "most"] (spR K) := ok_rounds FR (scB_ok rounds_sc) rounds_is C mC FC.kp bC' B
  exact ok_law (lam := false) (T := []) M tab_defs FL law_sc h0 h1 law_is (fun z => by cases z) law_ch R mR FR.kp bR' hlaw
theorem finT {l : PySem.W.OpenLaw} {w : World} {K : PySem.W.Frag} {h : Heap} {mg : Str → Option Value} {fa : Addr} {tab : Tb} {defs : Nat → Option Df} {N : List Str} {b : S} {k : Nat} {sLaw sCell sRounds sTerm sTold : Stmt} {f CS : Addr} {cls : List Addr} {oc : Value} {od an : Option Addr} {kV doc pm cdv ct : Value} {osl : Array (Option Value)}
    (KX : K.In h) (G : h.Ns mainGlobals mg) (hfa : mg "law" = some (.ref fa)) (OT : LamX.OwnTab K fa h)
    (tab_ok : ∀ p ∈ tab, p.2.ok tab.fnm errO = true) (tab_defs : ∀ p ∈ tab, defs p.1 = some p.2.df) (tab_bd : ∀ p ∈ tab, BindOk p.2.nm p.2.st (p.2.N.take p.2.df.ps)) (tab_at : ∀ p ∈ tab, FnAt K p.2.nm p.2.st)
    (aL : PySem.W.nsIn K mainGlobals "law" = some (some (.ref f))) (lL : K.lookup f = some ⟨oc, od, .func (PySem.W.fnOf "law" "law" (defArgs sLaw) (defBody sLaw) (defScope sLaw) .none kV doc pm an cdv ct), osl⟩) (cL : PySem.W.codeIn K cdv "law" = true) (kL : PySem.W.keepIn K (.ref f) = true)
    (hcd : PySem.W.codeHdIn K (codeOf K f) (tabOf K (codeOf K f)) = true) (hnP : K.lookup (tabOf K (codeOf K f)) = none)
    (qC : FnAt K "_law_cell" sCell) (qR : FnAt K "_law_rounds" sRounds) (qT : FnAt K "_law_term" sTerm) (qO : FnAt K "_law_told" sTold)
    (bL : BindOk "law" sLaw ["script"]) (bC : BindOk "_law_cell" sCell cellN) (bR : BindOk "_law_rounds" sRounds ["script", "most"]) (bT : BindOk "_law_term" sTerm ["e"]) (bO : BindOk "_law_told" sTold ["deed"])
    (blt : ∀ x ∈ bltNames, PySem.W.nsIn K mainGlobals (Str.ofString x) = some none) (zV : PySem.W.nsIn K mainGlobals "ValueError" = some none)
    (hS : PySem.W.nsIn K mainGlobals "SignError" = some (some (.ref CS))) (hn : ∀ j nm, errN[j]? = some nm → PySem.W.nsIn K mainGlobals nm = some (some (.ref (cls.getD j 0)))) (hcB : clsB K CS cls = true)
    (law_sc : scB N ["script"] (defScope sLaw) = true) (h0 : N[0]? = some ("script" : Str)) (h1 : N[1]? = some ("dice" : Str)) (law_is : isLaw (defScope sLaw) (defBody sLaw) = true)
    (law_ch : chkS ⟨N, tab.fnm, errO, true⟩ (defScope sLaw) b (.many (lawBody (defBody sLaw))) = true)
    (cell_sc : scB cellN cellN (defScope sCell) = true) (cell_is : isCell (defBody sCell) = true) (cell_len : (defScope sCell).names.lookup ("len" : Str) = some .globalImplicit)
    (rounds_sc : scB roundsN ["script", "most"] (defScope sRounds) = true) (rounds_is : isRounds (defScope sRounds) (defBody sRounds) = true)
    (term_sc : scB termN ["e"] (defScope sTerm) = true) (term_is : isTerm (defScope sTerm) (defBody sTerm) = true) (told_sc : scB toldN ["deed"] (defScope sTold) = true) (told_is : isTold (defScope sTold) (defBody sTold) = true)
    (hlaw : ∀ d : Dice, ∃ env' d', evS (evCall defs (k + 2)) b (env0 N.length) d = .nx env' d' ∧ env'.length = N.length) :
    LamX.LawAtS l w K (L2N.CX l.prog w) (k + 5) 63 "script" mg fa h := by
  have B : ∀ x ∈ bltNames, mg (Str.ofString x) = none := fun x hx => PySem.W.mg_none_of KX G (blt x hx)
  obtain ⟨C1, C2, C3⟩ := cls_ok KX G hcB hn
  have M : Mods tab errO (fun j => cls.getD j 0) K mg := ⟨tab_ok, C2, B, fun p hp => (tab_at p hp).get KX G (tab_bd p hp)⟩
  obtain ⟨fC, fdC, FC, mC, bC'⟩ := qC.get KX G bC
  obtain ⟨fR, fdR, FR, mR, bR'⟩ := qR.get KX G bR
  obtain ⟨fT, fdT, FT, mT, bT'⟩ := qT.get KX G bT
  obtain ⟨fO, fdO, FO, mO, bO'⟩ := qO.get KX G bO
  have FL := fun_mk (st := sLaw) lL cL kL
  have e := hfa.symm.trans (PySem.W.mg_of KX G aL)
  cases e
  obtain ⟨cc, rfl⟩ := codeIn_ref cL
  have ecc : codeOf K fa = cc := by unfold codeOf; rw [lL]
  rw [ecc] at hcd hnP
  obtain ⟨e1, dd, vs, sl, lk, l11⟩ := codeHd_in hcd
  have tf : ToldF K mg (fun j => cls.getD j 0) := by
    refine ⟨⟨⟨fT, fdT, sTerm, FT, mT, bT', scB_ok term_sc, term_is⟩, C1, fun x hx => ?_⟩, ⟨fO, fdO, sTold, FO, mO, bO', scB_ok told_sc, told_is⟩, CS, PySem.W.mg_of KX G hS, C3⟩
    simp only [List.mem_cons, List.not_mem_nil, or_false] at hx
    rcases hx with rfl | rfl | rfl | rfl
    · exact B "sum" (by decide)
    · exact B "int" (by decide)
    · exact B "isinstance" (by decide)
    · exact PySem.W.mg_none_of KX G zV
  refine ⟨_, [(cc, tabOf K cc)], spLaw K [(tabOf K cc, lamQ)], fun p hp => ?_, fun p hp => ?_, fun p hp => ?_, fun s v => .of_eq (bL kV doc pm an (.ref cc) ct [v] rfl), fun H a ns hl _ hT hS => ⟨a, ns, rfl, hS, hl, fun p hp => ?_, fun _ => rfl⟩, fun base hKb hNb hTB => ?_⟩
  · rw [List.mem_singleton.mp hp]; exact OT cc _ _ _ _ _ _ _ lL rfl rfl lk l11
  · rw [List.mem_singleton.mp hp]; exact hnP
  · rw [List.mem_singleton.mp hp]; exact PySem.W.codeHd_of_K KX hcd
  · rw [List.mem_singleton.mp hp]; exact LamX.TabS.nil (hT _ (List.mem_singleton.mpr rfl))
  · have C : FnOk l.prog w K mg base (L2N.CX l.prog w) (k + 1) fC fdC cellN (spC K) := ok_cell FC (scB_ok cell_sc) cell_is cell_len (B "len" (by decide))
    have R : FnOk l.prog w K mg base (L2N.CX l.prog w) (k + 2) fR fdR ["script", "most"] (spR K) := ok_rounds FR (scB_ok rounds_sc) rounds_is C mC FC.kp bC' B
    exact ok_law (lam := true) M tab_defs FL law_sc h0 h1 law_is (fun _ => ⟨tf, cc, _, rfl, hTB _ (List.mem_singleton.mpr rfl), rfl⟩) law_ch R mR FR.kp bR' hlaw
theorem cx_no {P : Program} {w : World} {H : Hp} {s : Shared} {e : Value} {s' : Shared} (h : L2N.CX P w [] H s (fun _ _ _ => False) e s') : False := by
  obtain ⟨a, B, H', cls, d, _, _, _, _, _, _, _, z⟩ := h
  exact z
end SG
namespace SG
def onB {α : Type} (o : Option Bool) (a b e : α) : α := match o with | some true => a | some false => b | none => e
def onD {α : Type} (x : D) (a b e : α) : α := match x with | .bl true => a | .bl false => b | _ => e
def onI {α : Type} (x : D) (f : Int → α) (e : α) : α := match x with | .int i => f i | _ => e
def isNon : D → Bool | .non => true | _ => false
def onO {α β : Type} (x : Option β) (f : β → α) (e : α) : α := match x with | some i => f i | none => e
def Res.told : Res D → Res D
  | .err k d => if k < 11 then .ok (errD k) d else .bad
  | r => r
def thenS (cf : CF) (r : S) (o : Out) : Out := o.then fun env d => evS cf r env d
def ifS (cf : CF) (a b : S) (env : Env) (d : Dice) (o : Option Bool) : Out := onB o (evS cf a env d) (evS cf b env d) .bad
def ifE (cf : CF) (a b : E) (env : Env) (d : Dice) (o : Option Bool) : Res D := onB o (ev cf a env d) (ev cf b env d) .bad
def forS (cf : CF) (tg : E) (b : S) (l : List D) (env : Env) (d : Dice) : Out := forLoop tg (fun env d => evS cf b env d) l env d
def whlS (cf : CF) (n : Nat) (c : E) (b : S) (env : Env) (d : Dice) : Out := whileLoop (fun env d => ev cf c env d) (fun env d => evS cf b env d) n env d
def lcS (cf : CF) (elt tg : E) (own : List Nat) (l : List D) (env : Env) (d : Dice) : Res (List D) := lcLoop (fun y => asg tg y (env.wipe own)) (fun env d => (ev cf elt env d).bind fun y d => .ok (some y) d) l d
def lcfS (cf : CF) (elt tg c : E) (own : List Nat) (l : List D) (env : Env) (d : Dice) : Res (List D) := lcLoop (fun y => asg tg y (env.wipe own)) (fun env d => (ev cf c env d).bind fun b d => match truth b with
        | some true => (ev cf elt env d).bind fun y d => .ok (some y) d
        | some false => .ok none d
        | none => .bad) l d
section
variable {α β : Type} {a b e : α} {t : Bool} {d d1 : Dice} {f : α → Dice → Res β} {cf : CF} {env env' : Env}
@[simp] theorem onB_some : onB (some t) a b e = if t = true then a else b := by cases t <;> rfl
@[simp] theorem onD_bl : onD (.bl t) a b e = if t = true then a else b := by cases t <;> rfl
@[simp] theorem onI_int {i : Int} {f : Int → α} : onI (.int i) f e = f i := id rfl
@[simp] theorem onO_some {x : β} {f : β → α} : onO (some x) f e = f x := id rfl
@[simp] theorem r_bind : (Res.ok a d).bind f = f a d := id rfl
@[simp] theorem r_err {n : Nat} : (Res.err n d : Res α).bind f = .err n d := id rfl
@[simp] theorem r_of : Res.of (some a) d = .ok a d := id rfl
@[simp] theorem r_noerr : (Res.ok a d).noerr = .ok a d := id rfl
@[simp] theorem r_out {g : α → Dice → Out} : (Res.ok a d).out g = g a d := id rfl
@[simp] theorem r_oute {g : α → Dice → Out} {n : Nat} : (Res.err n d : Res α).out g = .er n d := id rfl
@[simp] theorem o_er {n : Nat} {g : Env → Dice → Out} : (Out.er n d).then g = .er n d := id rfl
@[simp] theorem o_rese {n : Nat} : (Out.er n d).res = .err n d := id rfl
@[simp] theorem told_ok {x : D} : (Res.ok x d).told = .ok x d := id rfl
@[simp] theorem told_0 : (Res.err 0 d : Res D).told = .ok (errD 0) d := id rfl
@[simp] theorem told_1 : (Res.err 1 d : Res D).told = .ok (errD 1) d := id rfl
@[simp] theorem told_2 : (Res.err 2 d : Res D).told = .ok (errD 2) d := id rfl
@[simp] theorem told_3 : (Res.err 3 d : Res D).told = .ok (errD 3) d := id rfl
@[simp] theorem told_4 : (Res.err 4 d : Res D).told = .ok (errD 4) d := id rfl
@[simp] theorem told_5 : (Res.err 5 d : Res D).told = .ok (errD 5) d := id rfl
@[simp] theorem told_6 : (Res.err 6 d : Res D).told = .ok (errD 6) d := id rfl
@[simp] theorem told_7 : (Res.err 7 d : Res D).told = .ok (errD 7) d := id rfl
@[simp] theorem told_8 : (Res.err 8 d : Res D).told = .ok (errD 8) d := id rfl
@[simp] theorem told_9 : (Res.err 9 d : Res D).told = .ok (errD 9) d := id rfl
@[simp] theorem told_10 : (Res.err 10 d : Res D).told = .ok (errD 10) d := id rfl
@[simp] theorem o_nx {g : Env → Dice → Out} : (Out.nx env d).then g = g env d := id rfl
@[simp] theorem o_rt {v : D} {g : Env → Dice → Out} : (Out.rt v d).then g = .rt v d := id rfl
@[simp] theorem o_res {v : D} : (Out.rt v d).res = .ok v d := id rfl
@[simp] theorem o_resn : (Out.nx env d).res = .ok .non d := id rfl
@[simp] theorem o_ofE : Out.ofE (some env) d = .nx env d := id rfl
@[simp] theorem t_bl : truth (.bl t) = some t := id rfl
@[simp] theorem t_int {i : Int} : truth (.int i) = some (decide (i ≠ 0)) := id rfl
@[simp] theorem tups_t {l : List D} : tups (.tup l) = l := id rfl
@[simp] theorem i_lst {l : List D} : items (.lst l) = some l := id rfl
@[simp] theorem i_tup {l : List D} : items (.tup l) = some l := id rfl
@[simp] theorem i_str {l : List Nat} : items (.str l) = some (l.map fun c => .str [c]) := id rfl
@[simp] theorem put0 {x : Sl} {r : Env} {y : Sl} : Env.put (x :: r) 0 y = some (y :: r) := by simp [Env.put]
@[simp] theorem putS {x : Sl} {r : Env} {n : Nat} {y : Sl} : Env.put (x :: r) (n + 1) y = (Env.put r n y).map (x :: ·) := by
  unfold Env.put; by_cases h : n < r.length <;> simp [h]
@[simp] theorem get0 {x : D} {r : Env} : Env.get (.sh x :: r) 0 = some x := id rfl
@[simp] theorem getS {x : Sl} {r : Env} {n : Nat} : Env.get (x :: r) (n + 1) = Env.get r n := by simp [Env.get]
@[simp] theorem getO0 {x : List D} {r : Env} : Env.getO (.ow x :: r) 0 = some x := id rfl
@[simp] theorem getOS {x : Sl} {r : Env} {n : Nat} : Env.getO (x :: r) (n + 1) = Env.getO r n := by simp [Env.getO]
@[simp] theorem wipe_nil : Env.wipe env [] = env := id rfl
@[simp] theorem wipe_cons {v : Nat} {vs : List Nat} : Env.wipe env (v :: vs) = (Env.wipe env vs).set v .no := id rfl
theorem ordI {i j : Int} : D.ordB (.int i) (.int j) = true := by simp [D.ordB, D.py, D.dep, PySem.W.alike]
@[simp] theorem c_lt {i j : Int} : opCmp .lt (.int i) (.int j) = some (decide (i < j)) := by simp [opCmp, ordI, D.lt]
@[simp] theorem c_gt {i j : Int} : opCmp .gt (.int i) (.int j) = some (decide (j < i)) := by simp [opCmp, ordI, D.lt]
@[simp] theorem c_le {i j : Int} : opCmp .le (.int i) (.int j) = some (decide (i ≤ j)) := by simp [opCmp, ordI, D.lt, ← Int.not_lt]
@[simp] theorem c_ge {i j : Int} : opCmp .ge (.int i) (.int j) = some (decide (j ≤ i)) := by simp [opCmp, ordI, D.lt, ← Int.not_lt]
@[simp] theorem c_eqI {i j : Int} : opCmp .eq (.int i) (.int j) = some (decide (i = j)) := by simp [opCmp, D.dep, D.eq]; rfl
@[simp] theorem c_neI {i j : Int} : opCmp .ne (.int i) (.int j) = some (decide (i ≠ j)) := by simp [opCmp, D.dep, D.eq]; rfl
@[simp] theorem c_eqS {s t : List Nat} : opCmp .eq (.str s) (.str t) = some (decide (s = t)) := by simp [opCmp, D.dep, D.eq]; rw [Bool.eq_iff_iff]; simp
@[simp] theorem c_neS {s t : List Nat} : opCmp .ne (.str s) (.str t) = some (decide (s ≠ t)) := by simp [opCmp, D.dep, D.eq]; rw [Bool.eq_iff_iff]; simp
@[simp] theorem c_eqB {s t : Bool} : opCmp .eq (.bl s) (.bl t) = some (decide (s = t)) := by cases s <;> cases t <;> rfl
@[simp] theorem c_neB {s t : Bool} : opCmp .ne (.bl s) (.bl t) = some (decide (s ≠ t)) := by cases s <;> cases t <;> rfl
@[simp] theorem b_add {i j : Int} : opBin .add (.int i) (.int j) = some (.int (i + j)) := id rfl
@[simp] theorem b_sub {i j : Int} : opBin .sub (.int i) (.int j) = some (.int (i - j)) := id rfl
@[simp] theorem x_len1 {l : List D} : opBi .len [.tup l] = some (.int l.length) := id rfl
@[simp] theorem x_len2 {l : List D} : opBi .len [.lst l] = some (.int l.length) := id rfl
@[simp] theorem x_tup1 {l : List D} : opBi .tuple [.lst l] = some (.tup l) := id rfl
@[simp] theorem x_tup2 {l : List D} : opBi .tuple [.tup l] = some (.tup l) := id rfl
@[simp] theorem x_lst1 {l : List D} : opBi .list [.tup l] = some (.lst l) := id rfl
@[simp] theorem x_abs {i : Int} : opBi .abs [.int i] = some (.int (if i < 0 then -i else i)) := id rfl
theorem bools_map {γ : Type} (l : List γ) (p : γ → Bool) : bools (l.map fun x => .bl (p x)) = some (l.map p) := by
  induction l with
  | nil => rfl
  | cons x r ih => simp [bools, ih]
@[simp] theorem x_all {γ : Type} (l : List γ) (p : γ → Bool) : opBi .all [.lst (l.map fun x => .bl (p x))] = some (.bl (l.all p)) := by
  simp [opBi, biAll, bools_map]
@[simp] theorem x_any {γ : Type} (l : List γ) (p : γ → Bool) : opBi .any [.lst (l.map fun x => .bl (p x))] = some (.bl (l.any p)) := by
  simp [opBi, biAny, bools_map]
theorem strs_map {γ : Type} (l : List γ) (p : γ → List Nat) : strsOf (l.map fun x => .str (p x)) = some (l.map p) := by
  induction l with
  | nil => rfl
  | cons x r ih => simp [strsOf, ih]
@[simp] theorem e_nil : ev cf .nil env d = .ok (.tup []) d := by simp only [ev]
@[simp] theorem e_cons {x r : E} : ev cf (.cons x r) env d = (ev cf x env d).bind fun x d => (ev cf r env d).bind fun xs d => .ok (.tup (x :: tups xs)) d := by simp only [ev]
@[simp] theorem e_var {i : Nat} : ev cf (.var i) env d = .of (env.get i) d := by simp only [ev]
@[simp] theorem e_non : ev cf .non env d = .ok .non d := by simp only [ev]
@[simp] theorem e_bl : ev cf (.bl t) env d = .ok (.bl t) d := by simp only [ev]
@[simp] theorem e_int {i : Int} : ev cf (.int i) env d = .ok (.int i) d := by simp only [ev]
@[simp] theorem e_str {s : List Nat} : ev cf (.str s) env d = .ok (.str s) d := by simp only [ev]
@[simp] theorem e_tup {x : E} : ev cf (.tup x) env d = ev cf x env d := by simp only [ev]
@[simp] theorem e_lst {x : E} : ev cf (.lst x) env d = (ev cf x env d).bind fun x d => .ok (.lst (tups x)) d := by simp only [ev]
@[simp] theorem e_bin {o : Bop} {x y : E} : ev cf (.bin o x y) env d = (ev cf x env d).bind fun x d => (ev cf y env d).bind fun y d => .of (opBin o x y) d := by simp only [ev]
@[simp] theorem e_neg {x : E} : ev cf (.neg x) env d = (ev cf x env d).bind fun x d => onI x (fun i => .ok (.int (-i)) d) .bad := by simp only [ev]; rfl
@[simp] theorem e_cmp {o : Cop} {x y : E} : ev cf (.cmp o x y) env d = (ev cf x env d).bind fun x d => (ev cf y env d).bind fun y d => .of ((opCmp o x y).map .bl) d := by simp only [ev]
@[simp] theorem e_chain {o p : Cop} {x y z : E} : ev cf (.chain o p x y z) env d = (ev cf x env d).bind fun x d => (ev cf y env d).bind fun y d => onB (opCmp o x y) ((ev cf z env d).bind fun z d => .of ((opCmp p y z).map .bl) d) (.ok (.bl false) d) .bad := by simp only [ev]; rfl
@[simp] theorem e_isn {n : Bool} {x : E} : ev cf (.isn n x) env d = (ev cf x env d).bind fun x d => .ok (.bl (match x with | .non => !n | _ => n)) d := by simp only [ev] <;> rfl
@[simp] theorem e_and {x y : E} : ev cf (.and x y) env d = (ev cf x env d).bind fun x d => onD x (ev cf y env d) (.ok (.bl false) d) .bad := by simp only [ev]; rfl
@[simp] theorem e_or {x y : E} : ev cf (.or x y) env d = (ev cf x env d).bind fun x d => onD x (.ok (.bl true) d) (ev cf y env d) .bad := by
  simp only [ev]; congr; funext x d; cases x <;> first | rfl | skip
  rename_i b; cases b <;> rfl
@[simp] theorem e_and3 {x y z : E} : ev cf (.and3 x y z) env d = (ev cf x env d).bind fun x d => onD x ((ev cf y env d).bind fun y d => onD y (ev cf z env d) (.ok (.bl false) d) .bad) (.ok (.bl false) d) .bad := by simp only [ev]; rfl
@[simp] theorem e_or3 {x y z : E} : ev cf (.or3 x y z) env d = (ev cf x env d).bind fun x d => onD x (.ok (.bl true) d) ((ev cf y env d).bind fun y d => onD y (.ok (.bl true) d) (ev cf z env d) .bad) .bad := by
  simp only [ev]; congr; funext x d; cases x <;> first | rfl | skip
  rename_i b; cases b <;> first | rfl | skip
  simp only [onD]; congr; funext x d; cases x <;> first | rfl | skip
  rename_i b; cases b <;> rfl
@[simp] theorem e_not {x : E} : ev cf (.not x) env d = (ev cf x env d).bind fun x d => onD x (.ok (.bl false) d) (.ok (.bl true) d) .bad := by
  simp only [ev]; congr; funext x d; cases x <;> first | rfl | skip
  rename_i b; cases b <;> rfl
@[simp] theorem e_ite {c x y : E} : ev cf (.ite c x y) env d = (ev cf c env d).bind fun v d => ifE cf x y env d (truth v) := by simp only [ev]; rfl
@[simp] theorem ifE_t {x y : E} : ifE cf x y env d (some true) = ev cf x env d := id rfl
@[simp] theorem ifE_f {x y : E} : ifE cf x y env d (some false) = ev cf y env d := id rfl
@[simp] theorem ifS_t {x y : S} : ifS cf x y env d (some true) = evS cf x env d := id rfl
@[simp] theorem ifS_f {x y : S} : ifS cf x y env d (some false) = evS cf y env d := id rfl
@[simp] theorem thenS_nx {r : S} : thenS cf r (.nx env d) = evS cf r env d := id rfl
@[simp] theorem thenS_er {r : S} {n : Nat} : thenS cf r (.er n d) = .er n d := id rfl
@[simp] theorem thenS_rt {r : S} {v : D} : thenS cf r (.rt v d) = .rt v d := id rfl
@[simp] theorem forS_nil {tg : E} {r : S} : forS cf tg r [] env d = .nx env d := id rfl
theorem forS_cons {tg : E} {r : S} {x : D} {l : List D} (h : asg tg x env = some env') : forS cf tg r (x :: l) env d = (evS cf r env' d).then fun env d => forS cf tg r l env d := by simp only [forS, forLoop, h]
@[simp] theorem e_call {n : Nat} {x : E} : ev cf (.call n x) env d = (ev cf x env d).bind fun x d => cf n (tups x) d := by simp only [ev]
@[simp] theorem e_bi {n : Bi} {x : E} : ev cf (.bi n x) env d = (ev cf x env d).bind fun x d => .of (opBi n (tups x)) d := by simp only [ev]
@[simp] theorem e_isi {n : Ty} {x : E} : ev cf (.isi n x) env d = (ev cf x env d).bind fun x d => .of ((isI n x).map .bl) d := by simp only [ev]
@[simp] theorem e_meth {n : Me} {x y : E} : ev cf (.meth n x y) env d = (ev cf x env d).bind fun x d => (ev cf y env d).bind fun y d => .of (opMe n x [y]) d := by simp only [ev]
@[simp] theorem e_ix {x y : E} : ev cf (.ix x y) env d = (ev cf x env d).bind fun x d => (ev cf y env d).bind fun y d => .of (opIx x y) d := by simp only [ev]
@[simp] theorem e_sl {x lo hi : E} : ev cf (.sl x lo hi) env d = (ev cf x env d).bind fun x d => (ev cf lo env d).bind fun y d => (Res.of (part lo y) d).bind fun l d => (ev cf hi env d).bind fun z d => (Res.of (part hi z) d).bind fun h d => .of (opSl x l h) d := by simp only [ev]
@[simp] theorem e_rng1 {x : E} : ev cf (.rng1 x) env d = (ev cf x env d).bind fun x d => onI x (fun n => if smallR 0 n = true then .ok (.lst (rangeL 0 n)) d else .bad) .bad := by simp only [ev]; rfl
@[simp] theorem e_enum {x : E} : ev cf (.enum x) env d = (ev cf x env d).bind fun x d => .of ((items x).map fun l => .lst (enumL 0 l)) d := by simp only [ev]
@[simp] theorem e_zip {x y : E} : ev cf (.zip x y) env d = (ev cf x env d).bind fun x d => (ev cf y env d).bind fun y d => .of ((items x).bind fun l => (items y).map fun m => .lst (zipL l m)) d := by simp only [ev]
@[simp] theorem e_lc {elt tg it : E} {own : List Nat} : ev cf (.lc elt tg it own) env d = (ev cf it env d).bind fun x d => onO (items x) (fun l => if l.length ≤ lim then (lcS cf elt tg own l env d).bind fun ys d => .ok (.lst ys) d else .bad) .bad := by
  simp only [ev]; congr; funext x d; cases items x <;> rfl
@[simp] theorem e_lcif {elt tg it c : E} {own : List Nat} : ev cf (.lcif elt tg it c own) env d = (ev cf it env d).bind fun x d => onO (items x) (fun l => if l.length ≤ lim then (lcfS cf elt tg c own l env d).bind fun ys d => .ok (.lst ys) d else .bad) .bad := by
  simp only [ev]; congr; funext x d; cases items x <;> rfl
@[simp] theorem e_told {x : E} : ev cf (.told x) env d = (ev cf x env d).told := by simp only [ev]; rfl
@[simp] theorem s_rse {n : Nat} : evS cf (.rse n) env d = .er n d := by simp only [evS]
@[simp] theorem s_nil' : evS cf .nil env d = .nx env d := by simp only [evS]
@[simp] theorem s_seq {x r : S} : evS cf (.seq x r) env d = thenS cf r (evS cf x env d) := by simp only [evS]; rfl
@[simp] theorem s_set {tg e : E} : evS cf (.set tg e) env d = (ev cf e env d).out fun x d => .ofE (asg tg x env) d := by simp only [evS]
@[simp] theorem s_own' {i : Nat} : evS cf (.own i) env d = .ofE (env.put i (.ow [])) d := by simp only [evS]
@[simp] theorem s_par {i j : Nat} {x y : E} : evS cf (.par i j x y) env d = (ev cf x env d).out fun x d => (ev cf y env d).out fun y d => .ofE ((env.put i (.sh x)).bind fun env' => env'.put j (.sh y)) d := by simp only [evS]
@[simp] theorem s_parO {i j : Nat} {x : E} : evS cf (.parO i j x) env d = (ev cf x env d).out fun x d => .ofE ((env.put i (.sh x)).bind fun env' => env'.put j (.ow [])) d := by simp only [evS]
@[simp] theorem s_par3 {i j l : Nat} {x y z : E} : evS cf (.par3 i j l x y z) env d = (ev cf x env d).out fun x d => (ev cf y env d).out fun y d => (ev cf z env d).out fun z d => .ofE ((env.put i (.sh x)).bind fun env' => (env'.put j (.sh y)).bind fun env'' => env''.put l (.sh z)) d := by simp only [evS]
@[simp] theorem s_frz {i : Nat} : evS cf (.frz i) env d = onO (env.getO i) (fun xs => .ofE (env.put i (.sh (.lst xs))) d) .bad := by simp only [evS]; cases env.getO i <;> rfl
@[simp] theorem s_app {i : Nat} {e : E} : evS cf (.app i e) env d = onO (env.getO i) (fun xs => (ev cf e env d).out fun x d => if xs.length < lim then .ofE (env.put i (.ow (xs ++ [x]))) d else .bad) .bad := by simp only [evS]; cases env.getO i <;> rfl
@[simp] theorem s_ret {e : E} : evS cf (.ret e) env d = (ev cf e env d).out fun x d => .rt x d := by simp only [evS]
@[simp] theorem s_ifs {c : E} {x y : S} : evS cf (.ifs c x y) env d = (ev cf c env d).out fun v d => ifS cf x y env d (truth v) := by simp only [evS]; rfl
@[simp] theorem s_fors {tg it : E} {b : S} : evS cf (.fors tg it b) env d = (ev cf it env d).out fun x d => onO (items x) (fun l => forS cf tg b l env d) .bad := by
  simp only [evS]; congr; funext x d; cases items x <;> rfl
@[simp] theorem s_whl {n : Nat} {c : E} {b : S} : evS cf (.whl n c b) env d = whlS cf n c b env d := by simp only [evS]; rfl
@[simp] theorem s_ex {e : E} : evS cf (.ex e) env d = (ev cf e env d).out fun _ d => .nx env d := by simp only [evS]
@[simp] theorem a_var {i : Nat} {x : D} : asg (.var i) x env = env.put i (.sh x) := id rfl
theorem call_eq {D : Nat → Option Df} {k n : Nat} {df : Df} {xs : List SG.D} (h : D n = some df) (hl : xs.length = df.ps) : evCall D (k + 1) n xs d = (evS (evCall D k) df.body (startE df.n xs) d).res := by
  simp only [evCall, h, hl, if_pos]
theorem lc_mapG {γ : Type} {e : γ → D} {elt tg : E} {own : List Nat} {g : γ → D} : ∀ (l : List γ) {d : Dice}, (∀ y ∈ l, ∃ env1, asg tg (e y) (env.wipe own) = some env1 ∧ ev cf elt env1 d = .ok (g y) d) → lcS cf elt tg own (l.map e) env d = .ok (l.map g) d
  | [], d, _ => rfl
  | x :: r, d, h => by
    obtain ⟨env1, h1, h2⟩ := h x List.mem_cons_self
    have ih := lc_mapG r fun y hy => h y (List.mem_cons_of_mem _ hy)
    unfold lcS at ih ⊢
    simp only [List.map_cons, lcLoop, h1, h2, r_noerr, r_bind]
    rw [ih]
    rfl
theorem lc_map {elt tg : E} {own : List Nat} {g : D → D} (l : List D) {d : Dice} (h : ∀ y ∈ l, ∃ env1, asg tg y (env.wipe own) = some env1 ∧ ev cf elt env1 d = .ok (g y) d) : lcS cf elt tg own l env d = .ok (l.map g) d := by
  have := lc_mapG (e := id) l h
  simpa using this
theorem lc_draw {γ δ : Type} {e : γ → D} {o : δ → D} {elt tg : E} {own : List Nat} (Q : γ → δ → Prop) : ∀ (l : List γ) {d : Dice}, (∀ y ∈ l, ∀ d, ∃ env1, asg tg (e y) (env.wipe own) = some env1 ∧ ∃ z d2, Q y z ∧ ev cf elt env1 d = .ok (o z) d2) → ∃ (zs : List δ) (d2 : Dice), lcS cf elt tg own (l.map e) env d = .ok (zs.map o) d2 ∧ zs.length = l.length ∧ ∀ (i : Nat) y z, l[i]? = some y → zs[i]? = some z → Q y z
  | [], d, _ => ⟨[], d, rfl, rfl, by simp⟩
  | x :: r, d, h => by
    obtain ⟨env1, h1, z, d2, q, h2⟩ := h x List.mem_cons_self d
    obtain ⟨zs, d3, ih, hl, hq⟩ := lc_draw Q r (d := d2) fun y hy => h y (List.mem_cons_of_mem _ hy)
    refine ⟨z :: zs, d3, ?_, by simp [hl], fun i y z' e1 e2 => ?_⟩
    · unfold lcS at ih ⊢
      simp only [List.map_cons, lcLoop, h1, h2, r_noerr, r_bind]
      rw [ih]
      rfl
    · cases i with
      | zero => simp at e1 e2; subst e1 e2; exact q
      | succ i => exact hq i y z' (by simpa using e1) (by simpa using e2)
theorem for_inv {tg : E} {b : S} (I : Nat → Env → Dice → Prop) : ∀ (l : List D) {n : Nat} {env : Env} {d : Dice}, (∀ i env d (h : i < l.length), I (n + i) env d → ∃ env1, asg tg l[i] env = some env1 ∧ ∃ env2 d2, evS cf b env1 d = .nx env2 d2 ∧ I (n + i + 1) env2 d2) → I n env d → ∃ env' d', forS cf tg b l env d = .nx env' d' ∧ I (n + l.length) env' d'
  | [], n, env, d, _, h0 => ⟨env, d, rfl, h0⟩
  | x :: r, n, env, d, h, h0 => by
    obtain ⟨env1, e1, env2, d2, e2, i2⟩ := h 0 env d (by simp) h0
    have e1' : asg tg x env = some env1 := e1
    obtain ⟨env', d', e3, i3⟩ := for_inv I r (n := n + 1) (env := env2) (d := d2) (fun i env d hi hI => by
      have := h (i + 1) env d (by simpa using hi) (by rw [show n + (i + 1) = n + 1 + i by omega]; exact hI)
      rw [show n + (i + 1) + 1 = n + 1 + i + 1 by omega] at this
      exact this) i2
    refine ⟨env', d', ?_, ?_⟩
    · rw [forS_cons e1', e2, o_nx]; exact e3
    · rw [show n + (x :: r).length = n + 1 + r.length by simp; omega]; exact i3
theorem for_P {P : Out → Prop} {tg : E} {b : S} {l : List D} (I : Nat → Env → Dice → Prop) (h0 : I 0 env d) (hs : ∀ i env d (h : i < l.length), I i env d → ∃ env1, asg tg l[i] env = some env1 ∧ ∃ env2 d2, evS cf b env1 d = .nx env2 d2 ∧ I (i + 1) env2 d2) (hf : ∀ env' d', I l.length env' d' → P (.nx env' d')) : P (forS cf tg b l env d) := by
  obtain ⟨env', d', e, h⟩ := for_inv (cf := cf) (tg := tg) (b := b) I l (n := 0) (env := env) (d := d) (fun i env d h hI => by
    obtain ⟨env1, e1, env2, d2, e2, i2⟩ := hs i env d h (by rw [Nat.zero_add] at hI; exact hI)
    exact ⟨env1, e1, env2, d2, e2, by rw [Nat.zero_add]; exact i2⟩) h0
  rw [e]
  rw [Nat.zero_add] at h
  exact hf env' d' h
theorem for_ret {P : Out → Prop} {tg : E} {b : S} {l : List D} (I : Nat → Env → Dice → Prop) (h0 : I 0 env d) (hs : ∀ i env d (h : i < l.length), I i env d → ∃ env1, asg tg l[i] env = some env1 ∧ ((∃ env2 d2, evS cf b env1 d = .nx env2 d2 ∧ I (i + 1) env2 d2) ∨ ∃ v d2, evS cf b env1 d = .rt v d2 ∧ P (.rt v d2))) (hf : ∀ env' d', I l.length env' d' → P (.nx env' d')) : P (forS cf tg b l env d) := by
  suffices h : ∀ (r : List D) (n : Nat) (env : Env) (d : Dice), l.drop n = r → n ≤ l.length → I n env d → P (forS cf tg b r env d) from h l 0 env d rfl (Nat.zero_le _) h0
  intro r
  induction r with
  | nil =>
    intro n env d e hn hI
    have : n = l.length := by
      have := congrArg List.length e
      simp at this
      omega
    subst this
    exact hf env d hI
  | cons x r ih =>
    intro n env d e hn hI
    have hlt : n < l.length := by
      have := congrArg List.length e
      simp at this
      omega
    have e2 := List.drop_eq_getElem_cons hlt
    rw [e] at e2
    simp only [List.cons.injEq] at e2
    obtain ⟨env1, h1, h2⟩ := hs n env d hlt hI
    rw [← e2.1] at h1
    rw [forS_cons h1]
    rcases h2 with ⟨env2, d2, h2, h3⟩ | ⟨v, d2, h2, h3⟩
    · rw [h2, o_nx]
      exact ih (n + 1) env2 d2 e2.2.symm hlt h3
    · rw [h2, o_rt]
      exact h3
theorem for_all {tg : E} {b : S} {l : List D} (I : Nat → Env → Dice → Prop) (h0 : I 0 env d) (hs : ∀ i env d (h : i < l.length), I i env d → ∃ env1, asg tg l[i] env = some env1 ∧ ∃ env2 d2, evS cf b env1 d = .nx env2 d2 ∧ I (i + 1) env2 d2) : ∃ env' d', forS cf tg b l env d = .nx env' d' ∧ I l.length env' d' :=
  for_P (P := fun o => ∃ env' d', o = .nx env' d' ∧ I l.length env' d') I h0 hs fun env' d' h => ⟨env', d', rfl, h⟩
theorem for_some {tg : E} {b : S} {l : List D} (I : Nat → Env → Dice → Prop) (R : D → Dice → Prop) (h0 : I 0 env d) (hs : ∀ i env d (h : i < l.length), I i env d → ∃ env1, asg tg l[i] env = some env1 ∧ ((∃ env2 d2, evS cf b env1 d = .nx env2 d2 ∧ I (i + 1) env2 d2) ∨ ∃ v d2, evS cf b env1 d = .rt v d2 ∧ R v d2)) :
    (∃ env' d', forS cf tg b l env d = .nx env' d' ∧ I l.length env' d') ∨ ∃ v d', forS cf tg b l env d = .rt v d' ∧ R v d' := by
  refine for_ret (P := fun o => (∃ env' d', o = .nx env' d' ∧ I l.length env' d') ∨ ∃ v d', o = .rt v d' ∧ R v d') I h0 (fun i env d h hI => ?_) fun env' d' h => .inl ⟨env', d', rfl, h⟩
  obtain ⟨env1, e1, h2⟩ := hs i env d h hI
  refine ⟨env1, e1, ?_⟩
  rcases h2 with h2 | ⟨v, d2, e2, r⟩
  · exact .inl h2
  · exact .inr ⟨v, d2, e2, .inr ⟨v, d2, rfl, r⟩⟩
theorem lt_lim {n : Nat} (h : n < 1000) : n < lim := Nat.lt_of_lt_of_le h (by decide)
theorem le_lim {n : Nat} (h : n < 1000) : n ≤ lim := Nat.le_of_lt (lt_lim h)
theorem range_get {m i : Nat} (h : i < (rangeL 0 (m : Int)).length) : (rangeL 0 (m : Int))[i] = .int i := by
  simp [rangeL]
theorem range_len {m : Nat} : (rangeL 0 (m : Int)).length = m := by simp [rangeL]
theorem smallR_nat {m : Nat} (h : m < 1000) : smallR 0 (m : Int) = true := by simp [smallR]; omega
end
end SG
namespace SG
open PySem PySem.Spec PyProof.Rows L2
def C0_1 : E := .cmp .inn (.var 2) (.str [43, 45, 48])
def Fare_signs : Df := ⟨2, 3, .seq (.ret (.and3 (.isi .str (.var 0)) (.cmp .eq (.bi .len (.cons (.var 0) (.nil))) (.var 1)) (.bi .all (.cons (.lc C0_1 (.var 2) (.var 0) [2]) (.nil))))) (.nil)⟩
def C1_1 : E := .call 0 (.cons (.var 1) (.cons (.bi .len (.cons (.ix (.var 0) (.int 0)) (.nil))) (.nil)))
def Fis_table : Df := ⟨1, 2, .seq (.ifs (.or3 (.not (.isi .tuple (.var 0))) (.not (.chain .le .le (.int 1) (.bi .len (.cons (.var 0) (.nil))) (.int 4))) (.not (.isi .str (.ix (.var 0) (.int 0))))) (.seq (.ret (.bl false)) (.nil)) (.nil)) (.seq (.ret (.and (.chain .le .le (.int 1) (.bi .len (.cons (.ix (.var 0) (.int 0)) (.nil))) (.int 4)) (.bi .all (.cons (.lc C1_1 (.var 1) (.var 0) [1]) (.nil))))) (.nil))⟩
def Fneed_table : Df := ⟨1, 1, .seq (.ifs (.not (.call 1 (.cons (.var 0) (.nil)))) (.seq (.rse 0) (.nil)) (.nil)) (.nil)⟩
def Fneed_square : Df := ⟨1, 1, .seq (.ifs (.cmp .ne (.bi .len (.cons (.var 0) (.nil))) (.bi .len (.cons (.ix (.var 0) (.int 0)) (.nil)))) (.seq (.rse 5) (.nil)) (.nil)) (.nil)⟩
def Fvalue_of : Df := ⟨1, 1, .seq (.ret (.dget kvI (.var 0))) (.nil)⟩
def C28_1 : E := .var 4
def T28_1 : E := .cmp .ne (.var 4) (.var 2)
def C28_2 : E := .bin .add (.tup (.cons (.var 2) (.nil))) (.var 5)
def B28_1 : S := .seq (.set (.var 3) (.bi .tuple (.cons (.lcif C28_1 (.var 4) (.var 0) T28_1 [4]) (.nil)))) (.seq (.set (.var 1) (.bin .add (.var 1) (.lc C28_2 (.var 5) (.call 28 (.cons (.var 3) (.nil))) [5]))) (.nil))
def Fexchanges : Df := ⟨1, 6, .seq (.ifs (.cmp .eq (.var 0) (.tup (.nil))) (.seq (.ret (.lst (.cons (.tup (.nil)) (.nil)))) (.nil)) (.nil)) (.seq (.set (.var 1) (.lst (.nil))) (.seq (.fors (.var 2) (.var 0) B28_1) (.seq (.ret (.var 1)) (.nil))))⟩
def C102_1 : E := .sl (.var 5) (.nil) (.var 3)
def C102_2 : E := .var 7
def T102_1 : E := .cmp .eq (.ix (.var 7) (.int 0)) (.bi .min (.cons (.var 7) (.nil)))
def B102_3 : S := .seq (.set (.var 8) (.bin .mul (.var 8) (.call 27 (.cons (.ix (.ix (.var 0) (.var 10)) (.ix (.var 6) (.bin .mod (.bin .add (.var 9) (.int 1)) (.var 3)))) (.nil))))) (.nil)
def B102_2 : S := .seq (.set (.var 8) (.int 1)) (.seq (.fors (.tup (.cons (.var 9) (.cons (.var 10) (.nil)))) (.enum (.var 6)) B102_3) (.seq (.ifs (.cmp .ne (.var 8) (.int 0)) (.seq (.app 2 (.tup (.cons (.var 6) (.cons (.var 8) (.nil))))) (.nil)) (.nil)) (.nil)))
def B102_1 : S := .seq (.set (.var 4) (.ssort (.lc C102_1 (.var 5) (.call 28 (.cons (.trng (.var 1)) (.nil))) [5]))) (.seq (.fors (.var 6) (.lcif C102_2 (.var 7) (.var 4) T102_1 [7]) B102_2) (.nil))
def Fall_cycles : Df := ⟨1, 11, .seq (.parO 1 2 (.bi .len (.cons (.var 0) (.nil)))) (.seq (.fors (.var 3) (.rng2 (.int 2) (.bin .add (.var 1) (.int 1))) B102_1) (.seq (.frz 2) (.seq (.ret (.var 2)) (.nil))))⟩
def C103_1 : E := .tup (.cons (.var 1) (.cons (.ite (.cmp .gt (.var 2) (.int 0)) (.str [43]) (.str [45])) (.nil)))
def Fcycles : Df := ⟨1, 3, .seq (.ex (.call 2 (.cons (.var 0) (.nil)))) (.seq (.ex (.call 26 (.cons (.var 0) (.nil)))) (.seq (.ret (.bi .tuple (.cons (.lc C103_1 (.tup (.cons (.var 1) (.cons (.var 2) (.nil)))) (.call 102 (.cons (.var 0) (.nil))) [1, 2]) (.nil)))) (.nil)))⟩
def C104_1 : E := .cmp .eq (.ix (.var 2) (.var 1)) (.str [45])
def B104_1 : S := .seq (.ifs (.cmp .gt (.var 4) (.int 0)) (.seq (.ret (.var 3)) (.nil)) (.nil)) (.nil)
def Fpositive_cycle : Df := ⟨1, 5, .seq (.ex (.call 2 (.cons (.var 0) (.nil)))) (.seq (.ex (.call 26 (.cons (.var 0) (.nil)))) (.seq (.ifs (.not (.bi .all (.cons (.lc C104_1 (.tup (.cons (.var 1) (.cons (.var 2) (.nil)))) (.enum (.var 0)) [1, 2]) (.nil)))) (.seq (.rse 7) (.nil)) (.nil)) (.seq (.fors (.tup (.cons (.var 3) (.cons (.var 4) (.nil)))) (.call 102 (.cons (.var 0) (.nil))) B104_1) (.seq (.ret (.non)) (.nil)))))⟩
def F_law_drawn : Df := ⟨2, 3, .seq (.set (.var 2) (.bin .mod (.bin .add (.bin .mul (.var 0) (.int 6364136223846793005)) (.bin .mul (.bin .add (.var 1) (.int 1)) (.int 1442695040888963407))) (.int 340282366920938463463374607431768211507))) (.seq (.set (.var 2) (.bin .mod (.bin .mul (.var 2) (.var 2)) (.int 340282366920938463463374607431768211297))) (.seq (.set (.var 2) (.bin .mul (.bin .mul (.bin .add (.bin .mod (.var 2) (.int 18446744073709551557)) (.int 1)) (.bin .add (.bin .fdiv (.var 2) (.int 18446744073709551557)) (.int 1))) (.var 2))) (.seq (.ret (.bin .mod (.var 2) (.int 340282366920938463463374607431768211507))) (.nil))))⟩
def F_law_roll : Df := ⟨2, 3, .seq (.ifs (.cmp .ge (.dix 0 0) (.bin .pow (.int 10) (.int 18))) (.seq (.set (.var 2) (.bin .mod (.dix 0 0) (.var 1))) (.seq (.dst 0 0 (.bin .fdiv (.dix 0 0) (.var 1))) (.seq (.ret (.var 2)) (.nil)))) (.nil)) (.seq (.dst 0 1 (.bin .add (.dix 0 1) (.int 1))) (.seq (.ret (.bin .mod (.bin .fdiv (.call 7 (.cons (.dix 0 0) (.cons (.dix 0 1) (.nil)))) (.int 8)) (.var 1))) (.nil)))⟩
def B11_2 : S := .seq (.set (.var 8) (.and (.cmp .eq (.call 8 (.cons (.var 0) (.cons (.ix (.lst (.cons (.int 2) (.cons (.int 4) (.cons (.int 9) (.cons (.int 3) (.nil)))))) (.var 3)) (.nil)))) (.int 0)) (.not (.and (.cmp .eq (.var 3) (.int 3)) (.cmp .eq (.var 5) (.var 7)))))) (.seq (.set (.var 6) (.bin .add (.var 6) (.ite (.var 8) (.str [48]) (.ix (.str [43, 45]) (.call 8 (.cons (.var 0) (.cons (.int 2) (.nil)))))))) (.nil))
def B11_1 : S := .seq (.set (.var 6) (.str [])) (.seq (.fors (.var 7) (.rng1 (.var 2)) B11_2) (.seq (.app 4 (.var 6)) (.nil)))
def F_law_any_table : Df := ⟨3, 9, .seq (.parO 3 4 (.call 8 (.cons (.var 0) (.cons (.int 4) (.nil))))) (.seq (.fors (.var 5) (.rng1 (.var 1)) B11_1) (.seq (.frz 4) (.seq (.ret (.bi .tuple (.cons (.var 4) (.nil)))) (.nil))))⟩
def B36_1 : S := .seq (.app 4 (.bin .add (.bin .add (.bin .mul (.str [48]) (.var 5)) (.ix (.str [43, 45]) (.call 8 (.cons (.var 0) (.cons (.int 2) (.nil)))))) (.sl (.var 6) (.bin .add (.var 5) (.int 1)) (.nil)))) (.nil)
def F_law_any_square : Df := ⟨2, 7, .seq (.set (.var 2) (.bin .add (.int 1) (.call 8 (.cons (.var 0) (.cons (.var 1) (.nil)))))) (.seq (.set (.var 3) (.call 11 (.cons (.var 0) (.cons (.var 2) (.cons (.var 2) (.nil)))))) (.seq (.ifs (.cmp .eq (.call 8 (.cons (.var 0) (.cons (.int 3) (.nil)))) (.int 0)) (.seq (.own 4) (.seq (.fors (.tup (.cons (.var 5) (.cons (.var 6) (.nil)))) (.enum (.var 3)) B36_1) (.seq (.frz 4) (.seq (.set (.var 3) (.bi .tuple (.cons (.var 4) (.nil)))) (.nil))))) (.nil)) (.seq (.ret (.var 3)) (.nil))))⟩
def F_law_value : Df := ⟨1, 1, .seq (.ret (.ix (.lst (.cons (.int 1) (.cons (.neg (.int 1)) (.cons (.int 0) (.nil))))) (.meth .index (.str [43, 45, 48]) (.var 0)))) (.nil)⟩
def C37_1 : E := .var 8
def T37_1 : E := .cmp .gt (.var 8) (.var 6)
def B37_3 : S := .seq (.ifs (.cmp .notin (.var 6) (.var 4)) (.seq (.set (.var 7) (.bi .len (.cons (.lcif C37_1 (.var 8) (.var 4) T37_1 [8]) (.nil)))) (.seq (.app 3 (.tup (.cons (.bin .add (.var 4) (.tup (.cons (.var 6) (.nil)))) (.cons (.ite (.cmp .eq (.bin .mod (.var 7) (.int 2)) (.int 0)) (.var 5) (.neg (.var 5))) (.nil))))) (.nil))) (.nil)) (.nil)
def B37_2 : S := .seq (.fors (.var 6) (.rng1 (.var 0)) B37_3) (.nil)
def B37_1 : S := .seq (.own 3) (.seq (.fors (.tup (.cons (.var 4) (.cons (.var 5) (.nil)))) (.var 1) B37_2) (.seq (.frz 3) (.seq (.set (.var 1) (.var 3)) (.nil))))
def F_law_orders : Df := ⟨1, 9, .seq (.set (.var 1) (.lst (.cons (.tup (.cons (.tup (.nil)) (.cons (.int 1) (.nil)))) (.nil)))) (.seq (.fors (.var 2) (.rng1 (.var 0)) B37_1) (.seq (.ret (.bi .sorted (.cons (.var 1) (.nil)))) (.nil)))⟩
def B38_2 : S := .seq (.set (.var 3) (.bin .mul (.var 3) (.call 19 (.cons (.ix (.ix (.var 0) (.var 4)) (.var 5)) (.nil))))) (.nil)
def B38_1 : S := .seq (.fors (.tup (.cons (.var 4) (.cons (.var 5) (.nil)))) (.enum (.var 2)) B38_2) (.seq (.ifs (.cmp .ne (.var 3) (.int 0)) (.seq (.app 1 (.tup (.cons (.var 2) (.cons (.var 3) (.nil))))) (.nil)) (.nil)) (.nil))
def F_law_terms : Df := ⟨1, 6, .seq (.own 1) (.seq (.fors (.tup (.cons (.var 2) (.cons (.var 3) (.nil)))) (.call 37 (.cons (.bi .len (.cons (.var 0) (.nil))) (.nil))) B38_1) (.seq (.frz 1) (.seq (.ret (.var 1)) (.nil))))⟩
def C39_1 : E := .var 3
def F_law_kind : Df := ⟨1, 4, .seq (.set (.var 1) (.ssort (.lc C39_1 (.tup (.cons (.var 2) (.cons (.var 3) (.nil)))) (.call 38 (.cons (.var 0) (.nil))) [2, 3]))) (.seq (.ret (.ix (.lst (.cons (.str [110, 101, 118, 101, 114]) (.cons (.str [97, 108, 119, 97, 121, 115]) (.cons (.str [115, 111, 109, 101, 116, 105, 109, 101, 115]) (.nil))))) (.bi .len (.cons (.var 1) (.nil))))) (.nil))⟩
def B105_4 : S := .seq (.ifs (.and (.cmp .notin (.var 7) (.var 5)) (.cmp .ne (.ix (.ix (.var 0) (.ix (.var 5) (.neg (.int 1)))) (.var 7)) (.str [48]))) (.seq (.app 4 (.tup (.cons (.bin .add (.var 5) (.tup (.cons (.var 7) (.nil)))) (.cons (.bin .mul (.var 6) (.call 19 (.cons (.ix (.ix (.var 0) (.ix (.var 5) (.neg (.int 1)))) (.var 7)) (.nil)))) (.nil))))) (.nil)) (.nil)) (.nil)
def B105_3 : S := .seq (.fors (.var 7) (.rng2 (.bin .add (.var 2) (.int 1)) (.bi .len (.cons (.var 0) (.nil)))) B105_4) (.nil)
def C105_1 : E := .tup (.cons (.var 5) (.cons (.bin .mul (.var 6) (.call 19 (.cons (.ix (.ix (.var 0) (.ix (.var 5) (.neg (.int 1)))) (.var 2)) (.nil)))) (.nil)))
def C105_2 : E := .tup (.cons (.var 5) (.cons (.var 6) (.nil)))
def T105_1 : E := .cmp .ne (.var 6) (.int 0)
def B105_2 : S := .seq (.own 4) (.seq (.fors (.tup (.cons (.var 5) (.cons (.var 6) (.nil)))) (.var 3) B105_3) (.seq (.frz 4) (.seq (.set (.var 8) (.lc C105_1 (.tup (.cons (.var 5) (.cons (.var 6) (.nil)))) (.var 4) [5, 6])) (.seq (.set (.var 1) (.bin .add (.var 1) (.lcif C105_2 (.tup (.cons (.var 5) (.cons (.var 6) (.nil)))) (.var 8) T105_1 [5, 6]))) (.seq (.set (.var 3) (.var 4)) (.nil))))))
def B105_1 : S := .seq (.set (.var 3) (.lst (.cons (.tup (.cons (.tup (.cons (.var 2) (.nil))) (.cons (.int 1) (.nil)))) (.nil)))) (.seq (.whl 1000 (.cmp .ne (.var 3) (.lst (.nil))) B105_2) (.nil))
def C105_3 : E := .tup (.cons (.bi .len (.cons (.var 5) (.nil))) (.cons (.var 5) (.cons (.ite (.cmp .gt (.var 6) (.int 0)) (.str [43]) (.str [45])) (.nil))))
def F_law_cycles : Df := ⟨1, 9, .seq (.set (.var 1) (.lst (.nil))) (.seq (.fors (.var 2) (.rng1 (.bi .len (.cons (.var 0) (.nil)))) B105_1) (.seq (.ret (.bi .sorted (.cons (.lc C105_3 (.tup (.cons (.var 5) (.cons (.var 6) (.nil)))) (.var 1) [5, 6]) (.nil)))) (.nil)))⟩
def allDefs : Nat → Option Df
  | 0 => some Fare_signs
  | 1 => some Fis_table
  | 2 => some Fneed_table
  | 7 => some F_law_drawn
  | 8 => some F_law_roll
  | 11 => some F_law_any_table
  | 19 => some F_law_value
  | 26 => some Fneed_square
  | 27 => some Fvalue_of
  | 28 => some Fexchanges
  | 36 => some F_law_any_square
  | 37 => some F_law_orders
  | 38 => some F_law_terms
  | 39 => some F_law_kind
  | 102 => some Fall_cycles
  | 103 => some Fcycles
  | 104 => some Fpositive_cycle
  | 105 => some F_law_cycles
  | _ => none
def Claw_1 : E := .bin .add (.bin .add (.sl (.var 4) (.nil) (.var 3)) (.str [45])) (.sl (.var 4) (.bin .add (.var 3) (.int 1)) (.nil))
def Claw_2 : E := .tup (.cons (.var 7) (.cons (.var 8) (.nil)))
def Claw_3 : E := .cmp .eq (.ix (.var 4) (.var 3)) (.str [45])
def Claw_4 : E := .var 7
def Tlaw_1 : E := .cmp .eq (.var 8) (.str [43])
def Llaw_7 : S := .seq (.ifs (.cmp .ne (.told (.call 104 (.cons (.tup (.cons (.str [45]) (.cons (.str [45]) (.nil)))) (.nil)))) (.tup (.cons (.str [101, 114, 114, 111, 114]) (.cons (.str [78, 111, 116, 83, 113, 117, 97, 114, 101]) (.nil))))) (.seq (.ret (.bl false)) (.nil)) (.nil)) (.nil)
def Llaw_6 : S := .seq (.ifs (.cmp .ne (.told (.call 103 (.cons (.tup (.cons (.str [43, 45]) (.nil))) (.nil)))) (.tup (.cons (.str [101, 114, 114, 111, 114]) (.cons (.str [78, 111, 116, 83, 113, 117, 97, 114, 101]) (.nil))))) (.seq (.ret (.bl false)) (.nil)) (.nil)) (Llaw_7)
def Llaw_5 : S := .seq (.ifs (.not (.bi .all (.cons (.lc Claw_3 (.tup (.cons (.var 3) (.cons (.var 4) (.nil)))) (.enum (.var 2)) [3, 4]) (.nil)))) (.seq (.ifs (.cmp .ne (.var 9) (.tup (.cons (.str [101, 114, 114, 111, 114]) (.cons (.str [78, 111, 116, 78, 101, 103, 97, 116, 105, 118, 101]) (.nil))))) (.seq (.ret (.bl false)) (.nil)) (.nil)) (.nil)) (.seq (.set (.var 10) (.lcif Claw_4 (.tup (.cons (.var 7) (.cons (.var 8) (.nil)))) (.var 5) Tlaw_1 [7, 8])) (.seq (.ifs (.cmp .ne (.var 9) (.ite (.cmp .ne (.var 10) (.lst (.nil))) (.ix (.var 10) (.int 0)) (.non))) (.seq (.ret (.bl false)) (.nil)) (.nil)) (.seq (.ifs (.cmp .ne (.isn false (.var 9)) (.cmp .eq (.call 39 (.cons (.var 2) (.nil))) (.str [97, 108, 119, 97, 121, 115]))) (.seq (.ret (.bl false)) (.nil)) (.nil)) (.nil))))) (Llaw_6)
def Llaw_4 : S := .seq (.set (.var 9) (.told (.call 104 (.cons (.var 2) (.nil))))) (Llaw_5)
def Llaw_3 : S := .seq (.ifs (.cmp .ne (.call 103 (.cons (.var 2) (.nil))) (.bi .tuple (.cons (.var 5) (.nil)))) (.seq (.ret (.bl false)) (.nil)) (.nil)) (Llaw_4)
def Llaw_2 : S := .seq (.set (.var 5) (.lc Claw_2 (.tup (.cons (.var 6) (.cons (.var 7) (.cons (.var 8) (.nil))))) (.call 105 (.cons (.var 2) (.nil))) [6, 7, 8])) (Llaw_3)
def Llaw_1 : S := .seq (.ifs (.cmp .gt (.call 8 (.cons (.var 1) (.cons (.int 3) (.nil)))) (.int 0)) (.seq (.set (.var 2) (.bi .tuple (.cons (.lc Claw_1 (.tup (.cons (.var 3) (.cons (.var 4) (.nil)))) (.enum (.var 2)) [3, 4]) (.nil)))) (.nil)) (.nil)) (Llaw_2)
def lawN : Nat := 11
def lawS : S := .seq (.set (.var 2) (.call 36 (.cons (.var 1) (.cons (.int 4) (.nil))))) (Llaw_1)
def topS (i : Nat) : Stmt := PySem.Challenge.pw_signgrids_k15_whole_cycles.main.body.getD i (.Pass ⟨0, 0, 0, 0⟩)
def t0 : TD := ⟨"are_signs", topS 14, ["value", "many", "sign"], Fare_signs⟩
def t1 : TD := ⟨"is_table", topS 15, ["value", "row"], Fis_table⟩
def t2 : TD := ⟨"need_table", topS 16, ["table"], Fneed_table⟩
def t7 : TD := ⟨"_law_drawn", topS 27, ["cell", "k", "more"], F_law_drawn⟩
def t8 : TD := ⟨"_law_roll", topS 28, ["dice", "many", "told"], F_law_roll⟩
def t11 : TD := ⟨"_law_any_table", topS 32, ["dice", "many", "wide", "act", "rows", "i", "row", "j", "blank"], F_law_any_table⟩
def t19 : TD := ⟨"_law_value", topS 34, ["sign"], F_law_value⟩
def t26 : TD := ⟨"need_square", topS 17, ["table"], Fneed_square⟩
def t27 : TD := ⟨"value_of", topS 18, ["sign"], Fvalue_of⟩
def t28 : TD := ⟨"exchanges", topS 20, ["some", "found", "one", "rest", "other", "more"], Fexchanges⟩
def t36 : TD := ⟨"_law_any_square", topS 33, ["dice", "most", "many", "table", "rows", "i", "row"], F_law_any_square⟩
def t37 : TD := ⟨"_law_orders", topS 35, ["many", "found", "turn", "longer", "order", "sign", "one", "greater", "other"], F_law_orders⟩
def t38 : TD := ⟨"_law_terms", topS 36, ["table", "found", "order", "sign", "i", "j"], F_law_terms⟩
def t39 : TD := ⟨"_law_kind", topS 37, ["table", "signs", "order", "sign"], F_law_kind⟩
def t102 : TD := ⟨"all_cycles", topS 22, ["table", "many", "found", "size", "ways", "order", "way", "one", "sign", "at", "i"], Fall_cycles⟩
def t103 : TD := ⟨"cycles", topS 23, ["table", "way", "sign"], Fcycles⟩
def t104 : TD := ⟨"positive_cycle", topS 24, ["table", "i", "row", "way", "sign"], Fpositive_cycle⟩
def t105 : TD := ⟨"_law_cycles", topS 38, ["table", "found", "i", "ways", "longer", "way", "sign", "j", "shut"], F_law_cycles⟩
def tab : Tb := [(0, t0), (1, t1), (2, t2), (7, t7), (8, t8), (11, t11), (19, t19), (26, t26), (27, t27), (28, t28), (36, t36), (37, t37), (38, t38), (39, t39), (102, t102), (103, t103), (104, t104), (105, t105)]
def lawNs : List Str := ["script", "dice", "table", "i", "row", "due", "size", "way", "sign", "made", "above"]
theorem tab_ok : ∀ p ∈ tab, p.2.ok tab.fnm errO = true := by
  have h : (tab.all fun p => p.2.ok tab.fnm errO) = true := by decide +kernel
  exact List.all_eq_true.mp h
theorem tab_defs : ∀ p ∈ tab, allDefs p.1 = some p.2.df := by
  intro p hp
  simp only [tab, List.mem_cons, List.not_mem_nil, or_false] at hp
  rcases hp with rfl | rfl | rfl | rfl | rfl | rfl | rfl | rfl | rfl | rfl | rfl | rfl | rfl | rfl | rfl | rfl | rfl | rfl <;> rfl
abbrev sLaw : Stmt := topS 39
abbrev sCell : Stmt := topS 26
abbrev sRounds : Stmt := topS 29
theorem law_sc : scB lawNs ["script"] (defScope sLaw) = true := by decide +kernel
theorem law_is : isLaw (defScope sLaw) (defBody sLaw) = true := by decide +kernel
theorem law_ch : chkS ⟨lawNs, tab.fnm, errO, true⟩ (defScope sLaw) lawS (.many (lawBody (defBody sLaw))) = true := by decide +kernel
abbrev sTerm : Stmt := topS 30
abbrev sTold : Stmt := topS 31
theorem term_sc : scB termN ["e"] (defScope sTerm) = true := by decide +kernel
theorem term_is : isTerm (defScope sTerm) (defBody sTerm) = true := by decide +kernel
theorem told_sc : scB toldN ["deed"] (defScope sTold) = true := by decide +kernel
theorem told_is : isTold (defScope sTold) (defBody sTold) = true := by decide +kernel
theorem cell_sc : scB cellN cellN (defScope sCell) = true := by decide +kernel
theorem cell_is : isCell (defBody sCell) = true := by decide +kernel
theorem cell_len : (defScope sCell).names.lookup ("len" : Str) = some .globalImplicit := by decide +kernel
theorem rounds_sc : scB roundsN ["script", "most"] (defScope sRounds) = true := by decide +kernel
theorem rounds_is : isRounds (defScope sRounds) (defBody sRounds) = true := by decide +kernel
end SG
namespace SG
theorem small_of {i : Int} (h : i.natAbs < 2 ^ 400) : smallI i = true := decide_eq_true (Nat.lt_of_lt_of_le h (Nat.pow_le_pow_right (by decide) (by decide)))
theorem mulL {i j : Int} (h : s64 i = true) : opBin .mul (.int i) (.int j) = some (.int (i * j)) := by simp [opBin, mulOk, h]
theorem mulR {i j : Int} (h : s64 j = true) : opBin .mul (.int i) (.int j) = some (.int (i * j)) := by simp [opBin, mulOk, h]
theorem mulS {i j : Int} (h : i.natAbs < 2 ^ 400) (h2 : j.natAbs < 2 ^ 400) : opBin .mul (.int i) (.int j) = some (.int (i * j)) := by simp [opBin, mulOk, small_of h, small_of h2]
theorem modB {i j : Int} (h : j ≠ 0) : opBin .mod (.int i) (.int j) = some (.int (i.fmod j)) := by simp [opBin, h]
theorem fdivB {i j : Int} (h : j ≠ 0) (h2 : j.natAbs < 2 ^ 400) : opBin .fdiv (.int i) (.int j) = some (.int (i.fdiv j)) := by simp [opBin, h, small_of h2]
theorem fmod_lt {i j : Int} (h : 0 < j) : 0 ≤ i.fmod j ∧ i.fmod j < j := by
  rw [Int.fmod_eq_emod_of_nonneg i (Int.le_of_lt h)]
  exact ⟨Int.emod_nonneg _ (by omega), Int.emod_lt_of_pos _ h⟩
theorem fdiv_bd {i j : Int} (h0 : 0 ≤ i) (h : 0 < j) : 0 ≤ i.fdiv j ∧ i.fdiv j ≤ i := by
  rw [Int.fdiv_eq_ediv_of_nonneg i (Int.le_of_lt h)]
  exact ⟨Int.ediv_nonneg h0 (Int.le_of_lt h), Int.ediv_le_self _ h0⟩
end SG
namespace SG
def Sg (c : Nat) : Prop := c = 43 ∨ c = 45 ∨ c = 48
structure Tab (t : List (List Nat)) (m w : Nat) : Prop where
  len : t.length = m
  row : ∀ r ∈ t, r.length = w ∧ ∀ c ∈ r, Sg c
def tabD (t : List (List Nat)) : D := .tup (t.map .str)
end SG
namespace SG
def sgc (i : Int) : Nat := if i > 0 then 43 else if i < 0 then 45 else 48
def val (c : Nat) : Int := if c = 43 then 1 else if c = 45 then -1 else 0
end SG
namespace SG
theorem c_value {k c : Nat} {d : Dice} (h : Sg c) : evCall allDefs (k + 1) 19 [.str [c]] d = .ok (.int (val c)) d := by
  rw [call_eq (df := F_law_value) rfl rfl]
  unfold F_law_value
  rcases h with h | h | h <;> subst h <;> rfl
end SG
namespace SG
section
variable {α : Type}
theorem pt1 {y : D} : part .nil y = some none := id rfl
theorem pt2 {i : Nat} {j : Int} : part (.var i) (.int j) = some (some j) := id rfl
theorem pt3 {o : Bop} {a b : E} {j : Int} : part (.bin o a b) (.int j) = some (some j) := id rfl
theorem pt4 {i j : Int} : part (.int i) (.int j) = some (some j) := id rfl
theorem cut_lo {xs : List α} {j : Nat} (h : j ≤ xs.length) : cut xs none (some (j : Int)) = xs.take j := by
  unfold cut sIx
  have : ¬ ((j : Int) < 0) := by omega
  simp only [this, if_false, Int.toNat_natCast]
  rw [Nat.min_eq_left h]
  simp
theorem cut_hi {xs : List α} {j : Nat} (h : j ≤ xs.length) : cut xs (some (j : Int)) none = xs.drop j := by
  unfold cut sIx
  have : ¬ ((j : Int) < 0) := by omega
  simp only [this, if_false, Int.toNat_natCast]
  rw [Nat.min_eq_left h]
  apply List.take_of_length_le
  simp
theorem sl_lo {xs : List D} {j : Nat} (h : j ≤ xs.length) : opSl (.tup xs) none (some (j : Int)) = some (.tup (xs.take j)) := by simp only [opSl, cut_lo h]
theorem sl_hi {xs : List D} {j : Nat} (h : j ≤ xs.length) : opSl (.tup xs) (some (j : Int)) none = some (.tup (xs.drop j)) := by simp only [opSl, cut_hi h]
theorem ix_nat {xs : List D} {j : Nat} {x : D} (h : xs[j]? = some x) : opIx (.tup xs) (.int j) = some x := by
  have hj := (List.getElem?_eq_some_iff.mp h).1
  have h2 := (List.getElem?_eq_some_iff.mp h).2
  simp [opIx, atP, ixP, hj, h2]
theorem add_tup {xs ys : List D} (h : xs.length + ys.length < 1000) : opBin .add (.tup xs) (.tup ys) = some (.tup (xs ++ ys)) := by
  have : (xs ++ ys).length ≤ lim := le_lim (by simpa using h)
  simp only [opBin, mkT, this, if_pos]
theorem add_lst {xs ys : List D} (h : xs.length + ys.length < 1000) : opBin .add (.lst xs) (.lst ys) = some (.lst (xs ++ ys)) := by
  have : (xs ++ ys).length ≤ lim := le_lim (by simpa using h)
  simp only [opBin, mkL, this, if_pos]
end
def setL {α : Type} (r : List α) (j : Nat) (e : α) : List α := r.take j ++ [e] ++ r.drop (j + 1)
theorem setL_len {α : Type} {r : List α} {j : Nat} {e : α} (h : j < r.length) : (setL r j e).length = r.length := by simp [setL]; omega
theorem setL_mem {α : Type} {r : List α} {j : Nat} {e x : α} (h : x ∈ setL r j e) : x = e ∨ x ∈ r := by
  simp only [setL, List.mem_append, List.mem_singleton] at h
  rcases h with (h | h) | h
  · exact .inr (List.mem_of_mem_take h)
  · exact .inl h
  · exact .inr (List.mem_of_mem_drop h)
theorem setL_map {α β : Type} {f : α → β} {r : List α} {j : Nat} {e : α} : (setL r j e).map f = (r.map f).take j ++ [f e] ++ (r.map f).drop (j + 1) := by simp [setL]
end SG
namespace SG
theorem in_sg {c : Nat} (h : Sg c) : opCmp .inn (.str [c]) (.str [43, 45, 48]) = some true := by
  rcases h with h | h | h <;> subst h <;> rfl
theorem len_str {r : List Nat} (h : r.length < 1000) : opBi .len [.str r] = some (.int r.length) := by
  simp [opBi, biLen, le_lim h]
theorem all_true {γ : Type} (l : List γ) : opBi .all [.lst (l.map fun _ => .bl true)] = some (.bl true) := by
  rw [x_all]; simp
end SG
namespace SG
section
variable {cf : CF} {env env' : Env} {d : Dice}
theorem e_rng2 {x y : E} : ev cf (.rng2 x y) env d = (ev cf x env d).bind fun x d => (ev cf y env d).bind fun y d => onI x (fun m => onI y (fun n => if smallR m n = true then .ok (.lst (rangeL m n)) d else .bad) .bad) .bad := by
  simp only [ev]; congr; funext x d; congr; funext y d; cases x <;> first | rfl | (cases y <;> rfl)
theorem e_trng {x : E} : ev cf (.trng x) env d = (ev cf x env d).bind fun x d => onI x (fun n => if smallR 0 n = true then .ok (.tup (rangeL 0 n)) d else .bad) .bad := by simp only [ev]; rfl
theorem e_lenum {x : E} : ev cf (.lenum x) env d = (ev cf x env d).bind fun x d => .of ((items x).bind fun l => if l.length ≤ lim then some (.lst (enumL 0 l)) else none) d := by simp only [ev]
theorem e_rev {x : E} : ev cf (.rev x) env d = (ev cf x env d).bind fun x d => .of (opRev x) d := by simp only [ev]
def onS {α : Type} (x : D) (f : List Nat → α) (e : α) : α := match x with | .str i => f i | _ => e
@[simp] theorem onS_str {α : Type} {s : List Nat} {f : List Nat → α} {e : α} : onS (.str s) f e = f s := id rfl
theorem e_dget {kv : List (List Nat × Int)} {x : E} : ev cf (.dget kv x) env d = (ev cf x env d).bind fun x d => onS x (fun s => .of (lookS s kv) d) .bad := by simp only [ev]; rfl
theorem e_dgets {kv : List (List Nat × List Nat)} {x : E} : ev cf (.dgets kv x) env d = (ev cf x env d).bind fun x d => onS x (fun s => .of (lookSS s kv) d) .bad := by simp only [ev]; rfl
theorem a_tup {es : E} {l : List D} : asg (.tup es) (.tup l) env = asg es (.tup l) env := id rfl
theorem a_nil : asg .nil (.tup []) env = some env := id rfl
theorem a_cons {a r : E} {x : D} {l : List D} : asg (.cons a r) (.tup (x :: l)) env = (asg a x env).bind fun env' => asg r (.tup l) env' := id rfl
theorem for_fold {σ J γ : Type} {tg : E} {b : S} (S : σ → J → Env) (e : γ → D) (f : σ → γ → σ) (P : List γ → σ → Prop)
    (h : ∀ y r s j, P (y :: r) s → ∃ env1, asg tg (e y) (S s j) = some env1 ∧ ∃ j', evS cf b env1 d = .nx (S (f s y) j') d ∧ P r (f s y)) :
    ∀ (l : List γ) (s : σ) (j : J), P l s → ∃ j', forS cf tg b (l.map e) (S s j) d = .nx (S (l.foldl f s) j') d ∧ P [] (l.foldl f s)
  | [], s, j, p => ⟨j, rfl, p⟩
  | y :: r, s, j, p => by
    obtain ⟨env1, h1, j', h2, p'⟩ := h y r s j p
    obtain ⟨j2, h3, p2⟩ := for_fold S e f P h r (f s y) j' p'
    exact ⟨j2, by rw [List.map_cons, forS_cons h1, h2, o_nx, h3, List.foldl_cons], p2⟩
theorem for_find {J γ : Type} {tg : E} {b : S} (S : J → Env) (e : γ → D) (p : γ → Option D) :
    ∀ (l : List γ) (j : J), (∀ y ∈ l, ∀ j, ∃ env1, asg tg (e y) (S j) = some env1 ∧ ((∃ v, p y = some v ∧ evS cf b env1 d = .rt v d) ∨ (p y = none ∧ ∃ j', evS cf b env1 d = .nx (S j') d))) →
    (∃ v, l.findSome? p = some v ∧ forS cf tg b (l.map e) (S j) d = .rt v d) ∨ (l.findSome? p = none ∧ ∃ j', forS cf tg b (l.map e) (S j) d = .nx (S j') d)
  | [], j, _ => .inr ⟨rfl, j, rfl⟩
  | y :: r, j, h => by
    obtain ⟨env1, h1, h2⟩ := h y List.mem_cons_self j
    rcases h2 with ⟨v, h2, h3⟩ | ⟨h2, j', h3⟩
    · exact .inl ⟨v, by rw [List.findSome?_cons, h2], by rw [List.map_cons, forS_cons h1, h3, o_rt]⟩
    · rcases for_find S e p r j' (fun q hq => h q (List.mem_cons_of_mem _ hq)) with ⟨v, h4, h5⟩ | ⟨h4, j2, h5⟩
      · exact .inl ⟨v, by rw [List.findSome?_cons, h2]; exact h4, by rw [List.map_cons, forS_cons h1, h3, o_nx, h5]⟩
      · exact .inr ⟨by rw [List.findSome?_cons, h2]; exact h4, j2, by rw [List.map_cons, forS_cons h1, h3, o_nx, h5]⟩
theorem lcf_mapG {γ : Type} {e : γ → D} {elt tg c : E} {own : List Nat} {p : γ → Bool} {g : γ → D} : ∀ (l : List γ), (∀ y ∈ l, ∃ env1, asg tg (e y) (env.wipe own) = some env1 ∧ ev cf c env1 d = .ok (.bl (p y)) d ∧ (p y = true → ev cf elt env1 d = .ok (g y) d)) → lcfS cf elt tg c own (l.map e) env d = .ok ((l.filter p).map g) d
  | [], _ => rfl
  | x :: r, h => by
    obtain ⟨env1, h1, h2, h3⟩ := h x List.mem_cons_self
    have ih := lcf_mapG r fun y hy => h y (List.mem_cons_of_mem _ hy)
    unfold lcfS at ih ⊢
    cases hp : p x with
    | true =>
      rw [hp] at h2
      simp only [List.map_cons, lcLoop, h1, h2, h3 hp, t_bl, r_noerr, r_bind, List.filter_cons, hp, if_true]
      rw [ih]; rfl
    | false =>
      rw [hp] at h2
      simp only [List.map_cons, lcLoop, h1, h2, t_bl, r_noerr, r_bind, List.filter_cons, hp]
      rw [ih]; rfl
theorem range_map (n : Nat) : rangeL 0 (n : Int) = (List.range n).map fun i => .int (i : Nat) := by simp [rangeL]
theorem range2_map (a b : Nat) : rangeL (a : Int) (b : Int) = (List.range' a (b - a)).map fun i => .int (i : Nat) := by
  unfold rangeL
  rw [show ((b : Int) - (a : Int)).toNat = b - a by omega, List.range'_eq_map_range, List.map_map]
  apply List.map_congr_left
  intro i _
  simp
theorem enum_map {γ : Type} (e : γ → D) : ∀ (l : List γ) (k : Nat), enumL k (l.map e) = (l.zipIdx k).map fun p => .tup [.int (p.2 : Nat), e p.1]
  | [], _ => rfl
  | x :: r, k => by simp [enumL, enum_map e r (k + 1)]
theorem smallR2 {a b : Nat} (h : a < 1000) (h2 : b < 1000) : smallR (a : Int) (b : Int) = true := by simp [smallR]; omega
theorem ixT {γ : Type} {e : γ → D} {l : List γ} {j : Nat} {x : γ} (h : l[j]? = some x) : opIx (.tup (l.map e)) (.int j) = some (e x) := ix_nat (by rw [List.getElem?_map, h]; rfl)
theorem ixL {γ : Type} {e : γ → D} {l : List γ} {j : Nat} {x : γ} (h : l[j]? = some x) : opIx (.lst (l.map e)) (.int j) = some (e x) := by
  have hj := (List.getElem?_eq_some_iff.mp h).1
  have h2 := (List.getElem?_eq_some_iff.mp h).2
  simp [opIx, atP, ixP, hj, h2]
theorem ixS {s : List Nat} {j c : Nat} (h : s[j]? = some c) (hl : s.length < 1000) : opIx (.str s) (.int j) = some (.str [c]) := by
  have hj := (List.getElem?_eq_some_iff.mp h).1
  have h2 := (List.getElem?_eq_some_iff.mp h).2
  simp [opIx, atP, ixP, hj, h2, le_lim hl]
end
end SG
namespace SG
theorem foldl_if {γ δ : Type} {p : γ → Bool} {g : γ → δ} : ∀ (l : List γ) (a : List δ), l.foldl (fun a y => if p y = true then a ++ [g y] else a) a = a ++ (l.filter p).map g
  | [], a => by simp
  | y :: r, a => by
    rw [List.foldl_cons, foldl_if r]
    cases h : p y <;> simp [h]
theorem foldl_app {γ δ : Type} {g : γ → List δ} : ∀ (l : List γ) (a : List δ), l.foldl (fun a y => a ++ g y) a = a ++ l.flatMap g
  | [], a => by simp
  | y :: r, a => by rw [List.foldl_cons, foldl_app r, List.flatMap_cons, List.append_assoc]
theorem foldl_snoc {γ δ : Type} {g : γ → δ} : ∀ (l : List γ) (a : List δ), l.foldl (fun a y => a ++ [g y]) a = a ++ l.map g
  | [], a => by simp
  | y :: r, a => by rw [List.foldl_cons, foldl_snoc r, List.map_cons, List.append_assoc]; rfl
def nD (l : List Nat) : D := .tup (l.map fun i => .int (i : Nat))
def oD (p : List Nat × Int) : D := .tup [nD p.1, .int p.2]
def ordsStep (n : Nat) (found : List (List Nat × Int)) : List (List Nat × Int) :=
  found.flatMap fun p => ((List.range n).filter fun one => !p.1.contains one).map fun one => (p.1 ++ [one], if (p.1.filter fun o => decide (one < o)).length % 2 = 0 then p.2 else -p.2)
def ords (n : Nat) : List (List Nat × Int) := (List.range n).foldl (fun f _ => ordsStep n f) [([], 1)]
theorem flat_nD {l : List Nat} : (l.map fun i => D.int (i : Nat)).all flat = true := by simp [flat]
theorem any_int (x : Nat) : ∀ l : List Nat, ((l.map fun i => D.int (i : Nat)).any fun z => D.eq z (.int x)) = l.contains x
  | [] => rfl
  | y :: r => by
    rw [List.map_cons, List.any_cons, any_int x r, List.contains_cons]
    congr 1
    show ((y : Int) == (x : Int)) = (x == y)
    rw [Bool.eq_iff_iff, beq_iff_eq, beq_iff_eq]
    omega
theorem notin_nD {x : Nat} {l : List Nat} : opCmp .notin (.int x) (nD l) = some (!l.contains x) := by
  simp only [opCmp, nD, inD, flat, flat_nD, Bool.and_self, if_true, Option.map_some, any_int]
theorem in_nD {x : Nat} {l : List Nat} : opCmp .inn (.int x) (nD l) = some (l.contains x) := by
  simp only [opCmp, nD, inD, flat, flat_nD, Bool.and_self, if_true, any_int]
def sortedB (xs : List D) : Bool := ordAll xs && headNoTup xs && decide (xs.Pairwise fun a b => (!D.lt b a) = true)
theorem sort_self {xs : List D} (h : sortedB xs = true) : opBi .sorted [.lst xs] = some (.lst xs) := by
  simp only [sortedB, Bool.and_eq_true, decide_eq_true_eq] at h
  have : xs.mergeSort (fun a b => !D.lt b a) = xs := List.mergeSort_of_pairwise h.2
  simp only [opBi, biSorted, sortD, h.1.1, h.1.2, Bool.and_self, if_true, this, Option.map_some]
theorem ords_sorted : (List.range 5).all (fun n => sortedB ((ords n).map oD)) = true := by decide +kernel
theorem ords_len : (List.range 5).all (fun n => decide ((ords n).length ≤ 24)) = true := by decide +kernel
theorem ords_sorted' {n : Nat} (h : n ≤ 4) : sortedB ((ords n).map oD) = true := List.all_eq_true.mp ords_sorted n (List.mem_range.mpr (by omega))
theorem ords_len' {n : Nat} (h : n ≤ 4) : (ords n).length ≤ 24 := of_decide_eq_true (List.all_eq_true.mp ords_len n (List.mem_range.mpr (by omega)))
theorem ordsStep_len {n : Nat} (f : List (List Nat × Int)) : (ordsStep n f).length ≤ f.length * n := by
  unfold ordsStep
  induction f with
  | nil => simp
  | cons p f ih =>
    rw [List.flatMap_cons, List.length_append, List.length_map, List.length_cons, Nat.succ_mul]
    have := List.length_filter_le (fun one => !p.1.contains one) (List.range n)
    rw [List.length_range] at this
    omega
end SG
namespace SG
section
variable {cf : CF} {env env' : Env} {d d1 d2 : Dice} {n : Nat} {c : E} {b : S} {x : D}
theorem whl_go (h1 : ev cf c env d = .ok x d1) (h2 : truth x = some true) (h3 : evS cf b env d1 = .nx env' d2) : whlS cf (n + 1) c b env d = whlS cf n c b env' d2 := by
  simp only [whlS, whileLoop, h1, r_out, h2, h3, o_nx]
theorem whl_end (h1 : ev cf c env d = .ok x d1) (h2 : truth x = some false) : whlS cf (n + 1) c b env d = .nx env d1 := by
  simp only [whlS, whileLoop, h1, r_out, h2]
end
theorem fmod_nat (a b : Nat) : Int.fmod (a : Int) (b : Int) = ((a % b : Nat) : Int) := by
  rw [Int.fmod_eq_emod_of_nonneg _ (by omega)]; exact (Int.natCast_emod a b).symm
def Tst (cf : CF) (c : E) : Prop := ∀ (a b : Int) (d : Dice), ∃ x, ev cf c [.sh (.int a), .sh (.int b)] d = .ok x d ∧ truth x = some (decide (b ≠ 0))
theorem euclid {cf : CF} {c : E} {b : S} (hc : Tst cf c) (hb : ∀ (a b' : Nat) (d : Dice), b' ≠ 0 → evS cf b [.sh (.int a), .sh (.int b')] d = .nx [.sh (.int b'), .sh (.int ((a % b' : Nat) : Int))] d) (d : Dice) : ∀ (m a b' n : Nat), b' < 2 ^ m → 2 * m + 1 ≤ n → whlS cf n c b [.sh (.int a), .sh (.int b')] d = .nx [.sh (.int (Nat.gcd a b' : Nat)), .sh (.int 0)] d := by
  have stop : ∀ (a n : Nat), 1 ≤ n → whlS cf n c b [.sh (.int a), .sh (.int (0 : Nat))] d = .nx [.sh (.int a), .sh (.int 0)] d := by
    intro a n hn
    obtain ⟨n, rfl⟩ := Nat.exists_eq_add_of_le' hn
    obtain ⟨x, h1, h2⟩ := hc a 0 d
    exact whl_end h1 (by simpa using h2)
  have go : ∀ (a b' n : Nat), b' ≠ 0 → 1 ≤ n → whlS cf n c b [.sh (.int a), .sh (.int b')] d = whlS cf (n - 1) c b [.sh (.int b'), .sh (.int ((a % b' : Nat) : Int))] d := by
    intro a b' n h hn
    obtain ⟨n, rfl⟩ := Nat.exists_eq_add_of_le' hn
    obtain ⟨x, h1, h2⟩ := hc a b' d
    have : ((b' : Nat) : Int) ≠ 0 := by omega
    exact whl_go h1 (by rw [h2]; simp [h]) (hb a b' d h)
  intro m
  induction m with
  | zero =>
    intro a b' n h hn
    have : b' = 0 := by simp at h; omega
    subst this
    rw [stop a n (by omega), Nat.gcd_zero_right]
  | succ m ih =>
    intro a b' n h hn
    by_cases h0 : b' = 0
    · subst h0; rw [stop a n (by omega), Nat.gcd_zero_right]
    · rw [go a b' n h0 (by omega)]
      have hg : Nat.gcd a b' = Nat.gcd b' (a % b') := by rw [Nat.gcd_comm a b', Nat.gcd_rec b' a, Nat.gcd_comm]
      have hr : a % b' < b' := Nat.mod_lt _ (by omega)
      generalize a % b' = r at hg hr ⊢
      by_cases h1 : r = 0
      · subst h1; rw [stop b' (n - 1) (by omega), hg, Nat.gcd_zero_right]
      · rw [go b' r (n - 1) h1 (by omega)]
        have hg2 : Nat.gcd b' r = Nat.gcd r (b' % r) := by rw [Nat.gcd_comm b' r, Nat.gcd_rec r b', Nat.gcd_comm]
        have h2 : b' % r < 2 ^ m := by
          have q1 : b' % r < r := Nat.mod_lt _ (by omega)
          have q2 : b' % r + r ≤ b' := by
            have := Nat.mod_add_div b' r
            have q3 : 1 ≤ b' / r := Nat.div_pos (by omega) (by omega)
            have q4 : r * 1 ≤ r * (b' / r) := Nat.mul_le_mul_left r q3
            omega
          rw [Nat.pow_succ] at h
          omega
        rw [ih r (b' % r) (n - 1 - 1) h2 (by omega), hg, hg2]
theorem abs_nat (i : Int) : (if i < 0 then -i else i) = (i.natAbs : Int) := by split <;> omega
theorem small400 {n : Nat} (h : n < 2 ^ 250) : n < 2 ^ 400 := Nat.lt_of_lt_of_le h (Nat.pow_le_pow_right (by decide) (by decide))
def low (p q : Int) : Int × Int := (p.fdiv (Nat.gcd p.natAbs q.natAbs : Nat), q.fdiv (Nat.gcd p.natAbs q.natAbs : Nat))
end SG
namespace SG
def along (M : Nat → Nat → Int) : Nat → List Nat → Int
  | _, [] => 1
  | i, j :: r => M i j * along M (i + 1) r
theorem along_fold (M : Nat → Nat → Int) : ∀ (l : List Nat) (k : Nat) (s : Int), (l.zipIdx k).foldl (fun s q => s * M q.2 q.1) s = s * along M k l
  | [], k, s => by simp [along]
  | j :: r, k, s => by rw [List.zipIdx_cons, List.foldl_cons, along_fold M r, along, Int.mul_assoc]
def prods (n : Nat) (M : Nat → Nat → Int) : List (List Nat × Int) := (ords n).map fun p => (p.1, p.2 * along M 0 p.1)
def terms (n : Nat) (c : Nat → Nat → Nat) : List (List Nat × Int) := (prods n fun i j => val (c i j)).filter fun p => decide (p.2 ≠ 0)
def det (n : Nat) (M : Nat → Nat → Int) : Int := ((prods n M).map (·.2)).sum
theorem ords_ok : (List.range 5).all (fun n => (ords n).all fun p => decide (p.1.length = n) && p.1.all (fun j => decide (j < n)) && decide (p.2 = 1 ∨ p.2 = -1) && decide (p.1.Nodup)) = true := by decide +kernel
structure OrdOk (n : Nat) (p : List Nat × Int) : Prop where
  len : p.1.length = n
  lt : ∀ j ∈ p.1, j < n
  sg : p.2 = 1 ∨ p.2 = -1
  nd : p.1.Nodup
theorem ords_mem {n : Nat} (hn : n ≤ 4) {p : List Nat × Int} (h : p ∈ ords n) : OrdOk n p := by
  have := List.all_eq_true.mp (List.all_eq_true.mp ords_ok n (List.mem_range.mpr (by omega))) p h
  simp only [Bool.and_eq_true, decide_eq_true_eq, List.all_eq_true] at this
  obtain ⟨⟨⟨h1, h2⟩, h3⟩, h4⟩ := this
  exact ⟨h1, h2, h3, h4⟩
theorem along_congr {M N : Nat → Nat → Int} : ∀ (l : List Nat) (k : Nat), (∀ i j, l[i]? = some j → M (k + i) j = N (k + i) j) → along M k l = along N k l
  | [], _, _ => rfl
  | x :: r, k, h => by
    have h0 : M k x = N k x := h 0 x rfl
    rw [along, along, h0, along_congr r (k + 1) fun i j e => ?_]
    have := h (i + 1) j (by simpa using e)
    rw [show k + 1 + i = k + (i + 1) by omega]
    exact this
theorem zipIdx_mem {α : Type} {l : List α} {q : α × Nat} (h : q ∈ l.zipIdx) : l[q.2]? = some q.1 := by
  obtain ⟨x, i⟩ := q
  exact List.mem_zipIdx_iff_getElem?.mp h
theorem det_congr {n : Nat} {M N : Nat → Nat → Int} (hn : n ≤ 4) (h : ∀ i j, i < n → j < n → M i j = N i j) : det n M = det n N := by
  unfold det prods
  congr 1
  rw [List.map_map, List.map_map]
  apply List.map_congr_left
  intro p hp
  have o := ords_mem hn hp
  simp only [Function.comp]
  rw [along_congr]
  intro i j e
  have hi := (List.getElem?_eq_some_iff.mp e).1
  have hj := o.lt j (List.mem_of_getElem? e)
  rw [Nat.zero_add]
  exact h i j (by rw [← o.len]; exact hi) hj
structure TabAt (T : D) (n : Nat) (c : Nat → Nat → Nat) : Prop where
  len : opBi .len [T] = some (.int n)
  at' : ∀ i j, i < n → j < n → ∃ R, opIx T (.int i) = some R ∧ opIx R (.int j) = some (.str [c i j])
  sg : ∀ i j, i < n → j < n → Sg (c i j)
structure MatAt (T : D) (n : Nat) (M : Nat → Nat → Int) : Prop where
  len : opBi .len [T] = some (.int n)
  at' : ∀ i j, i < n → j < n → ∃ R, opIx T (.int i) = some R ∧ opIx R (.int j) = some (.int (M i j))
  s64 : ∀ i j, i < n → j < n → s64 (M i j) = true
theorem val_s64 {c : Nat} : s64 (val c) = true := by
  unfold val
  split
  · rfl
  · split <;> rfl
end SG
namespace SG
def loOf (l : List Nat) : Nat := match l.getLast? with | some x => x + 1 | none => 0
def subStep (m : Nat) (found : List (List Nat)) : List (List Nat) := found.flatMap fun l => (List.range' (loOf l) (m - loOf l)).map fun one => l ++ [one]
def subs (m s : Nat) : List (List Nat) := (List.range s).foldl (fun f _ => subStep m f) [[]]
theorem ix_last {l : List Nat} {x : Nat} (h : l.getLast? = some x) : opIx (nD l) (.int (-1)) = some (.int x) := by
  have hne : l ≠ [] := fun z => by subst z; simp at h
  have hl : 0 < l.length := List.length_pos_iff.mpr hne
  have e : l[l.length - 1]? = some x := by rw [← h, List.getLast?_eq_getElem?]
  have h1 : ¬ ((0 : Int) ≤ -1) := by decide
  have h2 : -((l.map fun i => D.int (i : Nat)).length : Int) ≤ -1 := by rw [List.length_map]; omega
  have h3 : ((-1 : Int) + ((l.map fun i => D.int (i : Nat)).length : Nat)).toNat = l.length - 1 := by rw [List.length_map]; omega
  simp only [opIx, nD, atP, ixP, h1, h2, h3, if_false, if_true, Option.bind_some, List.getElem?_map, e, Option.map_some]
theorem dep_nD {l : List Nat} : (nD l).dep ≤ 1 := by
  have : ∀ l : List Nat, D.deps (l.map fun i => D.int (i : Nat)) = 0 := by
    intro l
    induction l with
    | nil => rfl
    | cons x l ih => simp [D.deps, D.dep, ih]
  simp [nD, D.dep, this]
theorem ne_empty {l : List Nat} : opCmp .ne (nD l) (.tup []) = some (decide (l ≠ [])) := by
  have h1 := dep_nD (l := l)
  have h1' : decide ((nD l).dep ≤ 64) = true := decide_eq_true (by omega)
  have h2 : decide ((D.tup []).dep ≤ 64) = true := rfl
  simp only [opCmp, h1', h2, Bool.and_self, if_true]
  cases l <;> rfl
theorem subStep_len {m : Nat} (f : List (List Nat)) : (subStep m f).length ≤ f.length * m := by
  unfold subStep
  induction f with
  | nil => simp
  | cons p f ih =>
    rw [List.flatMap_cons, List.length_append, List.length_map, List.length_cons, Nat.succ_mul, List.length_range']
    omega
end SG
namespace SG
def m2 (r s : Nat → Int) (a b : Nat) : Int := r a * s b - r b * s a
def m3 (r s t : Nat → Int) (a b c : Nat) : Int := r a * m2 s t b c - r b * m2 s t a c + r c * m2 s t a b
def m4 (r s t u : Nat → Int) (a b c d : Nat) : Int := r a * m3 s t u b c d - r b * m3 s t u a c d + r c * m3 s t u a b d - r d * m3 s t u a b c
theorem det1 (M : Nat → Nat → Int) : det 1 M = M 0 0 := by
  have e : ords 1 = [([0], 1)] := by decide +kernel
  simp [det, prods, e, along]
theorem det2 (M : Nat → Nat → Int) : det 2 M = m2 (M 0) (M 1) 0 1 := by
  have e : ords 2 = [([0, 1], 1), ([1, 0], -1)] := by decide +kernel
  simp only [det, prods, e, along, List.map_cons, List.map_nil, List.sum_cons, List.sum_nil, m2]
  grind
theorem det3 (M : Nat → Nat → Int) : det 3 M = m3 (M 0) (M 1) (M 2) 0 1 2 := by
  have e : ords 3 = [([0, 1, 2], 1), ([0, 2, 1], -1), ([1, 0, 2], -1), ([1, 2, 0], 1), ([2, 0, 1], 1), ([2, 1, 0], -1)] := by decide +kernel
  simp only [det, prods, e, along, List.map_cons, List.map_nil, List.sum_cons, List.sum_nil, m3, m2]
  grind
theorem det4 (M : Nat → Nat → Int) : det 4 M = m4 (M 0) (M 1) (M 2) (M 3) 0 1 2 3 := by
  have e : ords 4 = [([0, 1, 2, 3], 1), ([0, 1, 3, 2], -1), ([0, 2, 1, 3], -1), ([0, 2, 3, 1], 1), ([0, 3, 1, 2], 1), ([0, 3, 2, 1], -1), ([1, 0, 2, 3], -1), ([1, 0, 3, 2], 1), ([1, 2, 0, 3], 1), ([1, 2, 3, 0], -1), ([1, 3, 0, 2], -1), ([1, 3, 2, 0], 1), ([2, 0, 1, 3], 1), ([2, 0, 3, 1], -1), ([2, 1, 0, 3], -1), ([2, 1, 3, 0], 1), ([2, 3, 0, 1], 1), ([2, 3, 1, 0], -1), ([3, 0, 1, 2], -1), ([3, 0, 2, 1], 1), ([3, 1, 0, 2], 1), ([3, 1, 2, 0], -1), ([3, 2, 0, 1], -1), ([3, 2, 1, 0], 1)] := by decide +kernel
  simp only [det, prods, e, along, List.map_cons, List.map_nil, List.sum_cons, List.sum_nil, m4, m3, m2]
  grind
theorem m2_swap (r s : Nat → Int) (a b : Nat) : m2 r s b a = - m2 r s a b := by simp only [m2]; grind
theorem m2_same (r s : Nat → Int) (a : Nat) : m2 r s a a = 0 := by simp only [m2]; grind
theorem m3_12 (r s t : Nat → Int) (a b c : Nat) : m3 r s t b a c = - m3 r s t a b c := by simp only [m3, m2]; grind
theorem m3_23 (r s t : Nat → Int) (a b c : Nat) : m3 r s t a c b = - m3 r s t a b c := by simp only [m3, m2]; grind
theorem m3_same (r s t : Nat → Int) (a b : Nat) : m3 r s t a b b = 0 := by simp only [m3, m2]; grind
theorem m3_same' (r s t : Nat → Int) (a b : Nat) : m3 r s t a b a = 0 := by simp only [m3, m2]; grind
theorem m4_34 (r s t u : Nat → Int) (a b c d : Nat) : m4 r s t u a b d c = - m4 r s t u a b c d := by simp only [m4, m3, m2]; grind
theorem m4_23 (r s t u : Nat → Int) (a b c d : Nat) : m4 r s t u a c b d = - m4 r s t u a b c d := by simp only [m4, m3, m2]; grind
theorem m4_12 (r s t u : Nat → Int) (a b c d : Nat) : m4 r s t u b a c d = - m4 r s t u a b c d := by simp only [m4, m3, m2]; grind
theorem m4_s1 (r s t u : Nat → Int) (a b c : Nat) : m4 r s t u a b c a = 0 := by simp only [m4, m3, m2]; grind
theorem m4_s2 (r s t u : Nat → Int) (a b c : Nat) : m4 r s t u a b c b = 0 := by simp only [m4, m3, m2]; grind
theorem m4_s3 (r s t u : Nat → Int) (a b c : Nat) : m4 r s t u a b c c = 0 := by simp only [m4, m3, m2]; grind
theorem dep1 (r : Nat → Int) (w : Nat) : (∃ a, a < w ∧ r a ≠ 0) ∨ ∀ j, j < w → r j = 0 := by
  by_cases h : ∃ a, a < w ∧ r a ≠ 0
  · exact .inl h
  · exact .inr fun j hj => Classical.byContradiction fun z => h ⟨j, hj, z⟩
theorem dep2 (r s : Nat → Int) (w : Nat) : (∃ a b, a < b ∧ b < w ∧ m2 r s a b ≠ 0) ∨ ∃ c0 c1 : Int, (c0 ≠ 0 ∨ c1 ≠ 0) ∧ ∀ j, j < w → c0 * r j + c1 * s j = 0 := by
  by_cases h : ∃ a b, a < b ∧ b < w ∧ m2 r s a b ≠ 0
  · exact .inl h
  · have h' : ∀ a b, a < b → b < w → m2 r s a b = 0 := fun a b h1 h2 => Classical.byContradiction fun z => h ⟨a, b, h1, h2, z⟩
    refine .inr ?_
    rcases dep1 r w with ⟨p, hp, hne⟩ | h0
    · refine ⟨s p, -(r p), .inr (by omega), fun j hj => ?_⟩
      have e : m2 r s p j = 0 := by
        rcases Nat.lt_trichotomy p j with z | z | z
        · exact h' p j z hj
        · subst z; exact m2_same r s p
        · rw [m2_swap, h' j p z hp]; rfl
      simp only [m2] at e
      grind
    · exact ⟨1, 0, .inl (by decide), fun j hj => by rw [h0 j hj]; simp⟩
theorem dep3 (r s t : Nat → Int) (w : Nat) : (∃ a b c, a < b ∧ b < c ∧ c < w ∧ m3 r s t a b c ≠ 0) ∨ ∃ c0 c1 c2 : Int, (c0 ≠ 0 ∨ c1 ≠ 0 ∨ c2 ≠ 0) ∧ ∀ j, j < w → c0 * r j + c1 * s j + c2 * t j = 0 := by
  by_cases h : ∃ a b c, a < b ∧ b < c ∧ c < w ∧ m3 r s t a b c ≠ 0
  · exact .inl h
  · have h' : ∀ a b c, a < b → b < c → c < w → m3 r s t a b c = 0 := fun a b c h1 h2 h3 => Classical.byContradiction fun z => h ⟨a, b, c, h1, h2, h3, z⟩
    refine .inr ?_
    rcases dep2 r s w with ⟨a, b, hab, hb, hne⟩ | ⟨c0, c1, hc, hz⟩
    · refine ⟨m2 s t a b, -(m2 r t a b), m2 r s a b, .inr (.inr hne), fun j hj => ?_⟩
      have e : m3 r s t a b j = 0 := by
        rcases Nat.lt_trichotomy j b with z | z | z
        · rcases Nat.lt_trichotomy j a with q | q | q
          · rw [m3_23, m3_12, h' j a b q hab hb]; rfl
          · subst q; exact m3_same' ..
          · rw [m3_23, h' a j b q z hb]; rfl
        · subst z; exact m3_same ..
        · exact h' a b j hab z hj
      simp only [m3, m2] at e ⊢
      grind
    · refine ⟨c0, c1, 0, ?_, fun j hj => by rw [hz j hj]; simp⟩
      rcases hc with q | q
      · exact .inl q
      · exact .inr (.inl q)
theorem dep4 (r s t u : Nat → Int) (w : Nat) : (∃ a b c d, a < b ∧ b < c ∧ c < d ∧ d < w ∧ m4 r s t u a b c d ≠ 0) ∨ ∃ c0 c1 c2 c3 : Int, (c0 ≠ 0 ∨ c1 ≠ 0 ∨ c2 ≠ 0 ∨ c3 ≠ 0) ∧ ∀ j, j < w → c0 * r j + c1 * s j + c2 * t j + c3 * u j = 0 := by
  by_cases h : ∃ a b c d, a < b ∧ b < c ∧ c < d ∧ d < w ∧ m4 r s t u a b c d ≠ 0
  · exact .inl h
  · have h' : ∀ a b c d, a < b → b < c → c < d → d < w → m4 r s t u a b c d = 0 := fun a b c d h1 h2 h3 h4 => Classical.byContradiction fun z => h ⟨a, b, c, d, h1, h2, h3, h4, z⟩
    refine .inr ?_
    rcases dep3 r s t w with ⟨a, b, c, hab, hbc, hc, hne⟩ | ⟨c0, c1, c2, hc, hz⟩
    · refine ⟨-(m3 s t u a b c), m3 r t u a b c, -(m3 r s u a b c), m3 r s t a b c, .inr (.inr (.inr hne)), fun j hj => ?_⟩
      have e : m4 r s t u a b c j = 0 := by
        rcases Nat.lt_trichotomy j c with z | z | z
        · rcases Nat.lt_trichotomy j b with q | q | q
          · rcases Nat.lt_trichotomy j a with p | p | p
            · rw [m4_34, m4_23, m4_12, h' j a b c p hab hbc hc]; rfl
            · subst p; exact m4_s1 ..
            · rw [m4_34, m4_23, h' a j b c p q hbc hc]; rfl
          · subst q; exact m4_s2 ..
          · rw [m4_34, h' a b j c hab q z hc]; rfl
        · subst z; exact m4_s3 ..
        · exact h' a b c j hab hbc z hj
      simp only [m4, m3, m2] at e ⊢
      grind
    · refine ⟨c0, c1, c2, 0, ?_, fun j hj => by rw [hz j hj]; simp⟩
      rcases hc with q | q | q
      · exact .inl q
      · exact .inr (.inl q)
      · exact .inr (.inr (.inl q))
theorem chk_asc : (List.range 5).all (fun w => (List.range 4).all (fun a => (!(decide (a < w)) || (subs w 1).contains [a])) && (List.range 4).all fun a => (List.range 4).all fun b => (!(decide (a < b) && decide (b < w)) || (subs w 2).contains [a, b]) && (List.range 4).all fun c => (!(decide (a < b) && decide (b < c) && decide (c < w)) || (subs w 3).contains [a, b, c]) && (List.range 4).all fun d => (!(decide (a < b) && decide (b < c) && decide (c < d) && decide (d < w)) || (subs w 4).contains [a, b, c, d])) = true := by decide +kernel
def rowSum (m : Nat) (c : Nat → Int) (M : Nat → Nat → Int) (j : Nat) : Int := ((List.range m).map fun i => c i * M i j).sum
def cs4 (c0 c1 c2 c3 : Int) (i : Nat) : Int := if i = 0 then c0 else if i = 1 then c1 else if i = 2 then c2 else c3
theorem dep_main {m w : Nat} (hm : 1 ≤ m ∧ m ≤ 4) (hw : w ≤ 4) (M : Nat → Nat → Int) : (∃ cols ∈ subs w m, det m (fun a b => M a (cols.getD b 0)) ≠ 0) ∨ ∃ c : Nat → Int, (∃ i, i < m ∧ c i ≠ 0) ∧ ∀ j, j < w → rowSum m c M j = 0 := by
  have chk := List.all_eq_true.mp chk_asc w (List.mem_range.mpr (by omega))
  simp only [Bool.and_eq_true, List.all_eq_true, List.mem_range, Bool.or_eq_true, Bool.not_eq_true', decide_eq_false_iff_not, List.contains_iff_mem, Bool.and_eq_false_imp, decide_eq_true_eq] at chk
  obtain ⟨ck1, ck⟩ := chk
  rcases (show m = 1 ∨ m = 2 ∨ m = 3 ∨ m = 4 by omega) with h | h | h | h <;> subst h
  · rcases dep1 (M 0) w with ⟨a, ha, hne⟩ | h0
    · refine .inl ⟨[a], (ck1 a (by omega)).resolve_left (by omega), ?_⟩
      rw [det1]; exact hne
    · refine .inr ⟨fun _ => 1, ⟨0, by decide, by decide⟩, fun j hj => ?_⟩
      simp [rowSum, h0 j hj, List.range_succ]
  · rcases dep2 (M 0) (M 1) w with ⟨a, b, hab, hb, hne⟩ | ⟨c0, c1, hc, hz⟩
    · refine .inl ⟨[a, b], ((ck a (by omega) b (by omega)).1).resolve_left (fun z => by have := z hab; omega), ?_⟩
      rw [det2]; exact hne
    · refine .inr ⟨cs4 c0 c1 0 0, ?_, fun j hj => ?_⟩
      · rcases hc with q | q
        · exact ⟨0, by decide, q⟩
        · exact ⟨1, by decide, q⟩
      · have := hz j hj
        simp only [rowSum, List.range_succ, List.range_zero, List.nil_append, List.cons_append, List.map_cons, List.map_nil, List.sum_cons, List.sum_nil]
        show c0 * M 0 j + (c1 * M 1 j + 0) = 0
        omega
  · rcases dep3 (M 0) (M 1) (M 2) w with ⟨a, b, c, hab, hbc, hc, hne⟩ | ⟨c0, c1, c2, hc, hz⟩
    · refine .inl ⟨[a, b, c], (((ck a (by omega) b (by omega)).2 c (by omega)).1).resolve_left (fun z => by have := z ⟨hab, hbc⟩; omega), ?_⟩
      rw [det3]; exact hne
    · refine .inr ⟨cs4 c0 c1 c2 0, ?_, fun j hj => ?_⟩
      · rcases hc with q | q | q
        · exact ⟨0, by decide, q⟩
        · exact ⟨1, by decide, q⟩
        · exact ⟨2, by decide, q⟩
      · have := hz j hj
        simp only [rowSum, List.range_succ, List.range_zero, List.nil_append, List.cons_append, List.map_cons, List.map_nil, List.sum_cons, List.sum_nil]
        show c0 * M 0 j + (c1 * M 1 j + (c2 * M 2 j + 0)) = 0
        omega
  · rcases dep4 (M 0) (M 1) (M 2) (M 3) w with ⟨a, b, c, d, hab, hbc, hcd, hd, hne⟩ | ⟨c0, c1, c2, c3, hc, hz⟩
    · refine .inl ⟨[a, b, c, d], (((ck a (by omega) b (by omega)).2 c (by omega)).2 d (by omega)).resolve_left (fun z => by have := z ⟨⟨hab, hbc⟩, hcd⟩; omega), ?_⟩
      rw [det4]; exact hne
    · refine .inr ⟨cs4 c0 c1 c2 c3, ?_, fun j hj => ?_⟩
      · rcases hc with q | q | q | q
        · exact ⟨0, by decide, q⟩
        · exact ⟨1, by decide, q⟩
        · exact ⟨2, by decide, q⟩
        · exact ⟨3, by decide, q⟩
      · have := hz j hj
        simp only [rowSum, List.range_succ, List.range_zero, List.nil_append, List.cons_append, List.map_cons, List.map_nil, List.sum_cons, List.sum_nil]
        show c0 * M 0 j + (c1 * M 1 j + (c2 * M 2 j + (c3 * M 3 j + 0))) = 0
        omega
end SG
namespace SG
def isInt : D → Bool
  | .int _ => true
  | _ => false
def frac : D → Bool
  | .tup [.int a, .int b] => decide (0 < b) && decide (b < 10 ^ 60) && decide (-10 ^ 60 < a) && decide (a < 10 ^ 60) && decide (Nat.gcd a.natAbs b.natAbs = 1)
  | _ => false
def nodie : D → Bool
  | .die => false
  | .tup l => l.all fun x => match x with | .die => false | _ => true
  | _ => true
theorem pow60 : opBin .pow (.int 10) (.int 60) = some (.int (10 ^ 60)) := rfl
end SG
namespace SG
def hdI : D → Int
  | .tup (.int a :: _) => a
  | _ => 0
def rowOk : D → List Nat → Bool
  | .tup xs, s => decide (xs.length = s.length) && xs.all frac && decide (xs.map (fun x => sgc (hdI x)) = s)
  | _, _ => false
def rowsOk : List D → List (List Nat) → Bool
  | x :: r, s :: t => rowOk x s && rowsOk r t
  | _, _ => true
def filled (t : List (List Nat)) : D → Bool
  | .tup rows => decide (rows.length = t.length) && rowsOk rows t
  | _ => false
def OkX (x : D) : Prop := nodie x = true ∧ ∀ l, x = .tup l → l.length < 1000
def OkR (r : D) : Prop := r ≠ .die ∧ ∀ xs, r = .tup xs → xs.length < 1000 ∧ ∀ x ∈ xs, OkX x
def OkV (v : D) : Prop := v ≠ .die ∧ ∀ rows, v = .tup rows → rows.length < 1000 ∧ ∀ r ∈ rows, OkR r
theorem joinS_nil : ∀ l : List (List Nat), joinS [] l = l.flatten
  | [] => rfl
  | [x] => by simp [joinS]
  | x :: y :: r => by simp [joinS, joinS_nil (y :: r)]
theorem join_chars {γ : Type} (l : List γ) (f : γ → Nat) (h : l.length < 1000) : opMe .join (.str []) [.lst (l.map fun x => .str [f x])] = some (.str (l.map f)) := by
  have e : strsOf (l.map fun x => .str [f x]) = some (l.map fun x => [f x]) := strs_map l fun x => [f x]
  have e2 : ((l.map fun x => [f x]).map (·.length)).sum = l.length := by
    clear e h
    induction l with
    | nil => rfl
    | cons x r ih => simp_all; omega
  have e3 : (l.map fun x => [f x]).flatten = l.map f := by
    clear e e2 h
    induction l with
    | nil => rfl
    | cons x r ih => simp_all
  have hl : l.length + l.length * 0 ≤ lim := le_lim (by omega)
  simp only [opMe, meJoin, joinR, e, Option.bind_some, joinS_nil, e3, e2, List.length_map, List.length_nil, hl, if_pos]
theorem isTup_not {r : D} (h : r ≠ .die) (h2 : ∀ xs, r ≠ .tup xs) : isI .tuple r = some false := by
  cases r <;> first | rfl | (exact absurd rfl h) | (exact absurd rfl (h2 _))
theorem ix0 {x : D} (h : frac x = true) : opIx x (.int 0) = some (.int (hdI x)) := by
  unfold frac at h
  split at h
  · rfl
  · cases h
end SG
namespace SG
def tr (w : Nat) (t : List (List Nat)) : List (List Nat) := (List.range w).map fun j => t.map fun row => row.getD j 48
theorem tr_tab {t : List (List Nat)} {m w : Nat} (T : Tab t m w) : Tab (tr w t) w m := by
  refine ⟨by simp [tr], fun r hr => ?_⟩
  obtain ⟨j, hj, rfl⟩ := List.mem_map.mp hr
  refine ⟨by simp [T.len], fun c hc => ?_⟩
  obtain ⟨row, hrow, rfl⟩ := List.mem_map.mp hc
  have := T.row row hrow
  have hjl : j < row.length := by rw [this.1]; exact List.mem_range.mp hj
  rw [show row.getD j 48 = row[j] by simp [List.getD, hjl]]
  exact this.2 _ (List.getElem_mem hjl)
theorem tab_head {t : List (List Nat)} {m w : Nat} (T : Tab t m w) (hm : 1 ≤ m) (hw : w < 1000) : ∃ r0, opIx (tabD t) (.int 0) = some (.str r0) ∧ opBi .len [.str r0] = some (.int w) := by
  cases t with
  | nil => have := T.len; simp at this; omega
  | cons r0 t' =>
    have hr0 := T.row r0 List.mem_cons_self
    exact ⟨r0, ixT (e := D.str) (l := r0 :: t') (j := 0) rfl, by rw [len_str (by omega), hr0.1]⟩
theorem tab_len {t : List (List Nat)} {m w : Nat} (T : Tab t m w) : opBi .len [tabD t] = some (.int m) := by unfold tabD; rw [x_len1, List.length_map, T.len]
def sgAt (t : List (List Nat)) (i j : Nat) : Nat := (t.getD i []).getD j 48
theorem tab_at {t : List (List Nat)} {m w : Nat} (T : Tab t m w) {i : Nat} (hi : i < m) (hw : w < 1000) : opIx (tabD t) (.int i) = some (.str (t.getD i [])) ∧ (t.getD i []).length = w ∧ ∀ j, j < w → opIx (.str (t.getD i [])) (.int j) = some (.str [sgAt t i j]) ∧ Sg (sgAt t i j) := by
  have hit : i < t.length := by rw [T.len]; exact hi
  have hg : t.getD i [] = t[i] := by simp [List.getD, hit]
  have hrow := T.row _ (List.getElem_mem hit)
  rw [← hg] at hrow
  refine ⟨?_, hrow.1, fun j hj => ?_⟩
  · unfold tabD; rw [hg]; exact ixT (List.getElem?_eq_getElem hit)
  · have hjl : j < (t.getD i []).length := by omega
    have e : (t.getD i [])[j]? = some (sgAt t i j) := by
      unfold sgAt
      generalize t.getD i [] = r at hjl
      rw [List.getElem?_eq_getElem hjl]; simp [List.getD, hjl]
    refine ⟨ixS e (by omega), hrow.2 _ (List.mem_of_getElem? e)⟩
end SG
namespace SG
open PyProof.Rows PySem.W
structure Keyed {γ : Type} (e : γ → D) (key : γ → List (Int ⊕ List Nat)) : Prop where
  lt : ∀ a b, D.lt (e a) (e b) = PyProof.Rows.lexLt itemOrd (key a) (key b)
  ord : ∀ a b, D.ordB (e a) (e b) = true
  inj : ∀ a b, key a = key b → a = b
section
variable {γ : Type} {e : γ → D} {key : γ → List (Int ⊕ List Nat)}
theorem least_spec (K : Keyed e key) : ∀ (xs : List γ) (x : γ), ∃ m ∈ x :: xs, least (e x) (xs.map e) = e m ∧ ∀ y ∈ x :: xs, PyProof.Rows.lexLt itemOrd (key y) (key m) = false
  | [], x => ⟨x, by simp, rfl, fun y hy => by simp at hy; subst hy; exact lex_irrefl (O := itemOrd) _⟩
  | z :: xs, x => by
    rw [List.map_cons, least, K.lt]
    cases h : PyProof.Rows.lexLt itemOrd (key z) (key x) with
    | true =>
      obtain ⟨m, hm, e1, e2⟩ := least_spec K xs z
      refine ⟨m, List.mem_cons_of_mem _ hm, by simpa using e1, fun y hy => ?_⟩
      rcases List.mem_cons.mp hy with q | q
      · subst q
        cases hh : PyProof.Rows.lexLt itemOrd (key y) (key m) with
        | false => rfl
        | true =>
          have := lex_trans (O := itemOrd) _ _ _ h hh
          rw [e2 z List.mem_cons_self] at this; cases this
      · exact e2 y q
    | false =>
      obtain ⟨m, hm, e1, e2⟩ := least_spec K xs x
      refine ⟨m, ?_, by simpa using e1, fun y hy => ?_⟩
      · rcases List.mem_cons.mp hm with q | q
        · subst q; simp
        · exact List.mem_cons_of_mem _ (List.mem_cons_of_mem _ q)
      · rcases List.mem_cons.mp hy with q | q
        · subst q; exact e2 y List.mem_cons_self
        · rcases List.mem_cons.mp q with q | q
          · subst q
            cases hh : PyProof.Rows.lexLt itemOrd (key y) (key m) with
            | false => rfl
            | true =>
              have hx := e2 x List.mem_cons_self
              rcases lex_negTrans (O := itemOrd) _ (key x) _ hh with q | q
              · rw [h] at q; cases q
              · rw [hx] at q; cases q
          · exact e2 y (List.mem_cons_of_mem _ q)
theorem ordAll_map (K : Keyed e key) (l : List γ) : ordAll (l.map e) = true := by
  unfold ordAll
  rw [List.all_eq_true]
  intro x hx
  rw [List.all_eq_true]
  intro y hy
  obtain ⟨a, _, rfl⟩ := List.mem_map.mp hx
  obtain ⟨b, _, rfl⟩ := List.mem_map.mp hy
  exact K.ord a b
def IsMin (key : γ → List (Int ⊕ List Nat)) (l : List γ) (m : γ) : Prop := m ∈ l ∧ ∀ y ∈ l, PyProof.Rows.lexLt itemOrd (key y) (key m) = false
theorem min_spec (K : Keyed e key) {l : List γ} (h : l ≠ []) : ∃ m, IsMin key l m ∧ opBi .min [.lst (l.map e)] = some (e m) := by
  cases l with
  | nil => exact absurd rfl h
  | cons x xs =>
    obtain ⟨m, hm, e1, e2⟩ := least_spec K xs x
    refine ⟨m, ⟨hm, e2⟩, ?_⟩
    have := ordAll_map K (x :: xs)
    simp only [List.map_cons] at this
    simp only [opBi, biMin, List.map_cons, this, if_true, e1]
theorem min_unique (K : Keyed e key) {l l' : List γ} {m m' : γ} (h : IsMin key l m) (h' : IsMin key l' m') (s : ∀ x, x ∈ l ↔ x ∈ l') : m = m' := by
  apply K.inj
  exact lex_total (O := itemOrd) _ _ (h'.2 m ((s m).mp h.1)) (h.2 m' ((s m').mpr h'.1))
end
theorem max_ints : ∀ (l : List Nat) (x : Nat), most (.int x) (l.map fun i => .int (i : Nat)) = .int ((l.foldl max x : Nat) : Int)
  | [], x => rfl
  | y :: l, x => by
    rw [List.map_cons, most, List.foldl_cons]
    by_cases h : x < y
    · have : D.lt (.int x) (.int y) = true := decide_eq_true (by omega)
      rw [this, if_pos rfl, max_ints l y, Nat.max_eq_right (by omega)]
    · have : D.lt (.int x) (.int y) = false := decide_eq_false (by omega)
      rw [this, if_neg (by decide), max_ints l x, Nat.max_eq_left (by omega)]
theorem ordAll_ints (l : List Nat) : ordAll (l.map fun i => D.int (i : Nat)) = true := by
  unfold ordAll
  rw [List.all_eq_true]
  intro x hx
  rw [List.all_eq_true]
  intro y hy
  obtain ⟨a, _, rfl⟩ := List.mem_map.mp hx
  obtain ⟨b, _, rfl⟩ := List.mem_map.mp hy
  exact ordI
theorem bi_max_nat {l : List Nat} {x : Nat} : opBi .max [.lst ((x :: l).map fun i => .int (i : Nat))] = some (.int ((l.foldl max x : Nat) : Int)) := by
  have := ordAll_ints (x :: l)
  simp only [List.map_cons] at this
  simp only [opBi, biMax, List.map_cons, this, if_true, max_ints]
theorem foldl_max_le : ∀ (l : List Nat) (x : Nat), x ≤ l.foldl max x ∧ (∀ y ∈ l, y ≤ l.foldl max x) ∧ (l.foldl max x = x ∨ l.foldl max x ∈ l)
  | [], x => ⟨Nat.le_refl _, by simp, .inl rfl⟩
  | y :: l, x => by
    obtain ⟨h1, h2, h3⟩ := foldl_max_le l (max x y)
    rw [List.foldl_cons]
    refine ⟨by omega, fun z hz => ?_, ?_⟩
    · rcases List.mem_cons.mp hz with q | q
      · subst q; omega
      · exact h2 z q
    · rcases h3 with q | q
      · rcases Nat.le_total x y with z | z
        · rw [q, Nat.max_eq_right z]; exact .inr List.mem_cons_self
        · rw [q, Nat.max_eq_left z]; exact .inl rfl
      · exact .inr (List.mem_cons_of_mem _ q)
end SG
namespace SG
abbrev Pr := Int × Int
def pD (p : Pr) : D := .tup [.int p.1, .int p.2]
def rD (r : List Pr) : D := .tup (r.map pD)
def mD (m : List (List Pr)) : D := .tup (m.map rD)
def Nice (p : Pr) : Prop := 1 ≤ p.2 ∧ p.2 ≤ 4 ∧ -100 ≤ p.1 ∧ p.1 ≤ 100 ∧ Nat.gcd p.1.natAbs p.2.natAbs = 1
def niceB (p : Pr) : Bool := decide (1 ≤ p.2) && decide (p.2 ≤ 4) && decide (-100 ≤ p.1) && decide (p.1 ≤ 100) && decide (Nat.gcd p.1.natAbs p.2.natAbs = 1)
theorem niceB_iff {p : Pr} (h : niceB p = true) : Nice p := by
  simp only [niceB, Bool.and_eq_true, decide_eq_true_eq] at h
  obtain ⟨⟨⟨⟨h1, h2⟩, h3⟩, h4⟩, h5⟩ := h
  exact ⟨h1, h2, h3, h4, h5⟩
theorem low_all : ∀ i : Fin 19, ∀ j : Fin 4, (niceB (low ((i.val : Int) - 9) ((j.val : Int) + 1)) && decide (sgc (low ((i.val : Int) - 9) ((j.val : Int) + 1)).1 = sgc ((i.val : Int) - 9))) = true := by decide +kernel
theorem low_nice {x y : Int} (h1 : -9 ≤ x) (h2 : x ≤ 9) (h3 : 1 ≤ y) (h4 : y ≤ 4) : Nice (low x y) ∧ sgc (low x y).1 = sgc x := by
  have := low_all ⟨(x + 9).toNat, by omega⟩ ⟨(y - 1).toNat, by omega⟩
  simp only at this
  rw [show ((((x + 9).toNat : Nat) : Int) - 9) = x by omega, show ((((y - 1).toNat : Nat) : Int) + 1) = y by omega, Bool.and_eq_true] at this
  exact ⟨niceB_iff this.1, of_decide_eq_true this.2⟩
theorem nice_low {p : Pr} (h : Nice p) : low p.1 p.2 = p := by
  obtain ⟨x, y⟩ := p
  obtain ⟨h1, h2, h3, h4, h5⟩ := h
  simp only at h5
  simp only [low, h5]
  simp
theorem nice_frac {p : Pr} (h : Nice p) : frac (pD p) = true := by
  obtain ⟨h1, h2, h3, h4, h5⟩ := h
  have a1 : 0 < p.2 := by omega
  have a2 : p.2 < 10 ^ 60 := by omega
  have a3 : -10 ^ 60 < p.1 := by omega
  have a4 : p.1 < 10 ^ 60 := by omega
  simp only [frac, pD, a1, a2, a3, a4, h5, decide_true, Bool.and_self]
def fits : List Nat → List Pr → Prop
  | [], [] => True
  | c :: s, p :: r => (Nice p ∧ sgc p.1 = c) ∧ fits s r
  | _, _ => False
theorem sgc_val {c : Nat} (h : Sg c) {z : Int} (hz : 0 < z) : sgc (val c * z) = c := by
  rcases h with h | h | h <;> subst h
  · simp [val, sgc, hz]
  · have : ¬ (0 < -z) := by omega
    simp [val, sgc, hz, this]; omega
  · simp [val, sgc]
def fitsM : List (List Nat) → List (List Pr) → Prop
  | [], [] => True
  | s :: t, r :: m => fits s r ∧ fitsM t m
  | _, _ => False
end SG
namespace SG
structure MatN (m : List (List Pr)) (n w : Nat) : Prop where
  len : m.length = n
  row : ∀ r ∈ m, r.length = w ∧ ∀ p ∈ r, Nice p
def rowsSg : List (List Pr) → List (List Nat) → Bool
  | r :: m, s :: t => decide (r.map (fun p => sgc p.1) = s) && rowsSg m t
  | _, _ => true
theorem fits_row : ∀ {s : List Nat} {r : List Pr}, fits s r → r.length = s.length ∧ (∀ p ∈ r, Nice p) ∧ r.map (fun p => sgc p.1) = s
  | [], [], _ => ⟨rfl, by simp, rfl⟩
  | c :: s, p :: r, h => by
    obtain ⟨h1, h2, h3⟩ := fits_row h.2
    refine ⟨by simp [h1], ?_, by simp [h3, h.1.2]⟩
    intro q hq
    rcases List.mem_cons.mp hq with e | e
    · subst e; exact h.1.1
    · exact h2 q e
  | [], _ :: _, h => h.elim
  | _ :: _, [], h => h.elim
theorem fits_mat : ∀ {t : List (List Nat)} {m : List (List Pr)} {w : Nat}, (∀ s ∈ t, s.length = w) → fitsM t m → MatN m t.length w ∧ rowsSg m t = true
  | [], [], w, _, _ => ⟨⟨rfl, by simp⟩, rfl⟩
  | s :: t, r :: m, w, hw, h => by
    obtain ⟨i1, i2⟩ := fits_mat (w := w) (fun q hq => hw q (List.mem_cons_of_mem _ hq)) h.2
    obtain ⟨h1, h2, h3⟩ := fits_row h.1
    refine ⟨⟨by simp [i1.len], fun q hq => ?_⟩, by simp [rowsSg, h3, i2]⟩
    rcases List.mem_cons.mp hq with e | e
    · subst e; exact ⟨h1.trans (hw s List.mem_cons_self), h2⟩
    · exact i1.row q e
  | [], _ :: _, _, _, h => h.elim
  | _ :: _, [], _, _, h => h.elim
theorem okx_pD {p : Pr} : OkX (pD p) := ⟨rfl, fun l e => by cases e; simp⟩
theorem okr_rD {r : List Pr} (h : r.length < 1000) : OkR (rD r) := ⟨by simp [rD], fun xs e => by
  cases e
  refine ⟨by simpa using h, fun x hx => ?_⟩
  obtain ⟨p, _, rfl⟩ := List.mem_map.mp hx
  exact okx_pD⟩
theorem okv_mD {m : List (List Pr)} {n w : Nat} (M : MatN m n w) (hn : n < 900) (hw : w < 900) : OkV (mD m) := ⟨by simp [mD], fun xs e => by
  cases e
  refine ⟨by have := M.len; simp; omega, fun x hx => ?_⟩
  obtain ⟨r, hr, rfl⟩ := List.mem_map.mp hx
  have := M.row r hr
  exact okr_rD (by omega)⟩
theorem rowOk_rD {r : List Pr} {s : List Nat} (hl : r.length = s.length) (hn : ∀ p ∈ r, Nice p) : rowOk (rD r) s = decide (r.map (fun p => sgc p.1) = s) := by
  have e1 : (r.map pD).all frac = true := by
    rw [List.all_eq_true]
    intro x hx
    obtain ⟨p, hp, rfl⟩ := List.mem_map.mp hx
    exact nice_frac (hn p hp)
  have e2 : (r.map pD).map (fun x => sgc (hdI x)) = r.map (fun p => sgc p.1) := by
    rw [List.map_map]; rfl
  show (decide ((r.map pD).length = s.length) && (r.map pD).all frac && decide ((r.map pD).map (fun x => sgc (hdI x)) = s)) = _
  rw [e1, e2, List.length_map, hl]
  simp
theorem rowsOk_mD : ∀ {m : List (List Pr)} {t : List (List Nat)} {w : Nat}, (∀ r ∈ m, r.length = w ∧ ∀ p ∈ r, Nice p) → (∀ s ∈ t, s.length = w) → rowsOk (m.map rD) t = rowsSg m t
  | [], [], _, _, _ => rfl
  | [], _ :: _, _, _, _ => rfl
  | _ :: _, [], _, _, _ => rfl
  | r :: m, s :: t, w, h1, h2 => by
    have ih := rowsOk_mD (m := m) (t := t) (w := w) (fun q hq => h1 q (List.mem_cons_of_mem _ hq)) (fun q hq => h2 q (List.mem_cons_of_mem _ hq))
    have hr := h1 r List.mem_cons_self
    have hs := h2 s List.mem_cons_self
    show (rowOk (rD r) s && rowsOk (m.map rD) t) = (_ && rowsSg m t)
    rw [ih, rowOk_rD (by omega) hr.2]
theorem filled_mD {m : List (List Pr)} {t : List (List Nat)} {n w : Nat} (M : MatN m n w) (T : Tab t n w) : filled t (mD m) = rowsSg m t := by
  show (decide ((m.map rD).length = t.length) && rowsOk (m.map rD) t) = _
  rw [List.length_map, M.len, T.len, rowsOk_mD M.row fun s hs => (T.row s hs).1]
  simp
theorem pD_eq {p : Pr} (h : Nice p) : opCmp .eq (.tup [.int (low p.1 p.2).1, .int (low p.1 p.2).2]) (pD p) = some true := by
  rw [nice_low h]
  simp [opCmp, pD, D.dep, D.deps, D.eq, D.eqs]
end SG
namespace SG
def Div12 (u : Nat) : Prop := u = 1 ∨ u = 2 ∨ u = 3 ∨ u = 4 ∨ u = 6 ∨ u = 12
instance {u : Nat} : Decidable (Div12 u) := by unfold Div12; infer_instance
def lcmStep (u : Nat) (p : Pr) : Nat := u * p.2.toNat / Nat.gcd u p.2.toNat
def lcmAll (m : List (List Pr)) : Nat := m.foldl (fun u r => r.foldl lcmStep u) 1
def DenOk (m : List (List Pr)) : Prop := ∀ r ∈ m, ∀ p ∈ r, 1 ≤ p.2 ∧ p.2 ≤ 4 ∧ p.1.natAbs < 2 ^ 40
theorem lcmStep_ok {u : Nat} {p : Pr} (hu : Div12 u) (h1 : 1 ≤ p.2) (h2 : p.2 ≤ 4) : Div12 (lcmStep u p) ∧ u ∣ lcmStep u p ∧ p.2.toNat ∣ lcmStep u p := by
  unfold lcmStep
  rcases (show p.2 = 1 ∨ p.2 = 2 ∨ p.2 = 3 ∨ p.2 = 4 by omega) with h | h | h | h <;> rw [h] <;> rcases hu with z | z | z | z | z | z <;> subst z <;> decide
theorem div12_pos {u : Nat} (hu : Div12 u) : 1 ≤ u ∧ u ≤ 12 := by rcases hu with z | z | z | z | z | z <;> omega
def wE (U : Nat) (p : Pr) : Int := p.1 * ((U : Int).fdiv p.2)
def whD (U : Nat) (m : List (List Pr)) : D := .lst (m.map fun r => .lst (r.map fun p => .int (wE U p)))
theorem wE_fac {U : Nat} {p : Pr} (hu : Div12 U) (h1 : 1 ≤ p.2) (h2 : p.2 ≤ 4) (hd : p.2.toNat ∣ U) : 1 ≤ (U : Int).fdiv p.2 ∧ (U : Int).fdiv p.2 ≤ 12 := by
  rcases (show p.2 = 1 ∨ p.2 = 2 ∨ p.2 = 3 ∨ p.2 = 4 by omega) with h | h | h | h <;> rw [h] at hd ⊢ <;> rcases hu with z | z | z | z | z | z <;> subst z <;> revert hd <;> decide
theorem sgc_mul {a b : Int} (hb : 0 < b) : sgc (a * b) = sgc a := by
  have h1 : (a * b > 0) ↔ a > 0 := by constructor <;> intro h; exact (Int.pos_of_mul_pos_left h (by omega)); exact Int.mul_pos h hb
  have h2 : (a * b < 0) ↔ a < 0 := by constructor <;> intro h; exact Int.neg_of_mul_neg_left h (by omega); exact Int.mul_neg_of_neg_of_pos h hb
  unfold sgc
  simp only [h1, h2]
theorem wE_sgc {U : Nat} {p : Pr} (hu : Div12 U) (h1 : 1 ≤ p.2) (h2 : p.2 ≤ 4) (hd : p.2.toNat ∣ U) : sgc (wE U p) = sgc p.1 := sgc_mul (by have := wE_fac hu h1 h2 hd; omega)
theorem wE_s64 {U : Nat} {p : Pr} (hu : Div12 U) (h1 : 1 ≤ p.2) (h2 : p.2 ≤ 4) (h3 : p.1.natAbs < 2 ^ 40) (hd : p.2.toNat ∣ U) : s64 (wE U p) = true := by
  have hf := wE_fac hu h1 h2 hd
  unfold wE
  generalize (U : Int).fdiv p.2 = q at hf
  have hb : (p.1 * q).natAbs ≤ 2 ^ 40 * 12 := by rw [Int.natAbs_mul]; exact Nat.mul_le_mul (by omega) (by omega)
  simp only [s64, Bool.and_eq_true, decide_eq_true_eq]
  omega
end SG
namespace SG
structure WhOk (t : List (List Nat)) (m w : Nat) (M : Nat → Nat → Int) (T : D) : Prop where
  len : opBi .len [T] = some (.int m)
  at' : ∀ i, i < m → ∃ R, opIx T (.int i) = some R ∧ ∀ j, j < w → opIx R (.int j) = some (.int (M i j))
  s64 : ∀ i j, i < m → j < w → s64 (M i j) = true
  sg : ∀ i j, i < m → j < w → sgc (M i j) = sgAt t i j
def wI (U : Nat) (mb : List (List Pr)) (i j : Nat) : Int := wE U ((mb.getD i []).getD j (0, 1))
theorem getD_get {α : Type} {l : List α} {i : Nat} {x : α} (h : i < l.length) : l.getD i x = l[i] := by simp [List.getD, h]
theorem get?_getD {α : Type} {l : List α} {i : Nat} {x : α} (h : i < l.length) : l[i]? = some (l.getD i x) := by rw [getD_get h, List.getElem?_eq_getElem h]
theorem rowsSg_at : ∀ {mb : List (List Pr)} {t : List (List Nat)} {i : Nat}, rowsSg mb t = true → i < mb.length → i < t.length → (mb.getD i []).map (fun p => sgc p.1) = t.getD i []
  | [], _, _, _, h, _ => by simp at h
  | _ :: _, [], _, _, _, h => by simp at h
  | r :: mb, s :: t, 0, h, _, _ => by
    simp only [rowsSg, Bool.and_eq_true, decide_eq_true_eq] at h
    simpa using h.1
  | r :: mb, s :: t, i + 1, h, h1, h2 => by
    simp only [rowsSg, Bool.and_eq_true] at h
    have := rowsSg_at (i := i) h.2 (by simpa using h1) (by simpa using h2)
    simpa using this
theorem wh_ok {t : List (List Nat)} {m w : Nat} {mb : List (List Pr)} {U : Nat} (T : Tab t m w) (hl : mb.length = m) (hr : ∀ r ∈ mb, r.length = w) (hd : DenOk mb) (sg : rowsSg mb t = true) (hU : Div12 U) (hdv : ∀ r ∈ mb, ∀ p ∈ r, p.2.toNat ∣ U) : WhOk t m w (wI U mb) (whD U mb) := by
  have mem : ∀ i, i < m → mb.getD i [] ∈ mb := fun i hi => by rw [getD_get (by omega)]; exact List.getElem_mem _
  have mem2 : ∀ i j, i < m → j < w → (mb.getD i []).getD j (0, 1) ∈ mb.getD i [] := fun i j hi hj => by
    have hj' : j < (mb.getD i []).length := by rw [hr _ (mem i hi)]; exact hj
    generalize mb.getD i [] = r at hj'
    rw [getD_get hj']; exact List.getElem_mem _
  refine ⟨by unfold whD; rw [x_len2, List.length_map, hl], fun i hi => ⟨_, ixL (e := fun r : List Pr => D.lst (r.map fun p => .int (wE U p))) (get?_getD (x := []) (by omega)), fun j hj => ?_⟩, fun i j hi hj => ?_, fun i j hi hj => ?_⟩
  · exact ixL (e := fun p : Pr => D.int (wE U p)) (get?_getD (x := ((0, 1) : Pr)) (by rw [hr _ (mem i hi)]; exact hj))
  · obtain ⟨h1, h2, h3⟩ := hd _ (mem i hi) _ (mem2 i j hi hj)
    exact wE_s64 hU h1 h2 h3 (hdv _ (mem i hi) _ (mem2 i j hi hj))
  · obtain ⟨h1, h2, h3⟩ := hd _ (mem i hi) _ (mem2 i j hi hj)
    unfold wI
    rw [wE_sgc hU h1 h2 (hdv _ (mem i hi) _ (mem2 i j hi hj))]
    have e := rowsSg_at (i := i) sg (by omega) (by rw [T.len]; exact hi)
    unfold sgAt
    rw [← e]
    have hj' : j < (mb.getD i []).length := by rw [hr _ (mem i hi)]; exact hj
    generalize mb.getD i [] = r at hj'
    rw [getD_get hj', getD_get (by rw [List.length_map]; exact hj'), List.getElem_map]
theorem sgc_ne {z : Int} : z ≠ 0 ↔ sgc z ≠ 48 := by
  unfold sgc
  constructor
  · intro h
    by_cases h1 : z > 0
    · simp [h1]
    · have : z < 0 := by omega
      simp [h1, this]
  · intro h z0
    subst z0
    exact h rfl
end SG
namespace SG
def chStep (f : List (List Nat)) : List (List Nat) := f.flatMap fun s => [43, 45, 48].map fun c => s ++ [c]
def chAll (m : Nat) : List (List Nat) := (List.range m).foldl (fun f _ => chStep f) [[]]
def chs (m : Nat) : List (List Nat) := (chAll m).take ((chAll m).length - 1)
theorem chAll_succ (m : Nat) : chAll (m + 1) = chStep (chAll m) := by unfold chAll; rw [List.range_succ, List.foldl_append]; rfl
theorem chAll_mem : ∀ (m : Nat) {l : List Nat}, l.length = m → (∀ c ∈ l, Sg c) → l ∈ chAll m
  | 0, l, h, _ => by
    have := List.eq_nil_of_length_eq_zero h
    subst this
    simp [chAll]
  | m + 1, l, h, hs => by
    have hne : l ≠ [] := fun z => by subst z; simp at h
    have e := List.dropLast_concat_getLast hne
    rw [chAll_succ]
    unfold chStep
    refine List.mem_flatMap.mpr ⟨l.dropLast, chAll_mem m (by simp [h]) fun c hc => hs c (List.dropLast_subset _ hc), List.mem_map.mpr ⟨l.getLast hne, ?_, e⟩⟩
    rcases hs _ (List.getLast_mem hne) with z | z | z <;> rw [z] <;> simp
theorem chk_chs : (List.range 5).all (fun m => (chAll m == chs m ++ [List.replicate m 48]) && decide ((chAll m).length ≤ 81) && (chs m).all fun l => decide (l.length = m) && l.all (fun c => decide (c = 43 ∨ c = 45 ∨ c = 48)) && decide (l ≠ List.replicate m 48)) = true := by decide +kernel
theorem chs_ok {m : Nat} (hm : m ≤ 4) : chAll m = chs m ++ [List.replicate m 48] ∧ (chAll m).length ≤ 81 ∧ ∀ l ∈ chs m, l.length = m ∧ (∀ c ∈ l, Sg c) ∧ l ≠ List.replicate m 48 := by
  have := List.all_eq_true.mp chk_chs m (List.mem_range.mpr (by omega))
  simp only [Bool.and_eq_true, decide_eq_true_eq, List.all_eq_true, beq_iff_eq] at this
  obtain ⟨⟨h1, h2⟩, h3⟩ := this
  exact ⟨h1, h2, fun l hl => ⟨(h3 l hl).1.1, (h3 l hl).1.2, (h3 l hl).2⟩⟩
theorem chs_mem {m : Nat} (hm : m ≤ 4) {l : List Nat} (h : l.length = m) (hs : ∀ c ∈ l, Sg c) (hne : l ≠ List.replicate m 48) : l ∈ chs m := by
  have := chAll_mem m h hs
  rw [(chs_ok hm).1, List.mem_append, List.mem_singleton] at this
  exact this.resolve_right hne
theorem least_ints : ∀ (l : List Int) (x : Int), least (.int x) (l.map .int) = .int (l.foldl min x)
  | [], x => rfl
  | y :: l, x => by
    rw [List.map_cons, least, List.foldl_cons]
    by_cases h : y < x
    · have : D.lt (.int y) (.int x) = true := decide_eq_true h
      rw [this, if_pos rfl, least_ints l y, Int.min_eq_right (by omega)]
    · have : D.lt (.int y) (.int x) = false := decide_eq_false h
      rw [this, if_neg (by decide), least_ints l x, Int.min_eq_left (by omega)]
theorem most_ints : ∀ (l : List Int) (x : Int), most (.int x) (l.map .int) = .int (l.foldl max x)
  | [], x => rfl
  | y :: l, x => by
    rw [List.map_cons, most, List.foldl_cons]
    by_cases h : x < y
    · have : D.lt (.int x) (.int y) = true := decide_eq_true h
      rw [this, if_pos rfl, most_ints l y, Int.max_eq_right (by omega)]
    · have : D.lt (.int x) (.int y) = false := decide_eq_false h
      rw [this, if_neg (by decide), most_ints l x, Int.max_eq_left (by omega)]
theorem ordAll_I (l : List Int) : ordAll (l.map .int) = true := by
  unfold ordAll
  rw [List.all_eq_true]
  intro x hx
  rw [List.all_eq_true]
  intro y hy
  obtain ⟨a, _, rfl⟩ := List.mem_map.mp hx
  obtain ⟨b, _, rfl⟩ := List.mem_map.mp hy
  exact ordI
theorem bi_minI {l : List Int} {x : Int} : opBi .min [.lst ((x :: l).map .int)] = some (.int (l.foldl min x)) := by
  have := ordAll_I (x :: l)
  simp only [List.map_cons] at this
  simp only [opBi, biMin, List.map_cons, this, if_true, least_ints]
theorem bi_maxI {l : List Int} {x : Int} : opBi .max [.lst ((x :: l).map .int)] = some (.int (l.foldl max x)) := by
  have := ordAll_I (x :: l)
  simp only [List.map_cons] at this
  simp only [opBi, biMax, List.map_cons, this, if_true, most_ints]
theorem foldl_minI : ∀ (l : List Int) (x : Int), l.foldl min x ≤ x ∧ (∀ y ∈ l, l.foldl min x ≤ y) ∧ (l.foldl min x = x ∨ l.foldl min x ∈ l)
  | [], x => ⟨Int.le_refl _, by simp, .inl rfl⟩
  | y :: l, x => by
    obtain ⟨h1, h2, h3⟩ := foldl_minI l (min x y)
    rw [List.foldl_cons]
    refine ⟨by omega, fun z hz => ?_, ?_⟩
    · rcases List.mem_cons.mp hz with q | q
      · subst q; omega
      · exact h2 z q
    · rcases h3 with q | q
      · rcases Int.le_total x y with z | z
        · rw [q, Int.min_eq_left z]; exact .inl rfl
        · rw [q, Int.min_eq_right z]; exact .inr List.mem_cons_self
      · exact .inr (List.mem_cons_of_mem _ q)
theorem foldl_maxI : ∀ (l : List Int) (x : Int), x ≤ l.foldl max x ∧ (∀ y ∈ l, y ≤ l.foldl max x) ∧ (l.foldl max x = x ∨ l.foldl max x ∈ l)
  | [], x => ⟨Int.le_refl _, by simp, .inl rfl⟩
  | y :: l, x => by
    obtain ⟨h1, h2, h3⟩ := foldl_maxI l (max x y)
    rw [List.foldl_cons]
    refine ⟨by omega, fun z hz => ?_, ?_⟩
    · rcases List.mem_cons.mp hz with q | q
      · subst q; omega
      · exact h2 z q
    · rcases h3 with q | q
      · rcases Int.le_total x y with z | z
        · rw [q, Int.max_eq_right z]; exact .inr List.mem_cons_self
        · rw [q, Int.max_eq_left z]; exact .inl rfl
      · exact .inr (List.mem_cons_of_mem _ q)
def cv (t : List (List Nat)) (ch : List Nat) (j i : Nat) : Int := val (sgAt t i j) * val (ch.getD i 48)
def colV (t : List (List Nat)) (ch : List Nat) (m j : Nat) : List Int := (List.range m).map (cv t ch j)
def balL : List Int → Bool
  | [] => true
  | x :: l => decide (l.foldl min x = -(l.foldl max x))
def bal (t : List (List Nat)) (m w : Nat) (ch : List Nat) : Bool := (List.range w).all fun j => balL (colV t ch m j)
theorem val_vals (c : Nat) : val c = 1 ∨ val c = -1 ∨ val c = 0 := by
  unfold val
  split
  · exact .inl rfl
  · split
    · exact .inr (.inl rfl)
    · exact .inr (.inr rfl)
theorem cv_vals (t : List (List Nat)) (ch : List Nat) (j i : Nat) : cv t ch j i = 1 ∨ cv t ch j i = -1 ∨ cv t ch j i = 0 := by
  unfold cv
  rcases val_vals (sgAt t i j) with h | h | h <;> rcases val_vals (ch.getD i 48) with q | q | q <;> rw [h, q] <;> decide
theorem balL_iff {l : List Int} (h : ∀ x ∈ l, x = 1 ∨ x = -1 ∨ x = 0) : balL l = true ↔ (∀ x ∈ l, x = 0) ∨ (1 ∈ l ∧ -1 ∈ l) := by
  cases l with
  | nil => simp [balL]
  | cons x l =>
    obtain ⟨a1, a2, a3⟩ := foldl_minI l x
    obtain ⟨b1, b2, b3⟩ := foldl_maxI l x
    have mn : l.foldl min x ∈ x :: l := by
      rcases a3 with q | q
      · rw [q]; exact List.mem_cons_self
      · exact List.mem_cons_of_mem _ q
    have mxx : l.foldl max x ∈ x :: l := by
      rcases b3 with q | q
      · rw [q]; exact List.mem_cons_self
      · exact List.mem_cons_of_mem _ q
    have lo : ∀ y ∈ x :: l, l.foldl min x ≤ y := fun y hy => by
      rcases List.mem_cons.mp hy with q | q
      · subst q; exact a1
      · exact a2 y q
    have hi : ∀ y ∈ x :: l, y ≤ l.foldl max x := fun y hy => by
      rcases List.mem_cons.mp hy with q | q
      · subst q; exact b1
      · exact b2 y q
    unfold balL
    rw [decide_eq_true_eq]
    generalize l.foldl min x = mi at *
    generalize l.foldl max x = ma at *
    constructor
    · intro e
      have := lo _ mxx
      rcases h _ mxx with q | q | q
      · exact .inr ⟨q ▸ mxx, by rw [q] at e; exact e ▸ mn⟩
      · omega
      · refine .inl fun y hy => ?_
        have := lo y hy
        have := hi y hy
        omega
    · rintro (h0 | ⟨h1, h2⟩)
      · rw [h0 _ mn, h0 _ mxx]; rfl
      · have q1 := lo _ h2
        have q2 := hi _ h1
        rcases h _ mn with z | z | z <;> rcases h _ mxx with z' | z' | z' <;> omega
def Bal (t : List (List Nat)) (m : Nat) (ch : List Nat) (j : Nat) : Prop := (∀ i, i < m → cv t ch j i = 0) ∨ ((∃ i, i < m ∧ cv t ch j i = 1) ∧ ∃ i, i < m ∧ cv t ch j i = -1)
theorem bal_iff {t : List (List Nat)} {m w : Nat} {ch : List Nat} : bal t m w ch = true ↔ ∀ j, j < w → Bal t m ch j := by
  unfold bal
  rw [List.all_eq_true]
  have key : ∀ j, balL (colV t ch m j) = true ↔ Bal t m ch j := fun j => by
    rw [balL_iff (fun x hx => by
      obtain ⟨i, _, rfl⟩ := List.mem_map.mp hx
      exact cv_vals t ch j i)]
    unfold Bal colV
    simp only [List.mem_map, List.mem_range]
    constructor
    · rintro (h | ⟨h1, h2⟩)
      · exact .inl fun i hi => h _ ⟨i, hi, rfl⟩
      · exact .inr ⟨h1, h2⟩
    · rintro (h | ⟨h1, h2⟩)
      · refine .inl ?_
        rintro x ⟨i, hi, rfl⟩
        exact h i hi
      · exact .inr ⟨h1, h2⟩
  constructor
  · intro h j hj; exact (key j).mp (h j (List.mem_range.mpr hj))
  · intro h j hj; exact (key j).mpr (h j (List.mem_range.mp hj))
def sgn (z : Int) : Int := if z > 0 then 1 else if z < 0 then -1 else 0
theorem val_sgc (z : Int) : val (sgc z) = sgn z := by
  unfold sgc sgn
  split
  · rfl
  · split <;> rfl
theorem sgn_mul (a b : Int) : sgn a * sgn b = sgn (a * b) := by
  rcases Int.lt_trichotomy a 0 with ha | ha | ha <;> rcases Int.lt_trichotomy b 0 with hb | hb | hb
  · have := Int.mul_pos_of_neg_of_neg ha hb; simp [sgn, ha, hb, this, show ¬ 0 < a by omega, show ¬ 0 < b by omega]
  · subst hb; simp [sgn]
  · have := Int.mul_neg_of_neg_of_pos ha hb; simp [sgn, ha, hb, this, show ¬ 0 < a by omega, show ¬ 0 < a * b by omega]
  · subst ha; simp [sgn]
  · subst ha; simp [sgn]
  · subst ha; simp [sgn]
  · have := Int.mul_neg_of_pos_of_neg ha hb; simp [sgn, ha, hb, this, show ¬ 0 < b by omega, show ¬ 0 < a * b by omega]
  · subst hb; simp [sgn]
  · have := Int.mul_pos ha hb; simp [sgn, ha, hb, this]
theorem sum_signs : ∀ {l : List Int}, l.sum = 0 → (∀ x ∈ l, x = 0) ∨ ((∃ x ∈ l, 0 < x) ∧ ∃ x ∈ l, x < 0) := by
  have pos : ∀ {l : List Int}, (∀ x ∈ l, 0 ≤ x) → 0 ≤ l.sum ∧ (l.sum = 0 → ∀ x ∈ l, x = 0) := by
    intro l
    induction l with
    | nil => intro _; exact ⟨by simp, by simp⟩
    | cons y l ih =>
      intro h
      obtain ⟨i1, i2⟩ := ih fun x hx => h x (List.mem_cons_of_mem _ hx)
      have hy := h y List.mem_cons_self
      rw [List.sum_cons]
      refine ⟨by omega, fun e x hx => ?_⟩
      rcases List.mem_cons.mp hx with q | q
      · subst q; omega
      · exact i2 (by omega) x q
  have neg : ∀ {l : List Int}, (∀ x ∈ l, x ≤ 0) → l.sum ≤ 0 ∧ (l.sum = 0 → ∀ x ∈ l, x = 0) := by
    intro l
    induction l with
    | nil => intro _; exact ⟨by simp, by simp⟩
    | cons y l ih =>
      intro h
      obtain ⟨i1, i2⟩ := ih fun x hx => h x (List.mem_cons_of_mem _ hx)
      have hy := h y List.mem_cons_self
      rw [List.sum_cons]
      refine ⟨by omega, fun e x hx => ?_⟩
      rcases List.mem_cons.mp hx with q | q
      · subst q; omega
      · exact i2 (by omega) x q
  intro l h
  by_cases h1 : ∃ x ∈ l, 0 < x
  · by_cases h2 : ∃ x ∈ l, x < 0
    · exact .inr ⟨h1, h2⟩
    · exact .inl ((pos fun x hx => Int.not_lt.mp fun z => h2 ⟨x, hx, z⟩).2 h)
  · exact .inl ((neg fun x hx => Int.not_lt.mp fun z => h1 ⟨x, hx, z⟩).2 h)
theorem kernel_bal {t : List (List Nat)} {m w : Nat} {M : Nat → Nat → Int} {c : Nat → Int} (hm : m ≤ 4) (sg : ∀ i j, i < m → j < w → sgc (M i j) = sgAt t i j) (hc : ∃ i, i < m ∧ c i ≠ 0) (hz : ∀ j, j < w → rowSum m c M j = 0) : ∃ ch ∈ chs m, bal t m w ch = true := by
  have hg : ∀ i, i < m → ((List.range m).map fun i => sgc (c i)).getD i 48 = sgc (c i) := fun i hi => by simp [List.getD, hi]
  have hSg : ∀ z : Int, Sg (sgc z) := fun z => by
    unfold sgc Sg
    split
    · exact .inl rfl
    · split
      · exact .inr (.inl rfl)
      · exact .inr (.inr rfl)
  refine ⟨(List.range m).map fun i => sgc (c i), chs_mem hm (by simp) (fun x hx => ?_) (fun z => ?_), bal_iff.mpr fun j hj => ?_⟩
  · obtain ⟨i, _, rfl⟩ := List.mem_map.mp hx
    exact hSg _
  · obtain ⟨i, hi, hne⟩ := hc
    have h1 := hg i hi
    rw [z] at h1
    have h2 : (List.replicate m 48).getD i 48 = 48 := by simp [List.getD, hi]
    rw [h2] at h1
    exact (sgc_ne.mp hne) h1.symm
  · have e : ∀ i, i < m → cv t ((List.range m).map fun i => sgc (c i)) j i = sgn (c i * M i j) := fun i hi => by
      unfold cv
      rw [hg i hi, ← sg i j hi hj, val_sgc, val_sgc, sgn_mul, Int.mul_comm]
    rcases sum_signs (hz j hj) with h | ⟨⟨x, hx, hp⟩, y, hy, hn⟩
    · refine .inl fun i hi => ?_
      rw [e i hi, h _ (List.mem_map.mpr ⟨i, List.mem_range.mpr hi, rfl⟩)]
      rfl
    · obtain ⟨i, hi, rfl⟩ := List.mem_map.mp hx
      obtain ⟨i', hi', rfl⟩ := List.mem_map.mp hy
      have hi := List.mem_range.mp hi
      have hi' := List.mem_range.mp hi'
      refine .inr ⟨⟨i, hi, by rw [e i hi]; simp [sgn, hp]⟩, i', hi', by rw [e i' hi']; simp [sgn, hn, show ¬ 0 < c i' * M i' j by omega]⟩
end SG
namespace SG
theorem sgn_one : sgn 1 = 1 := rfl
theorem along_sgn (M : Nat → Nat → Int) : ∀ (l : List Nat) (k : Nat), sgn (along M k l) = along (fun i j => sgn (M i j)) k l
  | [], _ => rfl
  | x :: r, k => by rw [along, along, ← sgn_mul, along_sgn M r (k + 1)]
theorem sgn_sg {z : Int} (h : z = 1 ∨ z = -1) : sgn z = z := by rcases h with h | h <;> subst h <;> rfl
def tau (c : Nat → Nat → Nat) (p : List Nat × Int) : Int := p.2 * along (fun i j => val (c i j)) 0 p.1
theorem prod_sgn {n : Nat} {c : Nat → Nat → Nat} {M : Nat → Nat → Int} (hn : n ≤ 4) (sg : ∀ i j, i < n → j < n → sgc (M i j) = c i j) {p : List Nat × Int} (hp : p ∈ ords n) : sgn (p.2 * along M 0 p.1) = tau c p := by
  have o := ords_mem hn hp
  rw [← sgn_mul, sgn_sg o.sg, along_sgn]
  unfold tau
  congr 1
  refine along_congr _ _ fun i j e => ?_
  have hi := (List.getElem?_eq_some_iff.mp e).1
  have hj := o.lt j (List.mem_of_getElem? e)
  rw [Nat.zero_add, ← sg i j (by rw [← o.len]; exact hi) hj, val_sgc]
theorem mem_terms {n : Nat} {c : Nat → Nat → Nat} {x : List Nat × Int} : x ∈ terms n c ↔ ∃ p ∈ ords n, x = (p.1, tau c p) ∧ tau c p ≠ 0 := by
  unfold terms prods
  rw [List.mem_filter, List.mem_map]
  constructor
  · rintro ⟨⟨p, hp, rfl⟩, h⟩
    exact ⟨p, hp, rfl, of_decide_eq_true h⟩
  · rintro ⟨p, hp, rfl, h⟩
    exact ⟨⟨p, hp, rfl⟩, decide_eq_true h⟩
theorem sgn_le {s z : Int} (hs : s = 1 ∨ s = -1) (h : sgn z = 0 ∨ sgn z = s) : 0 ≤ s * z := by
  unfold sgn at h
  rcases hs with q | q <;> subst q <;> split at h <;> (try split at h) <;> omega
theorem sgn_lt {s z : Int} (hs : s = 1 ∨ s = -1) (h : sgn z = s) : 0 < s * z := by
  unfold sgn at h
  rcases hs with q | q <;> subst q <;> split at h <;> (try split at h) <;> omega
theorem sum_pos {γ : Type} (f : γ → Int) : ∀ (l : List γ), (∀ x ∈ l, 0 ≤ f x) → 0 ≤ (l.map f).sum ∧ ((∃ x ∈ l, 0 < f x) → 0 < (l.map f).sum)
  | [], _ => ⟨by simp, by simp⟩
  | y :: l, h => by
    obtain ⟨i1, i2⟩ := sum_pos f l fun x hx => h x (List.mem_cons_of_mem _ hx)
    have hy := h y List.mem_cons_self
    rw [List.map_cons, List.sum_cons]
    refine ⟨by omega, ?_⟩
    rintro ⟨x, hx, hp⟩
    rcases List.mem_cons.mp hx with q | q
    · subst q; omega
    · have := i2 ⟨x, q, hp⟩; omega
theorem sum_mulL {γ : Type} (s : Int) (f : γ → Int) : ∀ l : List γ, s * (l.map f).sum = (l.map fun x => s * f x).sum
  | [] => by simp
  | y :: l => by rw [List.map_cons, List.sum_cons, List.map_cons, List.sum_cons, Int.mul_add, sum_mulL s f l]
theorem det_sum (n : Nat) (M : Nat → Nat → Int) : det n M = ((ords n).map fun p => p.2 * along M 0 p.1).sum := by
  unfold det prods; rw [List.map_map]; rfl
def Alw (n : Nat) (c : Nat → Nat → Nat) : Prop := ∃ s : Int, (s = 1 ∨ s = -1) ∧ (∃ p ∈ ords n, tau c p = s) ∧ ∀ p ∈ ords n, tau c p = 0 ∨ tau c p = s
theorem tau_vals {n : Nat} (hn : n ≤ 4) (c : Nat → Nat → Nat) {p : List Nat × Int} (hp : p ∈ ords n) : tau c p = 1 ∨ tau c p = -1 ∨ tau c p = 0 := by
  have o := ords_mem hn hp
  have : ∀ (l : List Nat) (k : Nat), along (fun i j => val (c i j)) k l = 1 ∨ along (fun i j => val (c i j)) k l = -1 ∨ along (fun i j => val (c i j)) k l = 0 := by
    intro l
    induction l with
    | nil => intro k; exact .inl rfl
    | cons x l ih =>
      intro k
      rw [along]
      rcases val_vals (c k x) with h | h | h <;> rcases ih (k + 1) with q | q | q <;> rw [h, q] <;> decide
  unfold tau
  rcases o.sg with h | h <;> rcases this p.1 0 with q | q | q <;> rw [h, q] <;> decide
theorem det_alw {n : Nat} {c : Nat → Nat → Nat} {M : Nat → Nat → Int} {s : Int} (hn : n ≤ 4) (sg : ∀ i j, i < n → j < n → sgc (M i j) = c i j) (hs : s = 1 ∨ s = -1) (h1 : ∃ p ∈ ords n, tau c p = s) (h2 : ∀ p ∈ ords n, tau c p = 0 ∨ tau c p = s) : 0 < s * det n M := by
  rw [det_sum, sum_mulL]
  refine (sum_pos _ _ fun p hp => sgn_le hs ?_).2 ?_
  · rw [prod_sgn hn sg hp]; exact h2 p hp
  · obtain ⟨p, hp, e⟩ := h1
    exact ⟨p, hp, sgn_lt hs (by rw [prod_sgn hn sg hp]; exact e)⟩
theorem det_never {n : Nat} {c : Nat → Nat → Nat} {M : Nat → Nat → Int} (hn : n ≤ 4) (sg : ∀ i j, i < n → j < n → sgc (M i j) = c i j) (h : ∀ p ∈ ords n, tau c p = 0) : det n M = 0 := by
  rw [det_sum]
  have : ∀ l : List (List Nat × Int), (∀ p ∈ l, p ∈ ords n) → (l.map fun p => p.2 * along M 0 p.1).sum = 0 := by
    intro l
    induction l with
    | nil => intro _; rfl
    | cons p l ih =>
      intro hl
      have hp := hl p List.mem_cons_self
      have e := prod_sgn hn sg hp
      rw [h p hp] at e
      have e0 : p.2 * along M 0 p.1 = 0 := by
        unfold sgn at e
        split at e
        · cases e
        · split at e
          · cases e
          · omega
      rw [List.map_cons, List.sum_cons, ih fun q hq => hl q (List.mem_cons_of_mem _ hq), e0]; rfl
  exact this _ fun _ h => h
def wtM (p : List Nat) (i j : Nat) : Int := if p.getD i 0 = j then 100 else 1
def Wm (c : Nat → Nat → Nat) (p : List Nat) (i j : Nat) : Int := val (c i j) * wtM p i j
theorem along_mul (A B : Nat → Nat → Int) : ∀ (l : List Nat) (k : Nat), along (fun i j => A i j * B i j) k l = along A k l * along B k l
  | [], _ => rfl
  | x :: r, k => by rw [along, along, along, along_mul A B r (k + 1)]; grind
def lowB (p q : List Nat × Int) : Int := if q.1 = p.1 then along (wtM p.1) 0 p.1 else -(along (wtM p.1) 0 q.1)
theorem chk_wt : (List.range 5).all (fun n => (ords n).all fun p => decide (0 < ((ords n).map (lowB p)).sum) && (ords n).all (fun q => decide (0 ≤ along (wtM p.1) 0 q.1) && (!decide (q.1 = p.1) || decide (q = p)))) = true := by decide +kernel
theorem det_wt {n : Nat} {c : Nat → Nat → Nat} {p : List Nat × Int} {s : Int} (hn : n ≤ 4) (hp : p ∈ ords n) (hs : s = 1 ∨ s = -1) (ht : tau c p = s) : 0 < s * det n (Wm c p.1) := by
  have ck := List.all_eq_true.mp (List.all_eq_true.mp chk_wt n (List.mem_range.mpr (by omega))) p hp
  rw [Bool.and_eq_true, decide_eq_true_eq, List.all_eq_true] at ck
  obtain ⟨c1, c2⟩ := ck
  rw [det_sum, sum_mulL]
  refine Int.lt_of_lt_of_le c1 ?_
  have : ∀ l : List (List Nat × Int), (∀ q ∈ l, q ∈ ords n) → (l.map (lowB p)).sum ≤ (l.map fun q => s * (q.2 * along (Wm c p.1) 0 q.1)).sum := by
    intro l
    induction l with
    | nil => intro _; exact Int.le_refl _
    | cons q l ih =>
      intro hl
      have hq := hl q List.mem_cons_self
      have ih := ih fun z hz => hl z (List.mem_cons_of_mem _ hz)
      rw [List.map_cons, List.sum_cons, List.map_cons, List.sum_cons]
      have c3 := c2 q hq
      rw [Bool.and_eq_true, decide_eq_true_eq, Bool.or_eq_true, Bool.not_eq_true', decide_eq_false_iff_not, decide_eq_true_eq] at c3
      have e : s * (q.2 * along (Wm c p.1) 0 q.1) = s * tau c q * along (wtM p.1) 0 q.1 := by
        have : along (Wm c p.1) 0 q.1 = along (fun i j => val (c i j)) 0 q.1 * along (wtM p.1) 0 q.1 := along_mul _ _ _ _
        rw [this]; unfold tau; grind
      rw [e]
      refine Int.add_le_add ?_ ih
      unfold lowB
      by_cases hqp : q.1 = p.1
      · have hq' : q = p := c3.2.resolve_left fun z => z hqp
        subst hq'
        rw [if_pos rfl, ht]
        rcases hs with z | z <;> subst z <;> omega
      · rw [if_neg hqp]
        have := c3.1
        generalize along (wtM p.1) 0 q.1 = z at this
        rcases tau_vals hn c hq with y | y | y <;> rw [y] <;> rcases hs with x | x <;> subst x <;> omega
  exact this _ fun _ h => h
theorem sgc_Wm {c : Nat → Nat → Nat} {p : List Nat} {i j : Nat} (h : Sg (c i j)) : sgc (Wm c p i j) = c i j := by
  unfold Wm
  rw [sgc_mul (by unfold wtM; split <;> decide)]
  rcases h with h | h | h <;> rw [h] <;> rfl
theorem along_lin {A B C : Nat → Nat → Int} {k : Nat} {α β : Int} (h1 : ∀ i j, i ≠ k → A i j = B i j ∧ C i j = A i j) (h2 : ∀ j, C k j = α * A k j + β * B k j) : ∀ (l : List Nat) (i : Nat), (k < i → along C i l = along A i l ∧ along B i l = along A i l) ∧ (i ≤ k → k < i + l.length → along C i l = α * along A i l + β * along B i l)
  | [], i => ⟨fun _ => ⟨rfl, rfl⟩, fun a b => by simp at b; omega⟩
  | x :: r, i => by
    obtain ⟨i1, i2⟩ := along_lin h1 h2 r (i + 1)
    refine ⟨fun hk => ?_, fun a b => ?_⟩
    · obtain ⟨q1, q2⟩ := i1 (by omega)
      obtain ⟨q3, q4⟩ := h1 i x (by omega)
      simp only [along]
      rw [q1, q2, q4, q3]; exact ⟨rfl, rfl⟩
    · simp only [along]
      by_cases e : i = k
      · subst e
        obtain ⟨q1, q2⟩ := i1 (by omega)
        rw [q1, q2, h2]; grind
      · obtain ⟨q3, q4⟩ := h1 i x e
        rw [List.length_cons] at b
        rw [i2 (by omega) (by omega), q4, ← q3]; grind
theorem det_lin {n k : Nat} {A B C : Nat → Nat → Int} {α β : Int} (hn : n ≤ 4) (hk : k < n) (h1 : ∀ i j, i ≠ k → A i j = B i j ∧ C i j = A i j) (h2 : ∀ j, C k j = α * A k j + β * B k j) : det n C = α * det n A + β * det n B := by
  rw [det_sum, det_sum, det_sum]
  have : ∀ l : List (List Nat × Int), (∀ q ∈ l, q ∈ ords n) → (l.map fun p => p.2 * along C 0 p.1).sum = α * (l.map fun p => p.2 * along A 0 p.1).sum + β * (l.map fun p => p.2 * along B 0 p.1).sum := by
    intro l
    induction l with
    | nil => intro _; simp
    | cons p l ih =>
      intro hl
      have o := ords_mem hn (hl p List.mem_cons_self)
      have ih := ih fun z hz => hl z (List.mem_cons_of_mem _ hz)
      have e := (along_lin (α := α) (β := β) h1 h2 p.1 0).2 (Nat.zero_le _) (by rw [o.len]; omega)
      rw [List.map_cons, List.sum_cons, List.map_cons, List.sum_cons, List.map_cons, List.sum_cons, ih, e]
      grind
  exact this _ fun _ h => h
theorem sgc_cases (x : Int) : (0 < x ∧ sgc x = 43) ∨ (x < 0 ∧ sgc x = 45) ∨ (x = 0 ∧ sgc x = 48) := by
  unfold sgc
  rcases Int.lt_trichotomy x 0 with h | h | h
  · exact .inr (.inl ⟨h, by rw [if_neg (by omega), if_pos h]⟩)
  · exact .inr (.inr ⟨h, by rw [if_neg (by omega), if_neg (by omega)]⟩)
  · exact .inl ⟨h, by rw [if_pos h]⟩
theorem sgc_comb {a b x y : Int} (ha : 0 < a) (hb : 0 < b) (h : sgc y = sgc x) : sgc (a * x + b * y) = sgc x := by
  rcases sgc_cases x with ⟨hx, ex⟩ | ⟨hx, ex⟩ | ⟨hx, ex⟩ <;> rcases sgc_cases y with ⟨hy, ey⟩ | ⟨hy, ey⟩ | ⟨hy, ey⟩ <;> rw [ex, ey] at h <;> try (exact absurd h (by decide))
  · have q1 := Int.mul_pos ha hx
    have q2 := Int.mul_pos hb hy
    rw [ex]; unfold sgc; rw [if_pos (by omega)]
  · have q1 := Int.mul_neg_of_pos_of_neg ha hx
    have q2 := Int.mul_neg_of_pos_of_neg hb hy
    rw [ex]; unfold sgc; rw [if_neg (by omega), if_pos (by omega)]
  · subst hx hy; simp
theorem zero_member {n : Nat} {c : Nat → Nat → Nat} (hn : n ≤ 4) (hc : ∀ i j, i < n → j < n → Sg (c i j)) (h1 : ∃ p ∈ ords n, tau c p = 1) (h2 : ∃ p ∈ ords n, tau c p = -1) : ∃ M : Nat → Nat → Int, (∀ i j, i < n → j < n → sgc (M i j) = c i j) ∧ det n M = 0 := by
  obtain ⟨p, hp, tp⟩ := h1
  obtain ⟨q, hq, tq⟩ := h2
  have dp := det_wt hn hp (.inl rfl) tp
  have dq := det_wt hn hq (.inr rfl) tq
  let N : Nat → Nat → Nat → Int := fun k i j => if i < k then Wm c p.1 i j else Wm c q.1 i j
  have sN : ∀ k i j, i < n → j < n → sgc (N k i j) = c i j := fun k i j hi hj => by
    show sgc (if i < k then Wm c p.1 i j else Wm c q.1 i j) = c i j
    split
    · exact sgc_Wm (hc i j hi hj)
    · exact sgc_Wm (hc i j hi hj)
  have n0 : det n (N 0) < 0 := by
    have : det n (N 0) = det n (Wm c q.1) := det_congr hn fun i j _ _ => by show (if i < 0 then _ else _) = _; rw [if_neg (by omega)]
    rw [this]; omega
  have nn : 0 < det n (N n) := by
    have : det n (N n) = det n (Wm c p.1) := det_congr hn fun i j hi _ => by show (if i < n then _ else _) = _; rw [if_pos hi]
    rw [this]; omega
  have step : ∀ k, k ≤ n → det n (N k) < 0 ∨ ∃ M : Nat → Nat → Int, (∀ i j, i < n → j < n → sgc (M i j) = c i j) ∧ det n M = 0 := by
    intro k
    induction k with
    | zero => intro _; exact .inl n0
    | succ k ih =>
      intro hk
      rcases ih (by omega) with h | h
      · rcases Int.lt_trichotomy (det n (N (k + 1))) 0 with z | z | z
        · exact .inl z
        · exact .inr ⟨N (k + 1), sN (k + 1), z⟩
        · refine .inr ⟨fun i j => if i = k then det n (N (k + 1)) * N k k j + (-(det n (N k))) * N (k + 1) k j else N k i j, fun i j hi hj => ?_, ?_⟩
          · show sgc (if i = k then _ else _) = c i j
            by_cases e : i = k
            · rw [if_pos e]
              have s1 := sN k k j (by omega) hj
              have s2 := sN (k + 1) k j (by omega) hj
              rw [e]
              rw [← s1] at s2
              rw [← s1]
              generalize N k k j = x at s2
              generalize N (k + 1) k j = y at s2
              generalize det n (N (k + 1)) = a at z
              generalize det n (N k) = b at h
              exact sgc_comb z (by omega) s2
            · rw [if_neg e]; exact sN k i j hi hj
          · rw [det_lin (k := k) (A := N k) (B := N (k + 1)) (α := det n (N (k + 1))) (β := -(det n (N k))) hn (by omega) (fun i j e => ⟨?_, ?_⟩) (fun j => ?_)]
            · grind
            · show (if i < k then _ else _) = (if i < k + 1 then _ else _)
              by_cases e2 : i < k
              · rw [if_pos e2, if_pos (by omega)]
              · rw [if_neg e2, if_neg (by omega)]
            · show (if i = k then _ else _) = _
              rw [if_neg e]
            · show (if k = k then _ else _) = _
              rw [if_pos rfl]
      · exact .inr h
  rcases step n (Nat.le_refl _) with h | h
  · omega
  · exact h
end SG
namespace SG
def abv (l : List Int) : Nat := (l.filter fun x => decide (0 < x)).length
def blw (l : List Int) : Nat := (l.filter fun x => decide (x < 0)).length
def denOf (v : Int) (a b : Nat) : Int := if v > 0 then (a : Int) else if v < 0 then (b : Int) else 1
def depE (t : List (List Nat)) (ch : List Nat) (m i j : Nat) : Pr := (val (sgAt t i j), denOf (cv t ch j i) (abv (colV t ch m j)) (blw (colV t ch m j)))
def depM (t : List (List Nat)) (ch : List Nat) (m w : Nat) : List (List Pr) := (List.range m).map fun i => (List.range w).map fun j => depE t ch m i j
theorem colV_len {t : List (List Nat)} {ch : List Nat} {m j : Nat} : (colV t ch m j).length = m := by simp [colV]
theorem abv_le (l : List Int) : abv l ≤ l.length := List.length_filter_le _ _
theorem blw_le (l : List Int) : blw l ≤ l.length := List.length_filter_le _ _
theorem abv_pos {l : List Int} {x : Int} (h : x ∈ l) (hx : 0 < x) : 1 ≤ abv l := List.length_pos_of_mem (List.mem_filter.mpr ⟨h, decide_eq_true hx⟩)
theorem blw_pos {l : List Int} {x : Int} (h : x ∈ l) (hx : x < 0) : 1 ≤ blw l := List.length_pos_of_mem (List.mem_filter.mpr ⟨h, decide_eq_true hx⟩)
theorem cv_mem {t : List (List Nat)} {ch : List Nat} {m i j : Nat} (hi : i < m) : cv t ch j i ∈ colV t ch m j := List.mem_map.mpr ⟨i, List.mem_range.mpr hi, rfl⟩
theorem depE_ok {t : List (List Nat)} {ch : List Nat} {m i j : Nat} (hm : m ≤ 4) (hi : i < m) : 1 ≤ (depE t ch m i j).2 ∧ (depE t ch m i j).2 ≤ 4 ∧ (val (sgAt t i j) = 0 → (depE t ch m i j).2 = 1) := by
  have h1 := abv_le (colV t ch m j)
  have h2 := blw_le (colV t ch m j)
  rw [colV_len] at h1 h2
  have hmem := cv_mem (t := t) (ch := ch) (j := j) hi
  unfold depE denOf
  simp only
  refine ⟨?_, ?_, fun z => ?_⟩
  · split
    · rename_i h; have := abv_pos hmem h; omega
    · split
      · rename_i h; have := blw_pos hmem h; omega
      · omega
  · split
    · omega
    · split <;> omega
  · have : cv t ch j i = 0 := by unfold cv; rw [z, Int.zero_mul]
    rw [this]; rfl
theorem depE_nice {t : List (List Nat)} {ch : List Nat} {m i j : Nat} (hm : m ≤ 4) (hi : i < m) : Nice (depE t ch m i j) := by
  obtain ⟨h1, h2, h3⟩ := depE_ok (t := t) (ch := ch) (j := j) hm hi
  have hv := val_vals (sgAt t i j)
  refine ⟨h1, h2, ?_, ?_, ?_⟩
  · show -100 ≤ val (sgAt t i j); omega
  · show val (sgAt t i j) ≤ 100; omega
  · show Nat.gcd (val (sgAt t i j)).natAbs _ = 1
    rcases hv with z | z | z
    · rw [z]; exact Nat.gcd_one_left _
    · rw [z]; exact Nat.gcd_one_left _
    · rw [h3 z, z]; rfl
theorem depM_mat {t : List (List Nat)} {ch : List Nat} {m w : Nat} (hm : m ≤ 4) : MatN (depM t ch m w) m w := by
  refine ⟨by simp [depM], fun r hr => ?_⟩
  obtain ⟨i, hi, rfl⟩ := List.mem_map.mp hr
  refine ⟨by simp, fun p hp => ?_⟩
  obtain ⟨j, _, rfl⟩ := List.mem_map.mp hp
  exact depE_nice hm (List.mem_range.mp hi)
theorem rowsSg_of : ∀ {mb : List (List Pr)} {t : List (List Nat)}, (∀ i, i < mb.length → i < t.length → (mb.getD i []).map (fun p => sgc p.1) = t.getD i []) → rowsSg mb t = true
  | [], _, _ => by cases ‹List (List Nat)› <;> rfl
  | _ :: _, [], _ => rfl
  | r :: mb, s :: t, h => by
    have h0 := h 0 (by simp) (by simp)
    simp only [List.getD_cons_zero] at h0
    have ih := rowsSg_of (mb := mb) (t := t) fun i h1 h2 => by simpa using h (i + 1) (by simpa using h1) (by simpa using h2)
    simp only [rowsSg, h0, ih, decide_true, Bool.and_self]
theorem sgc_val' {c : Nat} (h : Sg c) : sgc (val c) = c := by rcases h with h | h | h <;> subst h <;> rfl
theorem depM_sg {t : List (List Nat)} {ch : List Nat} {m w : Nat} (T : Tab t m w) (hw : w ≤ 4) : rowsSg (depM t ch m w) t = true := by
  refine rowsSg_of fun i h1 h2 => ?_
  have hi : i < m := by rw [← T.len]; exact h2
  obtain ⟨_, hl, hs⟩ := tab_at T hi (show w < 1000 by omega)
  have e : (depM t ch m w).getD i [] = (List.range w).map fun j => depE t ch m i j := by simp [depM, List.getD, hi]
  rw [e, List.map_map]
  apply List.ext_getElem?
  intro j
  rw [List.getElem?_map]
  by_cases hj : j < w
  · rw [List.getElem?_range hj, get?_getD (x := 48) (by omega)]
    simp only [Option.map_some, Function.comp]
    congr 1
    exact sgc_val' (hs j hj).2
  · rw [List.getElem?_eq_none (by simp; omega), List.getElem?_eq_none (by omega)]; rfl
def dsum (U : Int) (mb : List (List Pr)) (ch : List Nat) (m j : Nat) : Int := ((List.range m).map fun i => ((mb.getD i []).getD j (0, 1)).1 * (U.fdiv ((mb.getD i []).getD j (0, 1)).2) * val (ch.getD i 48)).sum
theorem sum_count (A B : Int) : ∀ l : List Int, (∀ x ∈ l, x = 1 ∨ x = -1 ∨ x = 0) → (l.map fun v => if v > 0 then A else if v < 0 then -B else 0).sum = (abv l : Int) * A - (blw l : Int) * B
  | [], _ => by simp [abv, blw]
  | x :: l, h => by
    have ih := sum_count A B l fun y hy => h y (List.mem_cons_of_mem _ hy)
    rw [List.map_cons, List.sum_cons, ih]
    rcases h x List.mem_cons_self with z | z | z <;> subst z
    · have e1 : abv (1 :: l) = abv l + 1 := by simp [abv]
      have e2 : blw (1 :: l) = blw l := by simp [blw]
      rw [e1, e2, if_pos (by decide)]
      push_cast
      grind
    · have e1 : abv (-1 :: l) = abv l := by simp [abv]
      have e2 : blw (-1 :: l) = blw l + 1 := by simp [blw]
      rw [e1, e2, if_neg (by decide), if_pos (by decide)]
      push_cast
      grind
    · have e1 : abv (0 :: l) = abv l := by simp [abv]
      have e2 : blw (0 :: l) = blw l := by simp [blw]
      rw [e1, e2, if_neg (by decide), if_neg (by decide)]
      grind
theorem depM_at {t : List (List Nat)} {ch : List Nat} {m w i j : Nat} (hi : i < m) (hj : j < w) : ((depM t ch m w).getD i []).getD j (0, 1) = depE t ch m i j := by
  simp [depM, List.getD, hi, hj]
theorem dep_zero {t : List (List Nat)} {ch : List Nat} {m w j : Nat} {U : Int} (hm : m ≤ 4) (hj : j < w) (hb : Bal t m ch j) (hU : ∀ i, i < m → (depE t ch m i j).2 ∣ U) : dsum U (depM t ch m w) ch m j = 0 := by
  unfold dsum
  have e : ((List.range m).map fun i => (((depM t ch m w).getD i []).getD j (0, 1)).1 * (U.fdiv (((depM t ch m w).getD i []).getD j (0, 1)).2) * val (ch.getD i 48)) = (colV t ch m j).map fun v => if v > 0 then U.fdiv (abv (colV t ch m j)) else if v < 0 then -(U.fdiv (blw (colV t ch m j))) else 0 := by
    unfold colV
    rw [List.map_map]
    apply List.map_congr_left
    intro i hi
    have hi := List.mem_range.mp hi
    rw [depM_at hi hj]
    have ev : val (sgAt t i j) * (U.fdiv (depE t ch m i j).2) * val (ch.getD i 48) = cv t ch j i * U.fdiv (depE t ch m i j).2 := by unfold cv; grind
    show val (sgAt t i j) * (U.fdiv (depE t ch m i j).2) * val (ch.getD i 48) = _
    rw [ev]
    simp only [Function.comp]
    have hd : (depE t ch m i j).2 = denOf (cv t ch j i) (abv (colV t ch m j)) (blw (colV t ch m j)) := rfl
    rw [hd]
    have hcv := cv_vals t ch j i
    show _ = if cv t ch j i > 0 then U.fdiv (abv (colV t ch m j)) else if cv t ch j i < 0 then -(U.fdiv (blw (colV t ch m j))) else 0
    rcases hcv with z | z | z <;> rw [z]
    · simp [denOf]
    · simp [denOf]
    · simp [denOf]
  rw [e, sum_count _ _ _ (fun x hx => by
    obtain ⟨i, _, rfl⟩ := List.mem_map.mp hx
    exact cv_vals t ch j i)]
  have fd : ∀ (i : Nat), i < m → ∀ (a : Nat), (depE t ch m i j).2 = (a : Int) → (a : Int) * U.fdiv a = U := fun i hi a ha => by
    have h1 := hU i hi
    rw [ha] at h1
    exact Int.mul_fdiv_cancel' h1
  rcases hb with h | ⟨⟨i, hi, h1⟩, i', hi', h2⟩
  · have z : ∀ x ∈ colV t ch m j, x = 0 := fun x hx => by
      obtain ⟨i, hi, rfl⟩ := List.mem_map.mp hx
      exact h i (List.mem_range.mp hi)
    have a0 : abv (colV t ch m j) = 0 := by
      unfold abv
      rw [List.length_eq_zero_iff, List.filter_eq_nil_iff]
      intro x hx; rw [z x hx]; decide
    have b0 : blw (colV t ch m j) = 0 := by
      unfold blw
      rw [List.length_eq_zero_iff, List.filter_eq_nil_iff]
      intro x hx; rw [z x hx]; decide
    rw [a0, b0]; simp
  · rw [fd i hi (abv (colV t ch m j)) (by unfold depE denOf; rw [h1]; rfl), fd i' hi' (blw (colV t ch m j)) (by unfold depE denOf; rw [h2]; rfl)]
    omega
def prodDen (mb : List (List Pr)) (j : Nat) : Int := mb.foldl (fun u r => u * (r.getD j (0, 1)).2) 1
theorem prodDen_ok {j : Nat} : ∀ (mb : List (List Pr)) (u : Int), 1 ≤ u → (∀ r ∈ mb, 1 ≤ (r.getD j (0, 1)).2 ∧ (r.getD j (0, 1)).2 ≤ 4) → 1 ≤ mb.foldl (fun u r => u * (r.getD j (0, 1)).2) u ∧ u ∣ mb.foldl (fun u r => u * (r.getD j (0, 1)).2) u ∧ (∀ r ∈ mb, (r.getD j (0, 1)).2 ∣ mb.foldl (fun u r => u * (r.getD j (0, 1)).2) u) ∧ mb.foldl (fun u r => u * (r.getD j (0, 1)).2) u ≤ u * 4 ^ mb.length
  | [], u, hu, _ => ⟨hu, Int.dvd_refl _, by simp, by simp⟩
  | r :: mb, u, hu, h => by
    obtain ⟨h1, h2⟩ := h r List.mem_cons_self
    obtain ⟨i1, i2, i3, i4⟩ := prodDen_ok (j := j) mb (u * (r.getD j (0, 1)).2) (by
      have := Int.mul_le_mul hu h1 (by decide) (by omega)
      omega) fun q hq => h q (List.mem_cons_of_mem _ hq)
    rw [List.foldl_cons]
    refine ⟨i1, Int.dvd_trans (Int.dvd_mul_right _ _) i2, fun q hq => ?_, ?_⟩
    · rcases List.mem_cons.mp hq with z | z
      · subst z; exact Int.dvd_trans (Int.dvd_mul_left _ _) i2
      · exact i3 q z
    · refine Int.le_trans i4 ?_
      rw [List.length_cons, Int.pow_succ]
      have h4 : (0 : Int) ≤ 4 ^ mb.length := Int.pow_nonneg (by decide)
      have h5 : u * (r.getD j (0, 1)).2 ≤ u * 4 := Int.mul_le_mul_of_nonneg_left h2 (by omega)
      have h6 := Int.mul_le_mul_of_nonneg_right h5 h4
      have : u * 4 * 4 ^ mb.length = u * (4 ^ mb.length * 4) := by grind
      omega
end SG
namespace SG
theorem ints_map {γ : Type} (l : List γ) (f : γ → Int) : intsOf (l.map fun x => .int (f x)) = some (l.map f) := by
  induction l with
  | nil => rfl
  | cons x r ih => simp [intsOf, ih]
theorem x_sum {γ : Type} (l : List γ) (f : γ → Int) : opBi .sum [.lst (l.map fun x => .int (f x))] = some (.int (l.map f).sum) := by
  simp [opBi, biSum, ints_map]
def isSgB (c : Nat) : Bool := [43, 45, 48].contains c
theorem isSgB_iff {c : Nat} : isSgB c = true ↔ Sg c := by
  unfold isSgB Sg
  simp [List.contains_iff_mem]
theorem in_sgB {c : Nat} : opCmp .inn (.str [c]) (.str [43, 45, 48]) = some (isSgB c) := rfl
theorem rep_one (m c : Nat) : rep (m : Int) [c] = List.replicate m c := by
  unfold rep
  rw [Int.toNat_natCast]
  induction m with
  | zero => rfl
  | succ m ih => rw [List.replicate_succ, List.flatten_cons, ih]; rfl
theorem mul_str {m c : Nat} (h : m < 900) : opBin .mul (.str [c]) (.int (m : Nat)) = some (.str (List.replicate m c)) := by
  have h1 : (0 : Int) ≤ (m : Int) := by omega
  have h2 : (m : Int) ≤ 1000 := by omega
  have h3 : [c].length ≤ 1000 := by simp
  simp only [opBin, h1, h2, h3, decide_true, Bool.and_self, if_true, rep_one]
def okCh (m : Nat) (ch : List Nat) : Bool := (decide (ch.length = m) && ch.all isSgB) && !decide (ch = List.replicate m 48)
end SG
namespace SG
def onLs {α : Type} (x : D) (f : List D → α) (e : α) : α := match x with | .lst xs => f xs | _ => e
@[simp] theorem onLs_lst {α : Type} {xs : List D} {f : List D → α} {e : α} : onLs (.lst xs) f e = f xs := id rfl
theorem e_ssort {cf : CF} {x : E} {env : Env} {d : Dice} : ev cf (.ssort x) env d = (ev cf x env d).bind fun x d => onLs x (fun xs => .of (ssortO xs) d) .bad := by simp only [ev]; rfl
theorem ssort_map {γ : Type} {l : List γ} {f : γ → Int} (h : l.length ≤ 60) : ssortO (l.map fun x => .int (f x)) = some (.lst ((sset (l.map f)).map .int)) := by
  unfold ssortO
  rw [ints_map]
  show (if (l.map f).length ≤ 60 then _ else _) = _
  rw [if_pos (by rw [List.length_map]; exact h)]
def tsg (n : Nat) (c : Nat → Nat → Nat) : List Int := (terms n c).map (·.2)
theorem mem_tsg {n : Nat} {c : Nat → Nat → Nat} {x : Int} : x ∈ tsg n c ↔ x ≠ 0 ∧ ∃ p ∈ ords n, tau c p = x := by
  unfold tsg
  rw [List.mem_map]
  constructor
  · rintro ⟨y, hy, rfl⟩
    obtain ⟨p, hp, e, hne⟩ := mem_terms.mp hy
    subst e
    exact ⟨hne, p, hp, rfl⟩
  · rintro ⟨hne, p, hp, rfl⟩
    exact ⟨(p.1, tau c p), mem_terms.mpr ⟨p, hp, rfl, hne⟩, rfl⟩
theorem tsg_vals {n : Nat} (hn : n ≤ 4) {c : Nat → Nat → Nat} {x : Int} (h : x ∈ tsg n c) : x = 1 ∨ x = -1 := by
  obtain ⟨hne, p, hp, rfl⟩ := mem_tsg.mp h
  rcases tau_vals hn c hp with z | z | z
  · exact .inl z
  · exact .inr z
  · exact absurd z hne
theorem terms_len {n : Nat} (hn : n ≤ 4) (c : Nat → Nat → Nat) : (terms n c).length ≤ 24 := by
  unfold terms prods
  refine Nat.le_trans (List.length_filter_le _ _) ?_
  rw [List.length_map]; exact ords_len' hn
theorem sset_len {l : List Int} (h : ∀ x ∈ l, x = 1 ∨ x = -1) : (sset l).length ≤ 2 := by
  have h1 := sset_lt l
  have h2 : ∀ x ∈ sset l, x = 1 ∨ x = -1 := fun x hx => h x (sset_mem.mp hx)
  generalize sset l = s at h1 h2
  match s, h1, h2 with
  | [], _, _ => simp
  | [_], _, _ => simp
  | [_, _], _, _ => simp
  | a :: b :: c :: r, h1, h2 =>
    exfalso
    have q1 := (List.pairwise_cons.mp h1).1 b (by simp)
    have q2 := (List.pairwise_cons.mp (List.pairwise_cons.mp h1).2).1 c (by simp)
    have p1 := h2 a (by simp)
    have p2 := h2 b (by simp)
    have p3 := h2 c (by simp)
    omega
theorem sset_one {l : List Int} : (sset l).length = 1 ↔ ∃ s, s ∈ l ∧ ∀ x ∈ l, x = s := by
  have h1 := sset_lt l
  constructor
  · intro h
    obtain ⟨s, e⟩ := List.length_eq_one_iff.mp h
    refine ⟨s, sset_mem.mp (by rw [e]; exact List.mem_cons_self), fun x hx => ?_⟩
    have := sset_mem.mpr hx
    rw [e, List.mem_singleton] at this
    exact this
  · rintro ⟨s, hs, ha⟩
    have hs' := sset_mem.mpr hs
    have ha' : ∀ x ∈ sset l, x = s := fun x hx => ha x (sset_mem.mp hx)
    generalize sset l = q at h1 hs' ha'
    match q, h1, hs', ha' with
    | [], _, hs', _ => cases hs'
    | [_], _, _, _ => rfl
    | a :: b :: r, h1, _, ha' =>
      exfalso
      have q1 := (List.pairwise_cons.mp h1).1 b (by simp)
      have p1 := ha' a (by simp)
      have p2 := ha' b (by simp)
      omega
theorem alw_sset {n : Nat} (hn : n ≤ 4) {c : Nat → Nat → Nat} : (sset (tsg n c)).length = 1 ↔ Alw n c := by
  rw [sset_one]
  constructor
  · rintro ⟨s, hs, ha⟩
    obtain ⟨hne, p, hp, e⟩ := mem_tsg.mp hs
    refine ⟨s, tsg_vals hn hs, ⟨p, hp, e⟩, fun q hq => ?_⟩
    by_cases h0 : tau c q = 0
    · exact .inl h0
    · exact .inr (ha _ (mem_tsg.mpr ⟨h0, q, hq, rfl⟩))
  · rintro ⟨s, hs, ⟨p, hp, e⟩, h2⟩
    refine ⟨s, mem_tsg.mpr ⟨by rcases hs with z | z <;> rw [z] <;> decide, p, hp, e⟩, fun x hx => ?_⟩
    obtain ⟨hne, q, hq, rfl⟩ := mem_tsg.mp hx
    exact (h2 q hq).resolve_left hne
def sNever : List Nat := [110, 101, 118, 101, 114]
def sAlways : List Nat := [97, 108, 119, 97, 121, 115]
def sSometimes : List Nat := [115, 111, 109, 101, 116, 105, 109, 101, 115]
def kindS (n : Nat) (c : Nat → Nat → Nat) : List Nat := if (sset (tsg n c)).length = 0 then sNever else if (sset (tsg n c)).length = 1 then sAlways else sSometimes
theorem kindS_alw {n : Nat} (hn : n ≤ 4) {c : Nat → Nat → Nat} : kindS n c = sAlways ↔ Alw n c := by
  rw [← alw_sset hn]
  unfold kindS
  constructor
  · intro h
    split at h
    · exact absurd h (by decide)
    · split at h
      · assumption
      · exact absurd h (by decide)
  · intro h
    rw [if_neg (by omega), if_pos h]
end SG
namespace SG
def ex : Nat → List Nat → List (List Nat)
  | 0, _ => [[]]
  | f + 1, l => if l = [] then [[]] else l.flatMap fun one => (ex f (l.filter fun o => decide (o ≠ one))).map (one :: ·)
def sgnStep (o : List Nat) (s : Int) (p : Nat) : Int := if ((o.take p).filter fun x => decide (o.getD p 0 < x)).length % 2 = 0 then s else -s
def oSgn (o : List Nat) : Int := (List.range o.length).foldl (sgnStep o) 1
theorem ex_chk : (List.range 5).all (fun n => (ex n (List.range n) == (ords n).map (·.1)) && (ords n).all fun p => oSgn p.1 == p.2) = true := by decide +kernel
theorem ex_ords {n : Nat} (hn : n ≤ 4) : ex n (List.range n) = (ords n).map (·.1) := by
  have := List.all_eq_true.mp ex_chk n (List.mem_range.mpr (by omega))
  rw [Bool.and_eq_true] at this
  exact beq_iff_eq.mp this.1
theorem oSgn_ords {n : Nat} (hn : n ≤ 4) {p : List Nat × Int} (hp : p ∈ ords n) : oSgn p.1 = p.2 := by
  have := List.all_eq_true.mp ex_chk n (List.mem_range.mpr (by omega))
  rw [Bool.and_eq_true] at this
  exact beq_iff_eq.mp (List.all_eq_true.mp this.2 p hp)
theorem filter_lt {l : List Nat} {x : Nat} (h : x ∈ l) : (l.filter fun o => decide (o ≠ x)).length < l.length := by
  induction l with
  | nil => cases h
  | cons y r ih =>
    rw [List.filter_cons]
    by_cases e : y = x
    · subst e
      have := List.length_filter_le (fun o => decide (o ≠ y)) r
      simp
      have : (r.filter fun o => !decide (o = y)).length ≤ r.length := List.length_filter_le _ _
      omega
    · have hm : x ∈ r := by rcases List.mem_cons.mp h with z | z; exact absurd z.symm e; exact z
      have := ih hm
      simp [e]
      simpa using this
theorem flatMap_le {α β : Type} {f : α → List β} {c : Nat} : ∀ (l : List α), (∀ x ∈ l, (f x).length ≤ c) → (l.flatMap f).length ≤ l.length * c
  | [], _ => by simp
  | x :: r, h => by
    rw [List.flatMap_cons, List.length_append, List.length_cons, Nat.succ_mul]
    have := h x List.mem_cons_self
    have := flatMap_le r fun y hy => h y (List.mem_cons_of_mem _ hy)
    omega
theorem ex_len : ∀ (f : Nat) (l : List Nat), l.length ≤ 4 → f ≤ 4 → (ex f l).length ≤ 4 ^ f
  | 0, l, _, _ => by simp [ex]
  | f + 1, l, h, hf => by
    unfold ex
    split
    · have := Nat.pow_pos (n := f + 1) (show 0 < 4 by decide); simp; omega
    · refine Nat.le_trans (flatMap_le (c := 4 ^ f) l fun x hx => ?_) ?_
      · rw [List.length_map]
        exact ex_len f _ (Nat.le_of_lt (Nat.lt_of_lt_of_le (filter_lt hx) h)) (by omega)
      · rw [Nat.pow_succ, Nat.mul_comm]; exact Nat.mul_le_mul_left _ h
theorem ex_mem_len : ∀ (f : Nat) (l o : List Nat), l.length ≤ f → o ∈ ex f l → o.length ≤ l.length
  | 0, l, o, h, ho => by simp [ex] at ho; subst ho; simp
  | f + 1, l, o, h, ho => by
    unfold ex at ho
    split at ho
    · simp at ho; subst ho; simp
    · obtain ⟨x, hx, h2⟩ := List.mem_flatMap.mp ho
      obtain ⟨q, hq, rfl⟩ := List.mem_map.mp h2
      have h3 := filter_lt hx
      have := ex_mem_len f _ q (by omega) hq
      simp; omega
end SG
namespace SG
def cyP (c : Nat → Nat → Nat) (w : List Nat) : Int := w.zipIdx.foldl (fun s q => s * val (c q.1 (w.getD ((q.2 + 1) % w.length) 0))) 1
def pathP (c : Nat → Nat → Nat) : List Nat → Int
  | a :: b :: r => val (c a b) * pathP c (b :: r)
  | _ => 1
def lastN (w : List Nat) : Nat := w.getLastD 0
theorem pathP_snoc (c : Nat → Nat → Nat) (j : Nat) : ∀ (w : List Nat), w ≠ [] → pathP c (w ++ [j]) = pathP c w * val (c (lastN w) j)
  | [], h => absurd rfl h
  | [a], _ => by simp [pathP, lastN]
  | a :: b :: r, _ => by
    have ih := pathP_snoc c j (b :: r) (by simp)
    have e1 : pathP c (a :: b :: r ++ [j]) = val (c a b) * pathP c (b :: r ++ [j]) := rfl
    have e2 : pathP c (a :: b :: r) = val (c a b) * pathP c (b :: r) := rfl
    have e3 : lastN (a :: b :: r) = lastN (b :: r) := rfl
    rw [e1, e2, ih, e3, Int.mul_assoc]
theorem cyP_L {c : Nat → Nat → Nat} {w : List Nat} (h1 : 1 ≤ w.length) (h2 : w.length ≤ 4) : cyP c w = pathP c w * val (c (lastN w) (w.getD 0 0)) := by
  match w, h1, h2 with
  | [a], _, _ => simp [cyP, pathP, lastN, List.zipIdx]
  | [a, b], _, _ => simp [cyP, pathP, lastN, List.zipIdx]
  | [a, b, x], _, _ => simp [cyP, pathP, lastN, List.zipIdx]
  | [a, b, x, y], _, _ => simp [cyP, pathP, lastN, List.zipIdx]; grind
def preI (n s : Nat) : List (List Int) := (ords n).map fun p => (p.1.take s).map fun i : Nat => (i : Int)
def wy (n s : Nat) : List (List Nat) := (ssetT (preI n s)).map fun k => k.map Int.toNat
def minL : List Nat → Nat
  | [] => 0
  | x :: r => r.foldl (fun a y => if y < a then y else a) x
def wys (n s : Nat) : List (List Nat) := (wy n s).filter fun w => decide (w.getD 0 0 = minL w)
def cand (n : Nat) : List (List Nat) := (List.range' 2 (n - 1)).flatMap (wys n)
def uStep (n i : Nat) (l : List (List Nat)) : List (List Nat) := l.flatMap fun w => ((List.range' (i + 1) (n - (i + 1))).filter fun j => !w.contains j).map fun j => w ++ [j]
def uAll (n i : Nat) : Nat → List (List Nat) → List (List Nat)
  | 0, _ => []
  | k + 1, l => uStep n i l ++ uAll n i k (uStep n i l)
def uEnd (n i : Nat) : Nat → List (List Nat) → List (List Nat)
  | 0, l => l
  | k + 1, l => uEnd n i k (uStep n i l)
def lcand (n : Nat) : List (List Nat) := (List.range n).flatMap fun i => uAll n i n [[i]]
def sgOf (b : Bool) : Nat := if b then 43 else 45
def gD (w : List Nat) (b : Bool) : D := .tup [.int (w.length : Nat), nD w, .str [sgOf b]]
def keyC (n : Nat) (w : List Nat) : Nat := (cand n).findIdx fun x => x == w
theorem chk_ways : (List.range 5).all (fun n => (List.range' 2 (n - 1)).all fun s => tOk (preI n s) && decide ((wy n s).map (fun w => w.map fun i : Nat => (i : Int)) = ssetT (preI n s)) && (wy n s).all fun w => decide (w.length = s) && w.all fun i => decide (i < n)) = true := by decide +kernel
theorem chk_perm : (List.range 5).all (fun n => (lcand n).isPerm (cand n) && (List.range n).all (fun i => (uEnd n i n [[i]]).isEmpty)) = true := by decide +kernel
theorem chk_cand : (List.range 5).all (fun n => decide ((cand n).length ≤ 20) && (cand n).all (fun w => decide (2 ≤ w.length) && decide (w.length ≤ 4) && w.all fun i => decide (i < n)) && decide ((cand n).Pairwise fun a b => keyC n a < keyC n b)) = true := by decide +kernel
theorem chk_lt : (List.range 5).all (fun n => (cand n).all fun a => (cand n).all fun b => [true, false].all fun s => [true, false].all fun u => D.ordB (gD a s) (gD b u) && (D.lt (gD b u) (gD a s) == decide (keyC n b < keyC n a) || (a == b && s != u))) = true := by decide +kernel
section
variable {n : Nat} (hn : n ≤ 4)
include hn
theorem ways_ok {s : Nat} (hs : 2 ≤ s ∧ s ≤ n) : tOk (preI n s) = true ∧ (wy n s).map (fun w => w.map fun i : Nat => (i : Int)) = ssetT (preI n s) ∧ ∀ w ∈ wy n s, w.length = s ∧ ∀ i ∈ w, i < n := by
  have h := List.all_eq_true.mp (List.all_eq_true.mp chk_ways n (List.mem_range.mpr (by omega))) s (by rw [List.mem_range'_1]; omega)
  simp only [Bool.and_eq_true, decide_eq_true_eq, List.all_eq_true] at h
  exact ⟨h.1.1, h.1.2, fun w hw => h.2 w hw⟩
theorem perm_ok : (lcand n).Perm (cand n) ∧ ∀ i, i < n → uEnd n i n [[i]] = [] := by
  have h := List.all_eq_true.mp chk_perm n (List.mem_range.mpr (by omega))
  simp only [Bool.and_eq_true, List.all_eq_true, List.isEmpty_iff] at h
  exact ⟨List.isPerm_iff.mp h.1, fun i hi => h.2 i (List.mem_range.mpr hi)⟩
theorem cand_ok : (cand n).length ≤ 20 ∧ (∀ w ∈ cand n, 2 ≤ w.length ∧ w.length ≤ 4 ∧ ∀ i ∈ w, i < n) ∧ (cand n).Pairwise fun a b => keyC n a < keyC n b := by
  have h := List.all_eq_true.mp chk_cand n (List.mem_range.mpr (by omega))
  simp only [Bool.and_eq_true, decide_eq_true_eq, List.all_eq_true] at h
  exact ⟨h.1.1, fun w hw => ⟨(h.1.2 w hw).1.1, (h.1.2 w hw).1.2, (h.1.2 w hw).2⟩, h.2⟩
theorem lt_ok {a b : List Nat} (ha : a ∈ cand n) (hb : b ∈ cand n) (s u : Bool) : D.ordB (gD a s) (gD b u) = true ∧ (a ≠ b ∨ s = u → D.lt (gD b u) (gD a s) = decide (keyC n b < keyC n a)) := by
  have hbool : ∀ x : Bool, x ∈ [true, false] := by decide
  have h := List.all_eq_true.mp (List.all_eq_true.mp (List.all_eq_true.mp (List.all_eq_true.mp (List.all_eq_true.mp chk_lt n (List.mem_range.mpr (by omega))) a ha) b hb) s (hbool s)) u (hbool u)
  simp only [Bool.and_eq_true, Bool.or_eq_true] at h
  refine ⟨h.1, fun hne => ?_⟩
  rcases h.2 with z | ⟨z1, z2⟩
  · exact beq_iff_eq.mp z
  · rcases hne with q | q
    · exact absurd (beq_iff_eq.mp z1) q
    · subst q; simp at z2
end
def pStep (c : Nat → Nat → Nat) (n i : Nat) (ws : List (List Nat × Int)) : List (List Nat × Int) := ws.flatMap fun p => ((List.range' (i + 1) (n - (i + 1))).filter fun j => !p.1.contains j && decide (c (lastN p.1) j ≠ 48)).map fun j => (p.1 ++ [j], p.2 * val (c (lastN p.1) j))
def clo (c : Nat → Nat → Nat) (i : Nat) (ws : List (List Nat × Int)) : List (List Nat × Int) := (ws.map fun p => (p.1, p.2 * val (c (lastN p.1) i))).filter fun p => decide (p.2 ≠ 0)
def rAll (c : Nat → Nat → Nat) (n i : Nat) : Nat → List (List Nat × Int) → List (List Nat × Int)
  | 0, _ => []
  | k + 1, ws => clo c i (pStep c n i ws) ++ rAll c n i k (pStep c n i ws)
def pEnd (c : Nat → Nat → Nat) (n i : Nat) : Nat → List (List Nat × Int) → List (List Nat × Int)
  | 0, ws => ws
  | k + 1, ws => pEnd c n i k (pStep c n i ws)
def pl (c : Nat → Nat → Nat) (l : List (List Nat)) : List (List Nat × Int) := (l.filter fun w => decide (pathP c w ≠ 0)).map fun w => (w, pathP c w)
def sel (c : Nat → Nat → Nat) (l : List (List Nat)) : List (List Nat × Int) := (l.filter fun w => decide (cyP c w ≠ 0)).map fun w => (w, cyP c w)
theorem val0 {c : Nat} (h : Sg c) : val c = 0 ↔ c = 48 := by rcases h with z | z | z <;> subst z <;> decide
def SgF (n : Nat) (c : Nat → Nat → Nat) : Prop := ∀ i j, i < n → j < n → Sg (c i j)
def Wok (n i : Nat) (w : List Nat) : Prop := w ≠ [] ∧ w.getD 0 0 = i ∧ (∀ x ∈ w, x < n)
theorem lastN_mem {w : List Nat} (h : w ≠ []) : lastN w ∈ w := by
  unfold lastN
  rw [List.getLastD_eq_getLast?, List.getLast?_eq_some_getLast h]
  exact List.getLast_mem h
theorem wok_snoc {n i j : Nat} {w : List Nat} (h : Wok n i w) (hj : j < n) : Wok n i (w ++ [j]) := by
  obtain ⟨h1, h2, h3⟩ := h
  refine ⟨by simp, ?_, fun x hx => ?_⟩
  · cases w with
    | nil => exact absurd rfl h1
    | cons a r => simpa using h2
  · rcases List.mem_append.mp hx with z | z
    · exact h3 x z
    · rw [List.mem_singleton.mp z]; exact hj
theorem uStep_ok {n i : Nat} {l : List (List Nat)} (h : ∀ w ∈ l, Wok n i w) : ∀ w ∈ uStep n i l, Wok n i w := fun w hw => by
  obtain ⟨w0, h0, hw⟩ := List.mem_flatMap.mp hw
  obtain ⟨j, hj, rfl⟩ := List.mem_map.mp hw
  have := (List.mem_filter.mp hj).1
  rw [List.mem_range'_1] at this
  exact wok_snoc (h w0 h0) (by omega)
theorem pl_app (c : Nat → Nat → Nat) (a b : List (List Nat)) : pl c (a ++ b) = pl c a ++ pl c b := by unfold pl; rw [List.filter_append, List.map_append]
theorem pl_ext {c : Nat → Nat → Nat} {n : Nat} (hc : SgF n c) {w : List Nat} (w1 : w ≠ []) (hlast : lastN w < n) (h0 : pathP c w ≠ 0) : ∀ R : List Nat, (∀ j ∈ R, j < n) → (R.filter fun j => !w.contains j && decide (c (lastN w) j ≠ 48)).map (fun j => (w ++ [j], pathP c w * val (c (lastN w) j))) = pl c ((R.filter fun j => !w.contains j).map fun j => w ++ [j])
  | [], _ => rfl
  | j :: R, hr => by
    have ih := pl_ext hc w1 hlast h0 R fun x hx => hr x (List.mem_cons_of_mem _ hx)
    have hv := val0 (hc _ _ hlast (hr j List.mem_cons_self))
    cases hw : w.contains j with
    | true => simp only [List.filter_cons, hw, Bool.not_true, Bool.false_and, Bool.false_eq_true, if_false]; exact ih
    | false =>
      have e6 : pl c (((j :: R).filter fun j => !w.contains j).map fun j => w ++ [j]) = pl c [w ++ [j]] ++ pl c ((R.filter fun j => !w.contains j).map fun j => w ++ [j]) := by
        rw [← pl_app]; simp only [List.filter_cons, hw, Bool.not_false, if_true]; rfl
      rw [e6, ← ih]
      by_cases hz : c (lastN w) j = 48
      · have : pl c [w ++ [j]] = [] := by simp [pl, pathP_snoc c j w w1, hv.mpr hz]
        rw [this]
        simp only [List.filter_cons, hw, hz, Bool.not_false, ne_eq, not_true_eq_false, decide_false, Bool.and_false, Bool.false_eq_true, if_false]
        rfl
      · have hne : pathP c w * val (c (lastN w) j) ≠ 0 := fun z => by
          rcases Int.mul_eq_zero.mp z with q | q
          · exact h0 q
          · exact hz (hv.mp q)
        have : pl c [w ++ [j]] = [(w ++ [j], pathP c w * val (c (lastN w) j))] := by simp [pl, pathP_snoc c j w w1, hne]
        rw [this]
        simp only [List.filter_cons, hw, hz, Bool.not_false, ne_eq, not_false_eq_true, decide_true, Bool.and_true, if_true]
        rfl
theorem pl_step {c : Nat → Nat → Nat} {n i : Nat} (hc : SgF n c) : ∀ {l : List (List Nat)}, (∀ w ∈ l, Wok n i w) → pStep c n i (pl c l) = pl c (uStep n i l)
  | [], _ => rfl
  | w :: l, h => by
    have ih := pl_step hc (l := l) fun x hx => h x (List.mem_cons_of_mem _ hx)
    obtain ⟨w1, w2, w3⟩ := h w List.mem_cons_self
    have hlast := w3 _ (lastN_mem w1)
    have e1 : uStep n i (w :: l) = ((List.range' (i + 1) (n - (i + 1))).filter fun j => !w.contains j).map (fun j => w ++ [j]) ++ uStep n i l := rfl
    have e3 : pl c (w :: l) = pl c [w] ++ pl c l := pl_app c [w] l
    have e4 : pStep c n i (pl c [w] ++ pl c l) = pStep c n i (pl c [w]) ++ pStep c n i (pl c l) := by unfold pStep; rw [List.flatMap_append]
    rw [e1, pl_app, e3, e4, ih]
    congr 1
    have hr : ∀ j ∈ List.range' (i + 1) (n - (i + 1)), j < n := fun j hj => by rw [List.mem_range'_1] at hj; omega
    by_cases h0 : pathP c w = 0
    · have a1 : pl c [w] = [] := by simp [pl, h0]
      have a2 : pl c (((List.range' (i + 1) (n - (i + 1))).filter fun j => !w.contains j).map fun j => w ++ [j]) = [] := by
        unfold pl
        rw [List.map_eq_nil_iff, List.filter_eq_nil_iff]
        intro x hx
        obtain ⟨j, _, rfl⟩ := List.mem_map.mp hx
        rw [pathP_snoc c j w w1, h0]; simp
      rw [a1, a2]; rfl
    · have a1 : pl c [w] = [(w, pathP c w)] := by simp [pl, h0]
      rw [a1, ← pl_ext hc w1 hlast h0 _ hr]
      simp [pStep]
theorem clo_pl {c : Nat → Nat → Nat} {n i : Nat} {l : List (List Nat)} (h : ∀ w ∈ l, Wok n i w) (hl : ∀ w ∈ l, w.length ≤ 4) : clo c i (pl c l) = sel c l := by
  induction l with
  | nil => rfl
  | cons w l ih =>
    have ih := ih (fun x hx => h x (List.mem_cons_of_mem _ hx)) fun x hx => hl x (List.mem_cons_of_mem _ hx)
    obtain ⟨w1, w2, w3⟩ := h w List.mem_cons_self
    have e3 : pl c (w :: l) = pl c [w] ++ pl c l := pl_app c [w] l
    have e4 : ∀ a b, clo c i (a ++ b) = clo c i a ++ clo c i b := fun a b => by unfold clo; rw [List.map_append, List.filter_append]
    have e5 : sel c (w :: l) = sel c [w] ++ sel c l := by
      unfold sel
      rw [show w :: l = [w] ++ l from rfl, List.filter_append, List.map_append]
    rw [e3, e4, ih, e5]
    congr 1
    have hcy := cyP_L (c := c) (w := w) (by cases w with | nil => exact absurd rfl w1 | cons a r => simp) (hl w List.mem_cons_self)
    rw [w2] at hcy
    by_cases h0 : pathP c w = 0
    · rw [h0, Int.zero_mul] at hcy
      simp [pl, clo, sel, h0, hcy]
    · by_cases h1 : cyP c w = 0
      · have h1' : pathP c w * val (c (lastN w) i) = 0 := by rw [← hcy]; exact h1
        have a1 : pl c [w] = [(w, pathP c w)] := by simp [pl, h0]
        have a2 : sel c [w] = [] := by simp [sel, h1]
        rw [a1, a2]
        simp only [clo, List.map_cons, List.map_nil, h1']
        rfl
      · have h1' : pathP c w * val (c (lastN w) i) ≠ 0 := by rw [← hcy]; exact h1
        have a1 : pl c [w] = [(w, pathP c w)] := by simp [pl, h0]
        have a2 : sel c [w] = [(w, cyP c w)] := by simp [sel, h1]
        rw [a1, a2, hcy]
        simp only [clo, List.map_cons, List.map_nil, List.filter_cons, decide_eq_true h1', if_true, List.filter_nil]
theorem sel_app (c : Nat → Nat → Nat) (a b : List (List Nat)) : sel c (a ++ b) = sel c a ++ sel c b := by unfold sel; rw [List.filter_append, List.map_append]
theorem rAll_sel {c : Nat → Nat → Nat} {n i : Nat} (hc : SgF n c) : ∀ (k : Nat) {l : List (List Nat)}, (∀ w ∈ l, Wok n i w) → (∀ w ∈ uAll n i k l, w.length ≤ 4) → rAll c n i k (pl c l) = sel c (uAll n i k l)
  | 0, _, _, _ => rfl
  | k + 1, l, h, hl => by
    have h' := uStep_ok h
    have e1 : rAll c n i (k + 1) (pl c l) = clo c i (pStep c n i (pl c l)) ++ rAll c n i k (pStep c n i (pl c l)) := rfl
    have e2 : uAll n i (k + 1) l = uStep n i l ++ uAll n i k (uStep n i l) := rfl
    rw [e2] at hl
    rw [e1, e2, pl_step hc h, clo_pl h' fun w hw => hl w (List.mem_append_left _ hw), rAll_sel hc k h' fun w hw => hl w (List.mem_append_right _ hw), sel_app]
theorem pEnd_pl {c : Nat → Nat → Nat} {n i : Nat} (hc : SgF n c) : ∀ (k : Nat) {l : List (List Nat)}, (∀ w ∈ l, Wok n i w) → pEnd c n i k (pl c l) = pl c (uEnd n i k l)
  | 0, _, _ => rfl
  | k + 1, l, h => by
    show pEnd c n i k (pStep c n i (pl c l)) = pl c (uEnd n i k (uStep n i l))
    rw [pl_step hc h, pEnd_pl hc k (uStep_ok h)]
theorem pl_one (c : Nat → Nat → Nat) (i : Nat) : pl c [[i]] = [([i], 1)] := by simp [pl, pathP]
section
variable {n : Nat} {c : Nat → Nat → Nat} (hn : n ≤ 4) (hc : SgF n c)
include hn hc
theorem wok_one {i : Nat} (hi : i < n) : ∀ w ∈ [[i]], Wok n i w := fun w hw => by
  rw [List.mem_singleton.mp hw]
  exact ⟨by simp, rfl, fun x hx => by rw [List.mem_singleton.mp hx]; exact hi⟩
theorem found_eq : (List.range n).flatMap (fun i => rAll c n i n [([i], 1)]) = sel c (lcand n) := by
  have pm := (perm_ok hn).1
  have hl : ∀ i, i < n → ∀ w ∈ uAll n i n [[i]], w.length ≤ 4 := fun i hi w hw => by
    have : w ∈ lcand n := List.mem_flatMap.mpr ⟨i, List.mem_range.mpr hi, hw⟩
    exact ((cand_ok hn).2.1 w (pm.mem_iff.mp this)).2.1
  have key : ∀ l : List Nat, (∀ i ∈ l, i < n) → l.flatMap (fun i => rAll c n i n [([i], 1)]) = sel c (l.flatMap fun i => uAll n i n [[i]]) := fun l => by
    induction l with
    | nil => intro _; rfl
    | cons i l ih =>
      intro h
      have hi := h i List.mem_cons_self
      rw [List.flatMap_cons, List.flatMap_cons, sel_app, ih fun j hj => h j (List.mem_cons_of_mem _ hj), ← pl_one c i, rAll_sel hc n (wok_one hn hc hi) (hl i hi)]
  exact key _ fun i hi => List.mem_range.mp hi
theorem end_nil {i : Nat} (hi : i < n) : pEnd c n i n [([i], 1)] = [] := by
  rw [← pl_one c i, pEnd_pl hc n (wok_one hn hc hi), (perm_ok hn).2 i hi]; rfl
end
theorem key_sort {n : Nat} {l m : List (List Nat)} (h : l.Perm m) (hm : m.Pairwise fun a b => keyC n a < keyC n b) : l.mergeSort (fun a b => decide (keyC n a ≤ keyC n b)) = m := by
  have hp := List.mergeSort_perm l fun a b => decide (keyC n a ≤ keyC n b)
  have hs := List.pairwise_mergeSort (le := fun a b => decide (keyC n a ≤ keyC n b)) (fun a b c h1 h2 => by simp only [decide_eq_true_eq] at *; omega) (fun a b => by simp only [Bool.or_eq_true, decide_eq_true_eq]; omega) l
  have hinj : ∀ a ∈ m, ∀ b ∈ m, keyC n a = keyC n b → a = b := by
    intro a ha b hb e
    clear hp hs h l
    induction m with
    | nil => cases ha
    | cons x r ih =>
      have hx := List.pairwise_cons.mp hm
      rcases List.mem_cons.mp ha with z | z
      · rcases List.mem_cons.mp hb with q | q
        · rw [z, q]
        · have := hx.1 b q; rw [z] at e; omega
      · rcases List.mem_cons.mp hb with q | q
        · have := hx.1 a z; rw [q] at e; omega
        · exact ih hx.2 z q
  refine List.Perm.eq_of_pairwise (le := fun a b => decide (keyC n a ≤ keyC n b) = true) (fun a b ha hb h1 h2 => ?_) hs (hm.imp fun {a b} h => by simp only [decide_eq_true_eq]; omega) (hp.trans h)
  simp only [decide_eq_true_eq] at h1 h2
  exact hinj a ((hp.trans h).mem_iff.mp ha) b hb (by omega)
def gC (c : Nat → Nat → Nat) (w : List Nat) : D := gD w (decide (0 < cyP c w))
theorem sorted_cyc {n : Nat} (hn : n ≤ 4) (c : Nat → Nat → Nat) : opBi .sorted [.lst ((sel c (lcand n)).map fun p => gD p.1 (decide (0 < p.2)))] = some (.lst ((sel c (cand n)).map fun p => gD p.1 (decide (0 < p.2)))) := by
  have em : ∀ l, (sel c l).map (fun p => gD p.1 (decide (0 < p.2))) = (l.filter fun w => decide (cyP c w ≠ 0)).map (gC c) := fun l => by unfold sel; rw [List.map_map]; rfl
  rw [em, em]
  obtain ⟨pm, _⟩ := perm_ok hn
  obtain ⟨_, _, cp⟩ := cand_ok hn
  have hmem : ∀ w ∈ (lcand n).filter (fun w => decide (cyP c w ≠ 0)), w ∈ cand n := fun w hw => pm.mem_iff.mp (List.mem_filter.mp hw).1
  have pf := pm.filter fun w => decide (cyP c w ≠ 0)
  have cf := cp.filter fun w => decide (cyP c w ≠ 0)
  generalize (lcand n).filter (fun w => decide (cyP c w ≠ 0)) = l at *
  generalize (cand n).filter (fun w => decide (cyP c w ≠ 0)) = m at *
  have ho : ordAll (l.map (gC c)) = true := by
    unfold ordAll
    rw [List.all_eq_true]
    intro x hx
    rw [List.all_eq_true]
    intro y hy
    obtain ⟨a, ha, rfl⟩ := List.mem_map.mp hx
    obtain ⟨b, hb, rfl⟩ := List.mem_map.mp hy
    exact (lt_ok hn (hmem a ha) (hmem b hb) _ _).1
  have hh : headNoTup (l.map (gC c)) = true := by
    unfold headNoTup
    rw [Bool.or_eq_true]
    right
    rw [List.all_eq_true]
    intro x hx
    obtain ⟨a, ha, rfl⟩ := List.mem_map.mp hx
    rfl
  have hm : (l.map (gC c)).mergeSort (fun a b => !D.lt b a) = m.map (gC c) := by
    rw [← key_sort pf cf, List.map_mergeSort (s := fun a b => !D.lt b a)]
    intro a ha b hb
    have := (lt_ok hn (hmem a ha) (hmem b hb) (decide (0 < cyP c a)) (decide (0 < cyP c b))).2 (by
      by_cases h : a = b
      · right; rw [h]
      · exact .inl h)
    show decide (keyC n a ≤ keyC n b) = !D.lt (gC c b) (gC c a)
    unfold gC
    rw [this, Bool.eq_iff_iff]
    simp
  simp only [opBi, biSorted, sortD, ho, hh, Bool.and_self, if_true, hm, Option.map_some]
def prs (w : List Nat) : List (Nat × Nat) := w.zipIdx.map fun q => (q.1, w.getD ((q.2 + 1) % w.length) 0)
def prodL (c : Nat → Nat → Nat) : List (Nat × Nat) → Int
  | [] => 1
  | p :: l => val (c p.1 p.2) * prodL c l
theorem prodL_app (c : Nat → Nat → Nat) : ∀ a b : List (Nat × Nat), prodL c (a ++ b) = prodL c a * prodL c b
  | [], b => by simp [prodL]
  | p :: a, b => by rw [List.cons_append, prodL, prodL_app c a b, prodL, Int.mul_assoc]
theorem prodL_perm (c : Nat → Nat → Nat) {a b : List (Nat × Nat)} (h : a.Perm b) : prodL c a = prodL c b := by
  induction h with
  | nil => rfl
  | cons x _ ih => rw [prodL, prodL, ih]
  | swap x y l => simp only [prodL]; grind
  | trans _ _ h1 h2 => exact h1.trans h2
theorem cyP_prod (c : Nat → Nat → Nat) (w : List Nat) : cyP c w = prodL c (prs w) := by
  have : ∀ (l : List (Nat × Nat)) (s : Int), l.foldl (fun s q => s * val (c q.1 (w.getD ((q.2 + 1) % w.length) 0))) s = s * prodL c (l.map fun q => (q.1, w.getD ((q.2 + 1) % w.length) 0)) := fun l => by
    induction l with
    | nil => intro s; simp [prodL]
    | cons q l ih => intro s; rw [List.foldl_cons, ih, List.map_cons, prodL, Int.mul_assoc]
  unfold cyP prs
  rw [this, Int.one_mul]
def pPrs (k : Nat) : List Nat → List (Nat × Nat)
  | [] => []
  | j :: l => (k, j) :: pPrs (k + 1) l
theorem along_prod (c : Nat → Nat → Nat) : ∀ (l : List Nat) (k : Nat), along (fun i j => val (c i j)) k l = prodL c (pPrs k l)
  | [], k => rfl
  | j :: l, k => by rw [along, pPrs, prodL, along_prod c l]
def dec (n : Nat) (o : List Nat) : List (List Nat) := (cand n).filter fun w => (prs w).all fun p => o.getD p.1 0 == p.2
def fixd (n : Nat) (o : List Nat) : List Nat := (List.range n).filter fun i => o.getD i 0 == i
def m1 (n : Nat) : Int := (-1) ^ n
theorem chk_dec : (List.range 5).all (fun n => (ords n).all (fun p => (pPrs 0 p.1).isPerm ((fixd n p.1).map (fun i => (i, i)) ++ (dec n p.1).flatMap prs) && decide (p.2 * m1 (fixd n p.1).length = m1 n * m1 (dec n p.1).length)) && (ords n).any (fun p => (dec n p.1).isEmpty) && (cand n).all fun w => (ords n).any fun p => dec n p.1 == [w]) = true := by decide +kernel
theorem m1_sq (n : Nat) : m1 n = 1 ∨ m1 n = -1 := by
  induction n with
  | zero => left; rfl
  | succ n ih =>
    have : m1 (n + 1) = m1 n * -1 := by unfold m1; rw [Int.pow_succ]
    rcases ih with z | z <;> rw [this, z]
    · right; rfl
    · left; rfl
section
variable {n : Nat} {c : Nat → Nat → Nat} (hn : n ≤ 4) (hd : ∀ i, i < n → c i i = 45)
include hn hd
theorem tau_dec {p : List Nat × Int} (hp : p ∈ ords n) : tau c p = m1 n * ((dec n p.1).map fun w => -cyP c w).foldr (· * ·) 1 := by
  have h := List.all_eq_true.mp chk_dec n (List.mem_range.mpr (by omega))
  rw [Bool.and_eq_true, Bool.and_eq_true] at h
  have hq := List.all_eq_true.mp h.1.1 p hp
  rw [Bool.and_eq_true, decide_eq_true_eq] at hq
  have pm := List.isPerm_iff.mp hq.1
  have hs := hq.2
  unfold tau
  rw [along_prod, prodL_perm c pm, prodL_app]
  have f1 : ∀ l : List Nat, (∀ i ∈ l, i < n) → prodL c (l.map fun i => (i, i)) = m1 l.length := fun l => by
    induction l with
    | nil => intro _; rfl
    | cons i l ih =>
      intro hl
      have e : m1 (l.length + 1) = m1 l.length * -1 := by unfold m1; rw [Int.pow_succ]
      rw [List.map_cons, prodL, ih fun j hj => hl j (List.mem_cons_of_mem _ hj), List.length_cons, e]
      show val (c i i) * _ = _
      rw [hd i (hl i List.mem_cons_self)]
      show (-1 : Int) * _ = _
      omega
  have f2 : ∀ l : List (List Nat), m1 l.length * prodL c (l.flatMap prs) = (l.map fun w => -cyP c w).foldr (· * ·) 1 := fun l => by
    induction l with
    | nil => rfl
    | cons w l ih =>
      have e : m1 (l.length + 1) = m1 l.length * -1 := by unfold m1; rw [Int.pow_succ]
      rw [List.flatMap_cons, prodL_app, List.length_cons, e, List.map_cons, List.foldr_cons, ← ih, cyP_prod]
      grind
  rw [f1 (fixd n p.1) fun i hi => List.mem_range.mp (List.mem_filter.mp hi).1, ← f2, ← Int.mul_assoc, hs, Int.mul_assoc]
theorem cyP_vals (w : List Nat) : cyP c w = 1 ∨ cyP c w = -1 ∨ cyP c w = 0 := by
  rw [cyP_prod]
  have hv : ∀ x, val x = 1 ∨ val x = -1 ∨ val x = 0 := fun x => by unfold val; split; simp; split <;> simp
  induction prs w with
  | nil => left; rfl
  | cons p l ih =>
    rw [prodL]
    rcases hv (c p.1 p.2) with z | z | z <;> rcases ih with q | q | q <;> rw [z, q] <;> simp
theorem pos_kind : (∀ w ∈ cand n, ¬ 0 < cyP c w) ↔ Alw n c := by
  have h := List.all_eq_true.mp chk_dec n (List.mem_range.mpr (by omega))
  rw [Bool.and_eq_true, Bool.and_eq_true] at h
  obtain ⟨p0, hp0, e0⟩ := List.any_eq_true.mp h.1.2
  have e0' : dec n p0.1 = [] := List.isEmpty_iff.mp e0
  have t0 : tau c p0 = m1 n := by rw [tau_dec hn hd hp0, e0']; simp
  constructor
  · intro hno
    refine ⟨m1 n, m1_sq n, ⟨p0, hp0, t0⟩, fun p hp => ?_⟩
    rw [tau_dec hn hd hp]
    have : ∀ l : List (List Nat), (∀ w ∈ l, w ∈ cand n) → (l.map fun w => -cyP c w).foldr (· * ·) 1 = 0 ∨ (l.map fun w => -cyP c w).foldr (· * ·) 1 = 1 := fun l => by
      induction l with
      | nil => intro _; right; rfl
      | cons w l ih =>
        intro hl
        rw [List.map_cons, List.foldr_cons]
        have hw := hno w (hl w List.mem_cons_self)
        rcases ih fun x hx => hl x (List.mem_cons_of_mem _ hx) with z | z
        · left; rw [z]; simp
        · rw [z]
          rcases cyP_vals hn hd w with q | q | q
          · omega
          · right; rw [q]; rfl
          · left; rw [q]; rfl
    rcases this (dec n p.1) fun w hw => (List.mem_filter.mp hw).1 with z | z
    · left; rw [z]; simp
    · right; rw [z]; simp
  · rintro ⟨s, hs, _, hall⟩ w hw hpos
    obtain ⟨p, hp, e⟩ := List.any_eq_true.mp (List.all_eq_true.mp h.2 w hw)
    have e' : dec n p.1 = [w] := beq_iff_eq.mp e
    have hc : cyP c w = 1 := by rcases cyP_vals hn hd w with q | q | q <;> omega
    have t1 : tau c p = -m1 n := by rw [tau_dec hn hd hp, e']; simp [hc]
    have a0 := hall p0 hp0
    have a1 := hall p hp
    rw [t0] at a0
    rw [t1] at a1
    have := m1_sq n
    omega
end
end SG
namespace SG
theorem tab_tabAt {t : List (List Nat)} {n : Nat} (T : Tab t n n) (hn : n ≤ 4) : TabAt (tabD t) n (sgAt t) := by
  refine ⟨tab_len T, fun i j hi hj => ?_, fun i j hi hj => ((tab_at T hi (by omega)).2.2 j hj).2⟩
  obtain ⟨e1, _, e2⟩ := tab_at T hi (show n < 1000 by omega)
  exact ⟨_, e1, (e2 j hj).1⟩
theorem tab_ne {t : List (List Nat)} {n : Nat} (T : Tab t n n) : t.length = n := T.len
end SG
namespace SG
theorem nD_eqnil {l : List Nat} : opCmp .eq (nD l) (.tup []) = some (decide (l = [])) := by
  cases l with
  | nil => rfl
  | cons x r =>
    have : (nD (x :: r)).dep ≤ 64 := by
      have h : ∀ l : List Nat, D.deps (l.map fun i => D.int (i : Nat)) = 0 := fun l => by
        induction l with
        | nil => rfl
        | cons y l ih => simp [D.deps, D.dep, ih]
      simp only [nD, D.dep, h]; omega
    have h2 : (D.tup []).dep ≤ 64 := by decide
    simp only [opCmp, this, h2, decide_true, Bool.and_self, if_true]
    rfl
theorem c_exch0 {d : Dice} : ∀ (f k : Nat) (l : List Nat), l.length ≤ f → f ≤ 4 → evCall allDefs (k + f + 1) 28 [nD l] d = .ok (.lst ((ex f l).map nD)) d
  | f, k, [], _, _ => by
    rw [call_eq (df := Fexchanges) rfl rfl]
    unfold Fexchanges
    have e : ex f [] = [[]] := by cases f <;> simp [ex]
    simp only [onB_some, onD_bl, onI_int, onO_some, r_bind, r_err, r_of, r_noerr, r_out, r_oute, o_er, o_rese, told_ok, told_0, told_1, told_2, told_3, told_4, told_5, told_6, told_7, told_8, told_9, told_10, o_nx, o_rt, o_res, o_resn, o_ofE, t_bl, t_int, tups_t, i_lst, i_tup, i_str, put0, putS, get0, getS, getO0, getOS, wipe_nil, wipe_cons, c_lt, c_gt, c_le, c_ge, c_eqI, c_neI, c_eqS, c_neS, c_eqB, c_neB, b_add, b_sub, x_len1, x_len2, x_tup1, x_tup2, x_lst1, x_abs, x_all, x_any, e_nil, e_cons, e_var, e_non, e_bl, e_int, e_str, e_tup, e_lst, e_bin, e_neg, e_cmp, e_chain, e_isn, e_and, e_or, e_and3, e_or3, e_not, e_ite, ifE_t, ifE_f, ifS_t, ifS_f, thenS_nx, thenS_er, thenS_rt, forS_nil, e_call, e_bi, e_isi, e_meth, e_ix, e_sl, e_rng1, e_enum, e_zip, e_lc, e_lcif, e_told, s_rse, s_nil', s_seq, s_set, s_own', s_par, s_parO, s_par3, s_frz, s_app, s_ret, s_ifs, s_fors, s_whl, s_ex, a_var, startE, List.map_cons, List.map_nil, List.length_cons, List.length_nil, List.cons_append, List.nil_append, List.append_nil, Nat.reduceAdd, Nat.reduceSub, Nat.zero_add, Nat.sub_self, List.replicate_zero, List.replicate_succ, Option.map_some, Option.bind_some, List.set_cons_zero, List.set_cons_succ, decide_true, decide_false, if_true, if_false, Bool.not_true, Bool.not_false, Bool.true_and, Bool.false_and, Bool.and_true, Bool.and_false, Bool.true_or, Bool.false_or, reduceIte, Bool.false_eq_true, eq_self, ne_eq, not_true_eq_false, not_false_eq_true, Bool.true_eq_false, List.length_map, List.length_range, List.length_append, e_rng2, e_trng, e_lenum, e_dget, e_dgets, e_rev, onS_str, a_tup, a_nil, a_cons, pt1, pt2, pt3, pt4, nD_eqnil, e]
    rfl
  | 0, k, _ :: _, h, _ => by simp at h
  | f + 1, k, x :: r, h, hf => by
    rw [call_eq (df := Fexchanges) rfl rfl]
    unfold Fexchanges
    have it : items (nD (x :: r)) = some ((x :: r).map fun i => .int (i : Nat)) := rfl
    have hne : decide ((x :: r) = ([] : List Nat)) = false := rfl
    have e0 : ex (f + 1) (x :: r) = (x :: r).flatMap fun one => (ex f ((x :: r).filter fun o => decide (o ≠ one))).map (one :: ·) := by simp [ex]
    rw [e0]
    generalize hL : x :: r = L at *
    simp only [onB_some, onD_bl, onI_int, onO_some, r_bind, r_err, r_of, r_noerr, r_out, r_oute, o_er, o_rese, told_ok, told_0, told_1, told_2, told_3, told_4, told_5, told_6, told_7, told_8, told_9, told_10, o_nx, o_rt, o_res, o_resn, o_ofE, t_bl, t_int, tups_t, i_lst, i_tup, i_str, put0, putS, get0, getS, getO0, getOS, wipe_nil, wipe_cons, c_lt, c_gt, c_le, c_ge, c_eqI, c_neI, c_eqS, c_neS, c_eqB, c_neB, b_add, b_sub, x_len1, x_len2, x_tup1, x_tup2, x_lst1, x_abs, x_all, x_any, e_nil, e_cons, e_var, e_non, e_bl, e_int, e_str, e_tup, e_lst, e_bin, e_neg, e_cmp, e_chain, e_isn, e_and, e_or, e_and3, e_or3, e_not, e_ite, ifE_t, ifE_f, ifS_t, ifS_f, thenS_nx, thenS_er, thenS_rt, forS_nil, e_call, e_bi, e_isi, e_meth, e_ix, e_sl, e_rng1, e_enum, e_zip, e_lc, e_lcif, e_told, s_rse, s_nil', s_seq, s_set, s_own', s_par, s_parO, s_par3, s_frz, s_app, s_ret, s_ifs, s_fors, s_whl, s_ex, a_var, startE, List.map_cons, List.map_nil, List.length_cons, List.length_nil, List.cons_append, List.nil_append, List.append_nil, Nat.reduceAdd, Nat.reduceSub, Nat.zero_add, Nat.sub_self, List.replicate_zero, List.replicate_succ, Option.map_some, Option.bind_some, List.set_cons_zero, List.set_cons_succ, decide_true, decide_false, if_true, if_false, Bool.not_true, Bool.not_false, Bool.true_and, Bool.false_and, Bool.and_true, Bool.and_false, Bool.true_or, Bool.false_or, reduceIte, Bool.false_eq_true, eq_self, ne_eq, not_true_eq_false, not_false_eq_true, Bool.true_eq_false, List.length_map, List.length_range, List.length_append, e_rng2, e_trng, e_lenum, e_dget, e_dgets, e_rev, onS_str, a_tup, a_nil, a_cons, pt1, pt2, pt3, pt4, nD_eqnil, hne, it]
    obtain ⟨⟨y2, y3, y4, y5⟩, e, _⟩ := for_fold (cf := evCall allDefs (k + (f + 1))) (d := d) (tg := .var 2) (b := B28_1) (fun (acc : List (List Nat)) (j : Sl × Sl × Sl × Sl) => [.sh (nD L), .sh (.lst (acc.map nD)), j.1, j.2.1, j.2.2.1, j.2.2.2]) (fun i : Nat => .int (i : Nat))
      (fun acc one => acc ++ (ex f (L.filter fun o => decide (o ≠ one))).map (one :: ·)) (fun r acc => (∀ o ∈ r, o ∈ L) ∧ acc.length + r.length * 64 < 900) (by
        rintro one r2 acc ⟨x2, x3, x4, x5⟩ ⟨h1, h2⟩
        simp only [List.length_cons] at h2
        have hone := h1 one List.mem_cons_self
        have hfl := filter_lt hone
        have hl4 : (L.filter fun o => decide (o ≠ one)).length ≤ 4 := by omega
        have hex := ex_len f _ hl4 (by omega)
        have hex2 : (ex f (L.filter fun o => decide (o ≠ one))).length ≤ 64 := Nat.le_trans hex (by
          rcases (show f = 0 ∨ f = 1 ∨ f = 2 ∨ f = 3 by omega) with z | z | z | z <;> subst z <;> decide)
        have it : items (nD L) = some (L.map fun i => .int (i : Nat)) := rfl
        refine ⟨_, rfl, (.sh (.int one), .sh (nD (L.filter fun o => decide (o ≠ one))), x4, x5), ?_, fun o ho => h1 o (List.mem_cons_of_mem _ ho), by rw [List.length_append, List.length_map]; omega⟩
        have lcf : ∀ (z : Sl) (a b : Sl), lcfS (evCall allDefs (k + (f + 1))) C28_1 (.var 4) T28_1 [4] (L.map fun i => .int (i : Nat)) [.sh (nD L), z, .sh (.int one), a, b, x5] d = .ok ((L.filter fun o => decide (o ≠ one)).map fun i => .int (i : Nat)) d := fun z a b => lcf_mapG L fun o ho => ⟨_, by simp only [onB_some, onD_bl, onI_int, onO_some, r_bind, r_err, r_of, r_noerr, r_out, r_oute, o_er, o_rese, told_ok, told_0, told_1, told_2, told_3, told_4, told_5, told_6, told_7, told_8, told_9, told_10, o_nx, o_rt, o_res, o_resn, o_ofE, t_bl, t_int, tups_t, i_lst, i_tup, i_str, put0, putS, get0, getS, getO0, getOS, wipe_nil, wipe_cons, c_lt, c_gt, c_le, c_ge, c_eqI, c_neI, c_eqS, c_neS, c_eqB, c_neB, b_add, b_sub, x_len1, x_len2, x_tup1, x_tup2, x_lst1, x_abs, x_all, x_any, e_nil, e_cons, e_var, e_non, e_bl, e_int, e_str, e_tup, e_lst, e_bin, e_neg, e_cmp, e_chain, e_isn, e_and, e_or, e_and3, e_or3, e_not, e_ite, ifE_t, ifE_f, ifS_t, ifS_f, thenS_nx, thenS_er, thenS_rt, forS_nil, e_call, e_bi, e_isi, e_meth, e_ix, e_sl, e_rng1, e_enum, e_zip, e_lc, e_lcif, e_told, s_rse, s_nil', s_seq, s_set, s_own', s_par, s_parO, s_par3, s_frz, s_app, s_ret, s_ifs, s_fors, s_whl, s_ex, a_var, startE, List.map_cons, List.map_nil, List.length_cons, List.length_nil, List.cons_append, List.nil_append, List.append_nil, Nat.reduceAdd, Nat.reduceSub, Nat.zero_add, Nat.sub_self, List.replicate_zero, List.replicate_succ, Option.map_some, Option.bind_some, List.set_cons_zero, List.set_cons_succ, decide_true, decide_false, if_true, if_false, Bool.not_true, Bool.not_false, Bool.true_and, Bool.false_and, Bool.and_true, Bool.and_false, Bool.true_or, Bool.false_or, reduceIte, Bool.false_eq_true, eq_self, ne_eq, not_true_eq_false, not_false_eq_true, Bool.true_eq_false, List.length_map, List.length_range, List.length_append, e_rng2, e_trng, e_lenum, e_dget, e_dgets, e_rev, onS_str, a_tup, a_nil, a_cons, pt1, pt2, pt3, pt4]; rfl, by
          unfold T28_1
          simp only [onB_some, onD_bl, onI_int, onO_some, r_bind, r_err, r_of, r_noerr, r_out, r_oute, o_er, o_rese, told_ok, told_0, told_1, told_2, told_3, told_4, told_5, told_6, told_7, told_8, told_9, told_10, o_nx, o_rt, o_res, o_resn, o_ofE, t_bl, t_int, tups_t, i_lst, i_tup, i_str, put0, putS, get0, getS, getO0, getOS, wipe_nil, wipe_cons, c_lt, c_gt, c_le, c_ge, c_eqI, c_neI, c_eqS, c_neS, c_eqB, c_neB, b_add, b_sub, x_len1, x_len2, x_tup1, x_tup2, x_lst1, x_abs, x_all, x_any, e_nil, e_cons, e_var, e_non, e_bl, e_int, e_str, e_tup, e_lst, e_bin, e_neg, e_cmp, e_chain, e_isn, e_and, e_or, e_and3, e_or3, e_not, e_ite, ifE_t, ifE_f, ifS_t, ifS_f, thenS_nx, thenS_er, thenS_rt, forS_nil, e_call, e_bi, e_isi, e_meth, e_ix, e_sl, e_rng1, e_enum, e_zip, e_lc, e_lcif, e_told, s_rse, s_nil', s_seq, s_set, s_own', s_par, s_parO, s_par3, s_frz, s_app, s_ret, s_ifs, s_fors, s_whl, s_ex, a_var, startE, List.map_cons, List.map_nil, List.length_cons, List.length_nil, List.cons_append, List.nil_append, List.append_nil, Nat.reduceAdd, Nat.reduceSub, Nat.zero_add, Nat.sub_self, List.replicate_zero, List.replicate_succ, Option.map_some, Option.bind_some, List.set_cons_zero, List.set_cons_succ, decide_true, decide_false, if_true, if_false, Bool.not_true, Bool.not_false, Bool.true_and, Bool.false_and, Bool.and_true, Bool.and_false, Bool.true_or, Bool.false_or, reduceIte, Bool.false_eq_true, eq_self, ne_eq, not_true_eq_false, not_false_eq_true, Bool.true_eq_false, List.length_map, List.length_range, List.length_append, e_rng2, e_trng, e_lenum, e_dget, e_dgets, e_rev, onS_str, a_tup, a_nil, a_cons, pt1, pt2, pt3, pt4]
          congr 2
          rw [decide_eq_decide]
          omega, fun _ => by unfold C28_1; simp only [onB_some, onD_bl, onI_int, onO_some, r_bind, r_err, r_of, r_noerr, r_out, r_oute, o_er, o_rese, told_ok, told_0, told_1, told_2, told_3, told_4, told_5, told_6, told_7, told_8, told_9, told_10, o_nx, o_rt, o_res, o_resn, o_ofE, t_bl, t_int, tups_t, i_lst, i_tup, i_str, put0, putS, get0, getS, getO0, getOS, wipe_nil, wipe_cons, c_lt, c_gt, c_le, c_ge, c_eqI, c_neI, c_eqS, c_neS, c_eqB, c_neB, b_add, b_sub, x_len1, x_len2, x_tup1, x_tup2, x_lst1, x_abs, x_all, x_any, e_nil, e_cons, e_var, e_non, e_bl, e_int, e_str, e_tup, e_lst, e_bin, e_neg, e_cmp, e_chain, e_isn, e_and, e_or, e_and3, e_or3, e_not, e_ite, ifE_t, ifE_f, ifS_t, ifS_f, thenS_nx, thenS_er, thenS_rt, forS_nil, e_call, e_bi, e_isi, e_meth, e_ix, e_sl, e_rng1, e_enum, e_zip, e_lc, e_lcif, e_told, s_rse, s_nil', s_seq, s_set, s_own', s_par, s_parO, s_par3, s_frz, s_app, s_ret, s_ifs, s_fors, s_whl, s_ex, a_var, startE, List.map_cons, List.map_nil, List.length_cons, List.length_nil, List.cons_append, List.nil_append, List.append_nil, Nat.reduceAdd, Nat.reduceSub, Nat.zero_add, Nat.sub_self, List.replicate_zero, List.replicate_succ, Option.map_some, Option.bind_some, List.set_cons_zero, List.set_cons_succ, decide_true, decide_false, if_true, if_false, Bool.not_true, Bool.not_false, Bool.true_and, Bool.false_and, Bool.and_true, Bool.and_false, Bool.true_or, Bool.false_or, reduceIte, Bool.false_eq_true, eq_self, ne_eq, not_true_eq_false, not_false_eq_true, Bool.true_eq_false, List.length_map, List.length_range, List.length_append, e_rng2, e_trng, e_lenum, e_dget, e_dgets, e_rev, onS_str, a_tup, a_nil, a_cons, pt1, pt2, pt3, pt4]⟩
        have ih := c_exch0 (d := d) f k (L.filter fun o => decide (o ≠ one)) (by omega) (by omega)
        have lc : ∀ (z : Sl) (a b : Sl), lcS (evCall allDefs (k + (f + 1))) C28_2 (.var 5) [5] ((ex f (L.filter fun o => decide (o ≠ one))).map nD) [.sh (nD L), z, .sh (.int one), a, b, x5] d = .ok (((ex f (L.filter fun o => decide (o ≠ one)))).map fun o => nD (one :: o)) d := fun z a b => lc_mapG _ fun o ho => ⟨_, by simp only [onB_some, onD_bl, onI_int, onO_some, r_bind, r_err, r_of, r_noerr, r_out, r_oute, o_er, o_rese, told_ok, told_0, told_1, told_2, told_3, told_4, told_5, told_6, told_7, told_8, told_9, told_10, o_nx, o_rt, o_res, o_resn, o_ofE, t_bl, t_int, tups_t, i_lst, i_tup, i_str, put0, putS, get0, getS, getO0, getOS, wipe_nil, wipe_cons, c_lt, c_gt, c_le, c_ge, c_eqI, c_neI, c_eqS, c_neS, c_eqB, c_neB, b_add, b_sub, x_len1, x_len2, x_tup1, x_tup2, x_lst1, x_abs, x_all, x_any, e_nil, e_cons, e_var, e_non, e_bl, e_int, e_str, e_tup, e_lst, e_bin, e_neg, e_cmp, e_chain, e_isn, e_and, e_or, e_and3, e_or3, e_not, e_ite, ifE_t, ifE_f, ifS_t, ifS_f, thenS_nx, thenS_er, thenS_rt, forS_nil, e_call, e_bi, e_isi, e_meth, e_ix, e_sl, e_rng1, e_enum, e_zip, e_lc, e_lcif, e_told, s_rse, s_nil', s_seq, s_set, s_own', s_par, s_parO, s_par3, s_frz, s_app, s_ret, s_ifs, s_fors, s_whl, s_ex, a_var, startE, List.map_cons, List.map_nil, List.length_cons, List.length_nil, List.cons_append, List.nil_append, List.append_nil, Nat.reduceAdd, Nat.reduceSub, Nat.zero_add, Nat.sub_self, List.replicate_zero, List.replicate_succ, Option.map_some, Option.bind_some, List.set_cons_zero, List.set_cons_succ, decide_true, decide_false, if_true, if_false, Bool.not_true, Bool.not_false, Bool.true_and, Bool.false_and, Bool.and_true, Bool.and_false, Bool.true_or, Bool.false_or, reduceIte, Bool.false_eq_true, eq_self, ne_eq, not_true_eq_false, not_false_eq_true, Bool.true_eq_false, List.length_map, List.length_range, List.length_append, e_rng2, e_trng, e_lenum, e_dget, e_dgets, e_rev, onS_str, a_tup, a_nil, a_cons, pt1, pt2, pt3, pt4]; rfl, by
          unfold C28_2
          have hol := ex_mem_len f _ o (by omega) ho
          have := add_tup (xs := [D.int (one : Nat)]) (ys := o.map fun i => D.int (i : Nat)) (by simp; omega)
          unfold nD
          simp only [onB_some, onD_bl, onI_int, onO_some, r_bind, r_err, r_of, r_noerr, r_out, r_oute, o_er, o_rese, told_ok, told_0, told_1, told_2, told_3, told_4, told_5, told_6, told_7, told_8, told_9, told_10, o_nx, o_rt, o_res, o_resn, o_ofE, t_bl, t_int, tups_t, i_lst, i_tup, i_str, put0, putS, get0, getS, getO0, getOS, wipe_nil, wipe_cons, c_lt, c_gt, c_le, c_ge, c_eqI, c_neI, c_eqS, c_neS, c_eqB, c_neB, b_add, b_sub, x_len1, x_len2, x_tup1, x_tup2, x_lst1, x_abs, x_all, x_any, e_nil, e_cons, e_var, e_non, e_bl, e_int, e_str, e_tup, e_lst, e_bin, e_neg, e_cmp, e_chain, e_isn, e_and, e_or, e_and3, e_or3, e_not, e_ite, ifE_t, ifE_f, ifS_t, ifS_f, thenS_nx, thenS_er, thenS_rt, forS_nil, e_call, e_bi, e_isi, e_meth, e_ix, e_sl, e_rng1, e_enum, e_zip, e_lc, e_lcif, e_told, s_rse, s_nil', s_seq, s_set, s_own', s_par, s_parO, s_par3, s_frz, s_app, s_ret, s_ifs, s_fors, s_whl, s_ex, a_var, startE, List.map_cons, List.map_nil, List.length_cons, List.length_nil, List.cons_append, List.nil_append, List.append_nil, Nat.reduceAdd, Nat.reduceSub, Nat.zero_add, Nat.sub_self, List.replicate_zero, List.replicate_succ, Option.map_some, Option.bind_some, List.set_cons_zero, List.set_cons_succ, decide_true, decide_false, if_true, if_false, Bool.not_true, Bool.not_false, Bool.true_and, Bool.false_and, Bool.and_true, Bool.and_false, Bool.true_or, Bool.false_or, reduceIte, Bool.false_eq_true, eq_self, ne_eq, not_true_eq_false, not_false_eq_true, Bool.true_eq_false, List.length_map, List.length_range, List.length_append, e_rng2, e_trng, e_lenum, e_dget, e_dgets, e_rev, onS_str, a_tup, a_nil, a_cons, pt1, pt2, pt3, pt4, this]⟩
        have hlim1 : L.length ≤ lim := le_lim (by omega)
        have hlim2 : (ex f (L.filter fun o => decide (o ≠ one))).length ≤ lim := le_lim (by omega)
        have tp : opBi .tuple [.lst ((L.filter fun o => decide (o ≠ one)).map fun i => .int (i : Nat))] = some (nD (L.filter fun o => decide (o ≠ one))) := rfl
        have ad : opBin .add (.lst (acc.map nD)) (.lst ((ex f (L.filter fun o => decide (o ≠ one))).map fun o => nD (one :: o))) = some (.lst ((acc ++ (ex f (L.filter fun o => decide (o ≠ one))).map (one :: ·)).map nD)) := by
          rw [add_lst (by rw [List.length_map, List.length_map]; omega), List.map_append, List.map_map]; rfl
        unfold B28_1
        rw [show k + (f + 1) = k + f + 1 by omega] at *
        simp only [onB_some, onD_bl, onI_int, onO_some, r_bind, r_err, r_of, r_noerr, r_out, r_oute, o_er, o_rese, told_ok, told_0, told_1, told_2, told_3, told_4, told_5, told_6, told_7, told_8, told_9, told_10, o_nx, o_rt, o_res, o_resn, o_ofE, t_bl, t_int, tups_t, i_lst, i_tup, i_str, put0, putS, get0, getS, getO0, getOS, wipe_nil, wipe_cons, c_lt, c_gt, c_le, c_ge, c_eqI, c_neI, c_eqS, c_neS, c_eqB, c_neB, b_add, b_sub, x_len1, x_len2, x_tup1, x_tup2, x_lst1, x_abs, x_all, x_any, e_nil, e_cons, e_var, e_non, e_bl, e_int, e_str, e_tup, e_lst, e_bin, e_neg, e_cmp, e_chain, e_isn, e_and, e_or, e_and3, e_or3, e_not, e_ite, ifE_t, ifE_f, ifS_t, ifS_f, thenS_nx, thenS_er, thenS_rt, forS_nil, e_call, e_bi, e_isi, e_meth, e_ix, e_sl, e_rng1, e_enum, e_zip, e_lc, e_lcif, e_told, s_rse, s_nil', s_seq, s_set, s_own', s_par, s_parO, s_par3, s_frz, s_app, s_ret, s_ifs, s_fors, s_whl, s_ex, a_var, startE, List.map_cons, List.map_nil, List.length_cons, List.length_nil, List.cons_append, List.nil_append, List.append_nil, Nat.reduceAdd, Nat.reduceSub, Nat.zero_add, Nat.sub_self, List.replicate_zero, List.replicate_succ, Option.map_some, Option.bind_some, List.set_cons_zero, List.set_cons_succ, decide_true, decide_false, if_true, if_false, Bool.not_true, Bool.not_false, Bool.true_and, Bool.false_and, Bool.and_true, Bool.and_false, Bool.true_or, Bool.false_or, reduceIte, Bool.false_eq_true, eq_self, ne_eq, not_true_eq_false, not_false_eq_true, Bool.true_eq_false, List.length_map, List.length_range, List.length_append, e_rng2, e_trng, e_lenum, e_dget, e_dgets, e_rev, onS_str, a_tup, a_nil, a_cons, pt1, pt2, pt3, pt4, it, hlim1, lcf, tp, ih, hlim2, lc, ad])
      L [] (.no, .no, .no, .no) ⟨fun _ h => h, by simp; omega⟩
    rw [foldl_app, List.nil_append] at e
    simp only [List.map_nil] at e
    rw [e]
    simp only [onB_some, onD_bl, onI_int, onO_some, r_bind, r_err, r_of, r_noerr, r_out, r_oute, o_er, o_rese, told_ok, told_0, told_1, told_2, told_3, told_4, told_5, told_6, told_7, told_8, told_9, told_10, o_nx, o_rt, o_res, o_resn, o_ofE, t_bl, t_int, tups_t, i_lst, i_tup, i_str, put0, putS, get0, getS, getO0, getOS, wipe_nil, wipe_cons, c_lt, c_gt, c_le, c_ge, c_eqI, c_neI, c_eqS, c_neS, c_eqB, c_neB, b_add, b_sub, x_len1, x_len2, x_tup1, x_tup2, x_lst1, x_abs, x_all, x_any, e_nil, e_cons, e_var, e_non, e_bl, e_int, e_str, e_tup, e_lst, e_bin, e_neg, e_cmp, e_chain, e_isn, e_and, e_or, e_and3, e_or3, e_not, e_ite, ifE_t, ifE_f, ifS_t, ifS_f, thenS_nx, thenS_er, thenS_rt, forS_nil, e_call, e_bi, e_isi, e_meth, e_ix, e_sl, e_rng1, e_enum, e_zip, e_lc, e_lcif, e_told, s_rse, s_nil', s_seq, s_set, s_own', s_par, s_parO, s_par3, s_frz, s_app, s_ret, s_ifs, s_fors, s_whl, s_ex, a_var, startE, List.map_cons, List.map_nil, List.length_cons, List.length_nil, List.cons_append, List.nil_append, List.append_nil, Nat.reduceAdd, Nat.reduceSub, Nat.zero_add, Nat.sub_self, List.replicate_zero, List.replicate_succ, Option.map_some, Option.bind_some, List.set_cons_zero, List.set_cons_succ, decide_true, decide_false, if_true, if_false, Bool.not_true, Bool.not_false, Bool.true_and, Bool.false_and, Bool.and_true, Bool.and_false, Bool.true_or, Bool.false_or, reduceIte, Bool.false_eq_true, eq_self, ne_eq, not_true_eq_false, not_false_eq_true, Bool.true_eq_false, List.length_map, List.length_range, List.length_append, e_rng2, e_trng, e_lenum, e_dget, e_dgets, e_rev, onS_str, a_tup, a_nil, a_cons, pt1, pt2, pt3, pt4]
theorem c_exch {k n : Nat} {d : Dice} (hn : n ≤ 4) : evCall allDefs (k + 5) 28 [nD (List.range n)] d = .ok (.lst ((ords n).map fun p => nD p.1)) d := by
  have := c_exch0 (d := d) n (k + 4 - n) (List.range n) (by simp) hn
  rw [ex_ords hn, List.map_map] at this
  rw [show k + 5 = k + 4 - n + n + 1 by omega]
  exact this
end SG
namespace SG
theorem c_value27 {k c : Nat} {d : Dice} (h : Sg c) : evCall allDefs (k + 1) 27 [.str [c]] d = .ok (.int (val c)) d := by
  rw [call_eq (df := Fvalue_of) rfl rfl]
  unfold Fvalue_of
  have e : lookS [c] kvI = some (.int (val c)) := by rcases h with h | h | h <;> subst h <;> rfl
  simp only [onB_some, onD_bl, onI_int, onO_some, r_bind, r_err, r_of, r_noerr, r_out, r_oute, o_er, o_rese, told_ok, told_0, told_1, told_2, told_3, told_4, told_5, told_6, told_7, told_8, told_9, told_10, o_nx, o_rt, o_res, o_resn, o_ofE, t_bl, t_int, tups_t, i_lst, i_tup, i_str, put0, putS, get0, getS, getO0, getOS, wipe_nil, wipe_cons, c_lt, c_gt, c_le, c_ge, c_eqI, c_neI, c_eqS, c_neS, c_eqB, c_neB, b_add, b_sub, x_len1, x_len2, x_tup1, x_tup2, x_lst1, x_abs, x_all, x_any, e_nil, e_cons, e_var, e_non, e_bl, e_int, e_str, e_tup, e_lst, e_bin, e_neg, e_cmp, e_chain, e_isn, e_and, e_or, e_and3, e_or3, e_not, e_ite, ifE_t, ifE_f, ifS_t, ifS_f, thenS_nx, thenS_er, thenS_rt, forS_nil, e_call, e_bi, e_isi, e_meth, e_ix, e_sl, e_rng1, e_enum, e_zip, e_lc, e_lcif, e_told, s_rse, s_nil', s_seq, s_set, s_own', s_par, s_parO, s_par3, s_frz, s_app, s_ret, s_ifs, s_fors, s_whl, s_ex, a_var, startE, List.map_cons, List.map_nil, List.length_cons, List.length_nil, List.cons_append, List.nil_append, List.append_nil, Nat.reduceAdd, Nat.reduceSub, Nat.zero_add, Nat.sub_self, List.replicate_zero, List.replicate_succ, Option.map_some, Option.bind_some, List.set_cons_zero, List.set_cons_succ, decide_true, decide_false, if_true, if_false, Bool.not_true, Bool.not_false, Bool.true_and, Bool.false_and, Bool.and_true, Bool.and_false, Bool.true_or, Bool.false_or, reduceIte, Bool.false_eq_true, eq_self, ne_eq, not_true_eq_false, not_false_eq_true, Bool.true_eq_false, List.length_map, List.length_range, List.length_append, e_rng2, e_trng, e_lenum, e_dget, e_dgets, e_rev, onS_str, a_tup, a_nil, a_cons, pt1, pt2, pt3, pt4, e]
end SG
namespace SG
theorem c_are {k n : Nat} {r : List Nat} {d : Dice} (hn : r.length = n) (hl : n < 1000) (h : ∀ c ∈ r, Sg c) : evCall allDefs (k + 1) 0 [.str r, .int n] d = .ok (.bl true) d := by
  rw [call_eq (df := Fare_signs) rfl rfl]
  unfold Fare_signs
  have lc : lcS (evCall allDefs k) C0_1 (.var 2) [2] (r.map fun c => .str [c]) [.sh (.str r), .sh (.int n), .no] d = .ok (r.map fun _ => .bl true) d := lc_mapG r fun c hc => ⟨_, by simp only [onB_some, onD_bl, onI_int, onO_some, r_bind, r_err, r_of, r_noerr, r_out, r_oute, o_er, o_rese, told_ok, told_0, told_1, told_2, told_3, told_4, told_5, told_6, told_7, told_8, told_9, told_10, o_nx, o_rt, o_res, o_resn, o_ofE, t_bl, t_int, tups_t, i_lst, i_tup, i_str, put0, putS, get0, getS, getO0, getOS, wipe_nil, wipe_cons, c_lt, c_gt, c_le, c_ge, c_eqI, c_neI, c_eqS, c_neS, c_eqB, c_neB, b_add, b_sub, x_len1, x_len2, x_tup1, x_tup2, x_lst1, x_abs, x_all, x_any, e_nil, e_cons, e_var, e_non, e_bl, e_int, e_str, e_tup, e_lst, e_bin, e_neg, e_cmp, e_chain, e_isn, e_and, e_or, e_and3, e_or3, e_not, e_ite, ifE_t, ifE_f, ifS_t, ifS_f, thenS_nx, thenS_er, thenS_rt, forS_nil, e_call, e_bi, e_isi, e_meth, e_ix, e_sl, e_rng1, e_enum, e_zip, e_lc, e_lcif, e_told, s_rse, s_nil', s_seq, s_set, s_own', s_par, s_parO, s_par3, s_frz, s_app, s_ret, s_ifs, s_fors, s_whl, s_ex, a_var, startE, List.map_cons, List.map_nil, List.length_cons, List.length_nil, List.cons_append, List.nil_append, List.append_nil, Nat.reduceAdd, Nat.reduceSub, Nat.zero_add, Nat.sub_self, List.replicate_zero, List.replicate_succ, Option.map_some, Option.bind_some, List.set_cons_zero, List.set_cons_succ, decide_true, decide_false, if_true, if_false, Bool.not_true, Bool.not_false, Bool.true_and, Bool.false_and, Bool.and_true, Bool.and_false, Bool.true_or, Bool.false_or, reduceIte, Bool.false_eq_true, eq_self, ne_eq, not_true_eq_false, not_false_eq_true]; rfl, by
    unfold C0_1
    simp only [onB_some, onD_bl, onI_int, onO_some, r_bind, r_err, r_of, r_noerr, r_out, r_oute, o_er, o_rese, told_ok, told_0, told_1, told_2, told_3, told_4, told_5, told_6, told_7, told_8, told_9, told_10, o_nx, o_rt, o_res, o_resn, o_ofE, t_bl, t_int, tups_t, i_lst, i_tup, i_str, put0, putS, get0, getS, getO0, getOS, wipe_nil, wipe_cons, c_lt, c_gt, c_le, c_ge, c_eqI, c_neI, c_eqS, c_neS, c_eqB, c_neB, b_add, b_sub, x_len1, x_len2, x_tup1, x_tup2, x_lst1, x_abs, x_all, x_any, e_nil, e_cons, e_var, e_non, e_bl, e_int, e_str, e_tup, e_lst, e_bin, e_neg, e_cmp, e_chain, e_isn, e_and, e_or, e_and3, e_or3, e_not, e_ite, ifE_t, ifE_f, ifS_t, ifS_f, thenS_nx, thenS_er, thenS_rt, forS_nil, e_call, e_bi, e_isi, e_meth, e_ix, e_sl, e_rng1, e_enum, e_zip, e_lc, e_lcif, e_told, s_rse, s_nil', s_seq, s_set, s_own', s_par, s_parO, s_par3, s_frz, s_app, s_ret, s_ifs, s_fors, s_whl, s_ex, a_var, startE, List.map_cons, List.map_nil, List.length_cons, List.length_nil, List.cons_append, List.nil_append, List.append_nil, Nat.reduceAdd, Nat.reduceSub, Nat.zero_add, Nat.sub_self, List.replicate_zero, List.replicate_succ, Option.map_some, Option.bind_some, List.set_cons_zero, List.set_cons_succ, decide_true, decide_false, if_true, if_false, Bool.not_true, Bool.not_false, Bool.true_and, Bool.false_and, Bool.and_true, Bool.and_false, Bool.true_or, Bool.false_or, reduceIte, Bool.false_eq_true, eq_self, ne_eq, not_true_eq_false, not_false_eq_true, in_sg (h c hc)]⟩
  have it : isI .str (.str r) = some true := rfl
  have hlim : (r.map fun c => D.str [c]).length ≤ lim := le_lim (by simp; omega)
  simp only [onB_some, onD_bl, onI_int, onO_some, r_bind, r_err, r_of, r_noerr, r_out, r_oute, o_er, o_rese, told_ok, told_0, told_1, told_2, told_3, told_4, told_5, told_6, told_7, told_8, told_9, told_10, o_nx, o_rt, o_res, o_resn, o_ofE, t_bl, t_int, tups_t, i_lst, i_tup, i_str, put0, putS, get0, getS, getO0, getOS, wipe_nil, wipe_cons, c_lt, c_gt, c_le, c_ge, c_eqI, c_neI, c_eqS, c_neS, c_eqB, c_neB, b_add, b_sub, x_len1, x_len2, x_tup1, x_tup2, x_lst1, x_abs, x_all, x_any, e_nil, e_cons, e_var, e_non, e_bl, e_int, e_str, e_tup, e_lst, e_bin, e_neg, e_cmp, e_chain, e_isn, e_and, e_or, e_and3, e_or3, e_not, e_ite, ifE_t, ifE_f, ifS_t, ifS_f, thenS_nx, thenS_er, thenS_rt, forS_nil, e_call, e_bi, e_isi, e_meth, e_ix, e_sl, e_rng1, e_enum, e_zip, e_lc, e_lcif, e_told, s_rse, s_nil', s_seq, s_set, s_own', s_par, s_parO, s_par3, s_frz, s_app, s_ret, s_ifs, s_fors, s_whl, s_ex, a_var, startE, List.map_cons, List.map_nil, List.length_cons, List.length_nil, List.cons_append, List.nil_append, List.append_nil, Nat.reduceAdd, Nat.reduceSub, Nat.zero_add, Nat.sub_self, List.replicate_zero, List.replicate_succ, Option.map_some, Option.bind_some, List.set_cons_zero, List.set_cons_succ, decide_true, decide_false, if_true, if_false, Bool.not_true, Bool.not_false, Bool.true_and, Bool.false_and, Bool.and_true, Bool.and_false, Bool.true_or, Bool.false_or, reduceIte, Bool.false_eq_true, eq_self, ne_eq, not_true_eq_false, not_false_eq_true, it, len_str (show r.length < 1000 by omega), hn, lc, hlim]
  simp
theorem c_table {k m w : Nat} {t : List (List Nat)} {d : Dice} (T : Tab t m w) (hm : 1 ≤ m ∧ m ≤ 4) (hw : 1 ≤ w ∧ w ≤ 4) : evCall allDefs (k + 2) 1 [tabD t] d = .ok (.bl true) d := by
  rw [call_eq (df := Fis_table) rfl rfl]
  unfold Fis_table tabD
  have tl := T.len
  cases t with
  | nil => simp at tl; omega
  | cons r0 t' =>
    have hr0 := T.row r0 List.mem_cons_self
    have it : isI .tuple (.tup ((r0 :: t').map .str)) = some true := rfl
    have it2 : isI .str (.str r0) = some true := rfl
    have i0 : opIx (.tup ((r0 :: t').map .str)) (.int 0) = some (.str r0) := by simp [opIx, atP, ixP]
    have i0' : opIx (.tup (.str r0 :: t'.map .str)) (.int 0) = some (.str r0) := by simp [opIx, atP, ixP]
    have l0 : opBi .len [.str r0] = some (.int w) := by rw [len_str (by omega), hr0.1]
    have lT : opBi .len [.tup ((r0 :: t').map .str)] = some (.int m) := by rw [x_len1, List.length_map, tl]
    have lc : lcS (evCall allDefs (k + 1)) C1_1 (.var 1) [1] ((r0 :: t').map .str) [.sh (.tup ((r0 :: t').map .str)), .no] d = .ok ((r0 :: t').map fun _ => .bl true) d := lc_mapG (r0 :: t') fun r hr => ⟨_, by simp only [onB_some, onD_bl, onI_int, onO_some, r_bind, r_err, r_of, r_noerr, r_out, r_oute, o_er, o_rese, told_ok, told_0, told_1, told_2, told_3, told_4, told_5, told_6, told_7, told_8, told_9, told_10, o_nx, o_rt, o_res, o_resn, o_ofE, t_bl, t_int, tups_t, i_lst, i_tup, i_str, put0, putS, get0, getS, getO0, getOS, wipe_nil, wipe_cons, c_lt, c_gt, c_le, c_ge, c_eqI, c_neI, c_eqS, c_neS, c_eqB, c_neB, b_add, b_sub, x_len1, x_len2, x_tup1, x_tup2, x_lst1, x_abs, x_all, x_any, e_nil, e_cons, e_var, e_non, e_bl, e_int, e_str, e_tup, e_lst, e_bin, e_neg, e_cmp, e_chain, e_isn, e_and, e_or, e_and3, e_or3, e_not, e_ite, ifE_t, ifE_f, ifS_t, ifS_f, thenS_nx, thenS_er, thenS_rt, forS_nil, e_call, e_bi, e_isi, e_meth, e_ix, e_sl, e_rng1, e_enum, e_zip, e_lc, e_lcif, e_told, s_rse, s_nil', s_seq, s_set, s_own', s_par, s_parO, s_par3, s_frz, s_app, s_ret, s_ifs, s_fors, s_whl, s_ex, a_var, startE, List.map_cons, List.map_nil, List.length_cons, List.length_nil, List.cons_append, List.nil_append, List.append_nil, Nat.reduceAdd, Nat.reduceSub, Nat.zero_add, Nat.sub_self, List.replicate_zero, List.replicate_succ, Option.map_some, Option.bind_some, List.set_cons_zero, List.set_cons_succ, decide_true, decide_false, if_true, if_false, Bool.not_true, Bool.not_false, Bool.true_and, Bool.false_and, Bool.and_true, Bool.and_false, Bool.true_or, Bool.false_or, reduceIte, Bool.false_eq_true, eq_self, ne_eq, not_true_eq_false, not_false_eq_true]; rfl, by
      unfold C1_1
      have := T.row r hr
      simp only [e_call, e_cons, e_var, getS, get0, r_of, r_bind, e_bi, e_ix, e_int, i0, i0', e_nil, tups_t, l0, wipe_cons, wipe_nil, List.set_cons_succ, List.set_cons_zero]
      rw [c_are this.1 (by omega) this.2]⟩
    have hlim : ((r0 :: t').map D.str).length ≤ lim := le_lim (by rw [List.length_map, tl]; omega)
    have al : opBi .all [.lst ((r0 :: t').map fun _ => .bl true)] = some (.bl true) := all_true _
    generalize (r0 :: t').map D.str = l at *
    generalize ((r0 :: t').map fun _ => D.bl true) = l2 at *
    have c1 : ((1 : Int) ≤ (m : Int)) := by omega
    have c2 : ((m : Int) ≤ 4) := by omega
    have c3 : ((1 : Int) ≤ (w : Int)) := by omega
    have c4 : ((w : Int) ≤ 4) := by omega
    simp only [onB_some, onD_bl, onI_int, onO_some, r_bind, r_err, r_of, r_noerr, r_out, r_oute, o_er, o_rese, told_ok, told_0, told_1, told_2, told_3, told_4, told_5, told_6, told_7, told_8, told_9, told_10, o_nx, o_rt, o_res, o_resn, o_ofE, t_bl, t_int, tups_t, i_lst, i_tup, i_str, put0, putS, get0, getS, getO0, getOS, wipe_nil, wipe_cons, c_lt, c_gt, c_le, c_ge, c_eqI, c_neI, c_eqS, c_neS, c_eqB, c_neB, b_add, b_sub, x_len1, x_len2, x_tup1, x_tup2, x_lst1, x_abs, x_all, x_any, e_nil, e_cons, e_var, e_non, e_bl, e_int, e_str, e_tup, e_lst, e_bin, e_neg, e_cmp, e_chain, e_isn, e_and, e_or, e_and3, e_or3, e_not, e_ite, ifE_t, ifE_f, ifS_t, ifS_f, thenS_nx, thenS_er, thenS_rt, forS_nil, e_call, e_bi, e_isi, e_meth, e_ix, e_sl, e_rng1, e_enum, e_zip, e_lc, e_lcif, e_told, s_rse, s_nil', s_seq, s_set, s_own', s_par, s_parO, s_par3, s_frz, s_app, s_ret, s_ifs, s_fors, s_whl, s_ex, a_var, startE, List.map_cons, List.map_nil, List.length_cons, List.length_nil, List.cons_append, List.nil_append, List.append_nil, Nat.reduceAdd, Nat.reduceSub, Nat.zero_add, Nat.sub_self, List.replicate_zero, List.replicate_succ, Option.map_some, Option.bind_some, List.set_cons_zero, List.set_cons_succ, decide_true, decide_false, if_true, if_false, Bool.not_true, Bool.not_false, Bool.true_and, Bool.false_and, Bool.and_true, Bool.and_false, Bool.true_or, Bool.false_or, reduceIte, Bool.false_eq_true, eq_self, ne_eq, not_true_eq_false, not_false_eq_true, it, lT, i0, it2, l0, c1, c2, c3, c4, lc, hlim, al]
theorem c_need {k m w : Nat} {t : List (List Nat)} {d : Dice} (T : Tab t m w) (hm : 1 ≤ m ∧ m ≤ 4) (hw : 1 ≤ w ∧ w ≤ 4) : evCall allDefs (k + 3) 2 [tabD t] d = .ok .non d := by
  rw [call_eq (df := Fneed_table) rfl rfl]
  unfold Fneed_table
  simp only [onB_some, onD_bl, onI_int, onO_some, r_bind, r_err, r_of, r_noerr, r_out, r_oute, o_er, o_rese, told_ok, told_0, told_1, told_2, told_3, told_4, told_5, told_6, told_7, told_8, told_9, told_10, o_nx, o_rt, o_res, o_resn, o_ofE, t_bl, t_int, tups_t, i_lst, i_tup, i_str, put0, putS, get0, getS, getO0, getOS, wipe_nil, wipe_cons, c_lt, c_gt, c_le, c_ge, c_eqI, c_neI, c_eqS, c_neS, c_eqB, c_neB, b_add, b_sub, x_len1, x_len2, x_tup1, x_tup2, x_lst1, x_abs, x_all, x_any, e_nil, e_cons, e_var, e_non, e_bl, e_int, e_str, e_tup, e_lst, e_bin, e_neg, e_cmp, e_chain, e_isn, e_and, e_or, e_and3, e_or3, e_not, e_ite, ifE_t, ifE_f, ifS_t, ifS_f, thenS_nx, thenS_er, thenS_rt, forS_nil, e_call, e_bi, e_isi, e_meth, e_ix, e_sl, e_rng1, e_enum, e_zip, e_lc, e_lcif, e_told, s_rse, s_nil', s_seq, s_set, s_own', s_par, s_parO, s_par3, s_frz, s_app, s_ret, s_ifs, s_fors, s_whl, s_ex, a_var, startE, List.map_cons, List.map_nil, List.length_cons, List.length_nil, List.cons_append, List.nil_append, List.append_nil, Nat.reduceAdd, Nat.reduceSub, Nat.zero_add, Nat.sub_self, List.replicate_zero, List.replicate_succ, Option.map_some, Option.bind_some, List.set_cons_zero, List.set_cons_succ, decide_true, decide_false, if_true, if_false, Bool.not_true, Bool.not_false, Bool.true_and, Bool.false_and, Bool.and_true, Bool.and_false, Bool.true_or, Bool.false_or, reduceIte, Bool.false_eq_true, eq_self, ne_eq, not_true_eq_false, not_false_eq_true, c_table T hm hw]
end SG
namespace SG
open PyProof.Rows PySem.W
abbrev Pls := List (Nat × Nat)
def p2D (p : Nat × Nat) : D := .tup [.int (p.1 : Nat), .int (p.2 : Nat)]
def plD (l : Pls) : D := .tup (l.map p2D)
def plKey : Pls → List (Int ⊕ List Nat)
  | [] => [.inl 0]
  | p :: r => .inl 1 :: .inl 1 :: .inl p.1 :: .inl 1 :: .inl p.2 :: .inl 0 :: plKey r
theorem plKey_eq : ∀ l : Pls, keyToksAll (D.pys (l.map p2D)) = plKey l
  | [] => rfl
  | p :: r => by
    rw [List.map_cons, D.pys, keyToksAll, plKey_eq r]
    rfl
theorem plKey_inj : ∀ a b : Pls, plKey a = plKey b → a = b
  | [], [], _ => rfl
  | [], _ :: _, h => by simp [plKey] at h
  | _ :: _, [], h => by simp [plKey] at h
  | (a, b) :: r, (c, d) :: t, h => by
    simp only [plKey, List.cons.injEq, Sum.inl.injEq] at h
    obtain ⟨_, _, h1, _, h2, _, h3⟩ := h
    rw [plKey_inj r t h3]
    have e1 : a = c := by omega
    have e2 : b = d := by omega
    rw [e1, e2]
theorem pl_alike : ∀ a b : Pls, alikeAll (D.pys (a.map p2D)) (D.pys (b.map p2D)) = true
  | [], _ => rfl
  | _ :: _, [] => rfl
  | p :: r, q :: t => by
    rw [List.map_cons, List.map_cons, D.pys, D.pys, alikeAll, pl_alike r t]
    rfl
theorem pl_dep (a : Pls) : (plD a).dep ≤ 3 := by
  have : ∀ l : Pls, D.deps (l.map p2D) ≤ 1 := by
    intro l
    induction l with
    | nil => simp [D.deps]
    | cons x l ih => simp [D.deps, D.dep, p2D]; omega
  have := this a
  simp only [plD, D.dep]
  omega
theorem pl_keyed : Keyed plD plKey where
  lt a b := by
    show PySem.W.dataLt (PySem.PyData.tuple (D.pys (a.map p2D))) (PySem.PyData.tuple (D.pys (b.map p2D))) = _
    rw [dataLt_tuple, plKey_eq, plKey_eq]
  ord a b := by
    have h1 := pl_dep a
    have h2 := pl_dep b
    have h3 : alike (plD a).py (plD b).py = true := pl_alike a b
    unfold D.ordB
    rw [h3, decide_eq_true (by omega : (plD a).dep ≤ 64), decide_eq_true (by omega : (plD b).dep ≤ 64)]
    rfl
  inj := plKey_inj
def matExt (row : List Nat) (i : Nat) (l : Pls) : List Pls := ((row.zipIdx).filter fun q => decide (q.1 ≠ 48) && !(l.map (·.2)).contains q.2).map fun q => l ++ [(i, q.2)]
def matStep (row : List Nat) (i : Nat) (found : List Pls) : List Pls := found.flatMap fun l => l :: matExt row i l
def mat (t : List (List Nat)) : List Pls := (List.range t.length).foldl (fun f i => matStep (t.getD i []) i f) [[]]
theorem matExt_len (row : List Nat) (i : Nat) (l : Pls) : (matExt row i l).length ≤ row.length := by
  unfold matExt
  rw [List.length_map]
  have := List.length_filter_le (fun q : Nat × Nat => decide (q.1 ≠ 48) && !(l.map (·.2)).contains q.2) row.zipIdx
  rwa [List.length_zipIdx] at this
theorem matStep_len (row : List Nat) (i : Nat) (f : List Pls) : (matStep row i f).length ≤ f.length * (row.length + 1) := by
  unfold matStep
  induction f with
  | nil => simp
  | cons l f ih =>
    rw [List.flatMap_cons, List.length_append, List.length_cons, List.length_cons, Nat.succ_mul]
    have := matExt_len row i l
    omega
end SG
namespace SG
def fplRow (row : List Nat) (i : Nat) : Pls := (row.zipIdx.filter fun q => decide (q.1 ≠ 48)).map fun q => (i, q.2)
def fpl (t : List (List Nat)) : Pls := t.zipIdx.flatMap fun q => fplRow q.1 q.2
end SG
namespace SG
theorem nD_trng (n : Nat) : D.tup (rangeL 0 (n : Int)) = nD (List.range n) := by rw [range_map]; rfl
theorem least_nats : ∀ (xs : List Nat) (x : Nat), least (.int (x : Nat)) (xs.map fun i => .int (i : Nat)) = .int ((xs.foldl (fun a y => if y < a then y else a) x : Nat) : Int)
  | [], x => rfl
  | y :: r, x => by
    rw [List.map_cons, List.foldl_cons]
    show least (if D.lt (.int (y : Nat)) (.int (x : Nat)) = true then _ else _) _ = _
    have e : D.lt (.int (y : Nat)) (.int (x : Nat)) = decide (y < x) := by
      show decide ((y : Int) < (x : Int)) = _
      rw [decide_eq_decide]; omega
    rw [e]
    by_cases h : y < x
    · rw [decide_eq_true h, if_pos rfl, if_pos h]; exact least_nats r y
    · rw [decide_eq_false h, if_neg (by decide), if_neg h]; exact least_nats r x
theorem ordAll_nats (l : List Nat) : ordAll (l.map fun i => D.int (i : Nat)) = true := by
  unfold ordAll
  rw [List.all_eq_true]
  intro x hx
  rw [List.all_eq_true]
  intro y hy
  obtain ⟨a, _, rfl⟩ := List.mem_map.mp hx
  obtain ⟨b, _, rfl⟩ := List.mem_map.mp hy
  unfold D.ordB
  simp [D.dep, D.py, PySem.W.alike]
theorem min_nD {w : List Nat} (h : w ≠ []) : opBi .min [nD w] = some (.int (minL w : Nat)) := by
  cases w with
  | nil => exact absurd rfl h
  | cons x r =>
    show biMin [.tup (.int (x : Nat) :: r.map fun i => .int (i : Nat))] = _
    have := ordAll_nats (x :: r)
    rw [List.map_cons] at this
    simp only [biMin, this, if_true, least_nats]
    rfl
theorem ix_nD {w : List Nat} {j : Nat} (h : j < w.length) : opIx (nD w) (.int (j : Nat)) = some (.int (w.getD j 0 : Nat)) := ixT (e := fun i : Nat => D.int (i : Nat)) (by rw [List.getElem?_eq_getElem h]; simp [List.getD, h])
theorem ints_map_nat (w : List Nat) : intsOf (w.map fun i => D.int (i : Nat)) = some (w.map fun i : Nat => (i : Int)) := by
  induction w with
  | nil => rfl
  | cons x r ih => rw [List.map_cons, intsOf, ih]; rfl
theorem tInts_nD {γ : Type} (f : γ → List Nat) : ∀ l : List γ, tInts (l.map fun p => nD (f p)) = some (l.map fun p => (f p).map fun i : Nat => (i : Int))
  | [] => rfl
  | p :: l => by
    rw [List.map_cons]
    show (intsOf ((f p).map fun i => D.int (i : Nat))).bind (fun a => (tInts (l.map fun p => nD (f p))).map (a :: ·)) = _
    rw [ints_map_nat, tInts_nD f l]; rfl
theorem ssort_ways {n s : Nat} (hn : n ≤ 4) (hs : 2 ≤ s ∧ s ≤ n) : ssortO ((ords n).map fun p => nD (p.1.take s)) = some (.lst ((wy n s).map nD)) := by
  obtain ⟨h1, h2, _⟩ := ways_ok hn hs
  have hi : intsOf ((ords n).map fun p => nD (p.1.take s)) = none := by
    cases ho : ords n with
    | nil => unfold preI at h1; rw [ho] at h1; cases h1
    | cons p l => rfl
  have ht : tInts ((ords n).map fun p => nD (p.1.take s)) = some (preI n s) := tInts_nD (fun p : List Nat × Int => p.1.take s) (ords n)
  unfold ssortO
  rw [hi]
  show (tInts _).bind _ = _
  rw [ht, Option.bind_some, if_pos h1, ← h2, List.map_map]
  congr 2
  apply List.map_congr_left
  intro w _
  show D.tup _ = nD w
  rw [List.map_map]; rfl
section
variable {k n : Nat} {t : List (List Nat)} {d : Dice}
theorem cyc_way {x0 x1 x2 x4 x5 x6 x7 : Sl} {s : Nat} {w : List Nat} (T : Tab t n n) (hn : n ≤ 4) (hw : w.length = s) (h1 : 1 ≤ s ∧ s ≤ 4) (hl : ∀ i ∈ w, i < n) (x9 x10 : Sl) : ∃ y9 y10, forS (evCall allDefs (k + 5)) (.tup (.cons (.var 9) (.cons (.var 10) .nil))) B102_3 (w.zipIdx.map fun q => .tup [.int (q.2 : Nat), .int (q.1 : Nat)]) [.sh (tabD t), x1, x2, .sh (.int (s : Nat)), x4, x5, .sh (nD w), x7, .sh (.int 1), x9, x10] d = .nx [.sh (tabD t), x1, x2, .sh (.int (s : Nat)), x4, x5, .sh (nD w), x7, .sh (.int (cyP (sgAt t) w)), y9, y10] d := by
  obtain ⟨⟨y9, y10⟩, e, _⟩ := for_fold (cf := evCall allDefs (k + 5)) (d := d) (tg := .tup (.cons (.var 9) (.cons (.var 10) .nil))) (b := B102_3) (fun (z : Int) (j : Sl × Sl) => [.sh (tabD t), x1, x2, .sh (.int (s : Nat)), x4, x5, .sh (nD w), x7, .sh (.int z), j.1, j.2]) (fun q : Nat × Nat => .tup [.int (q.2 : Nat), .int (q.1 : Nat)])
    (fun z q => z * val (sgAt t q.1 (w.getD ((q.2 + 1) % w.length) 0))) (fun l _ => ∀ q ∈ l, q ∈ w.zipIdx) (by
      rintro ⟨i, a⟩ l z ⟨z9, z10⟩ h
      have hm := zipIdx_mem (h (i, a) List.mem_cons_self)
      simp only at hm
      obtain ⟨hlt, hv⟩ := List.getElem?_eq_some_iff.mp hm
      have hi : i < n := hl i (List.mem_of_getElem? hm)
      have hmod : (a + 1) % w.length < w.length := Nat.mod_lt _ (by omega)
      have hj : w.getD ((a + 1) % w.length) 0 < n := hl _ (by rw [show w.getD ((a + 1) % w.length) 0 = w[(a + 1) % w.length] by simp [List.getD, hmod]]; exact List.getElem_mem hmod)
      obtain ⟨e1, _, e2⟩ := tab_at T hi (show n < 1000 by omega)
      obtain ⟨e3, sg⟩ := e2 _ hj
      have md : opBin .mod (.int ((a : Int) + 1)) (.int (s : Nat)) = some (.int (((a + 1) % w.length : Nat) : Int)) := by
        rw [modB (by omega), show ((a : Int) + 1) = ((a + 1 : Nat) : Int) by omega, fmod_nat, hw]
      have ix : opIx (nD w) (.int (((a + 1) % w.length : Nat) : Int)) = some (.int (w.getD ((a + 1) % w.length) 0 : Nat)) := ix_nD hmod
      refine ⟨_, rfl, (.sh (.int (a : Nat)), .sh (.int (i : Nat))), ?_, fun q hq => h q (List.mem_cons_of_mem _ hq)⟩
      generalize w.getD ((a + 1) % w.length) 0 = b at *
      unfold B102_3
      simp only [onB_some, onD_bl, onI_int, onO_some, r_bind, r_err, r_of, r_noerr, r_out, r_oute, o_er, o_rese, told_ok, told_0, told_1, told_2, told_3, told_4, told_5, told_6, told_7, told_8, told_9, told_10, o_nx, o_rt, o_res, o_resn, o_ofE, t_bl, t_int, tups_t, i_lst, i_tup, i_str, put0, putS, get0, getS, getO0, getOS, wipe_nil, wipe_cons, c_lt, c_gt, c_le, c_ge, c_eqI, c_neI, c_eqS, c_neS, c_eqB, c_neB, b_add, b_sub, x_len1, x_len2, x_tup1, x_tup2, x_lst1, x_abs, x_all, x_any, e_nil, e_cons, e_var, e_non, e_bl, e_int, e_str, e_tup, e_lst, e_bin, e_neg, e_cmp, e_chain, e_isn, e_and, e_or, e_and3, e_or3, e_not, e_ite, ifE_t, ifE_f, ifS_t, ifS_f, thenS_nx, thenS_er, thenS_rt, forS_nil, e_call, e_bi, e_isi, e_meth, e_ix, e_sl, e_rng1, e_enum, e_zip, e_lc, e_lcif, e_told, s_rse, s_nil', s_seq, s_set, s_own', s_par, s_parO, s_par3, s_frz, s_app, s_ret, s_ifs, s_fors, s_whl, s_ex, a_var, startE, List.map_cons, List.map_nil, List.length_cons, List.length_nil, List.cons_append, List.nil_append, List.append_nil, Nat.reduceAdd, Nat.reduceSub, Nat.zero_add, Nat.sub_self, List.replicate_zero, List.replicate_succ, Option.map_some, Option.bind_some, List.set_cons_zero, List.set_cons_succ, decide_true, decide_false, if_true, if_false, Bool.not_true, Bool.not_false, Bool.true_and, Bool.false_and, Bool.and_true, Bool.and_false, Bool.true_or, Bool.false_or, reduceIte, Bool.false_eq_true, eq_self, ne_eq, not_true_eq_false, not_false_eq_true, Bool.true_eq_false, List.length_map, List.length_range, List.length_append, e_rng2, e_trng, e_lenum, e_dget, e_dgets, e_rev, onS_str, a_tup, a_nil, a_cons, pt1, pt2, pt3, pt4, e1, md, ix, e3, c_value27 sg, mulR (val_s64 (c := sgAt t i b))]) w.zipIdx 1 (x9, x10) (fun _ h => h)
  exact ⟨y9, y10, e⟩
theorem sel_len (c : Nat → Nat → Nat) (l : List (List Nat)) : (sel c l).length ≤ l.length := by
  unfold sel
  rw [List.length_map]
  exact List.length_filter_le _ _
theorem cyc_size {x1 : Sl} {s : Nat} (T : Tab t n n) (hn : n ≤ 4) (hs : 2 ≤ s ∧ s ≤ n) (acc : List (List Nat × Int)) (ha : acc.length + (wys n s).length < 900) (x4 x5 x6 x7 x8 x9 x10 : Sl) : ∃ y4 y5 y6 y7 y8 y9 y10, evS (evCall allDefs (k + 5)) B102_1 [.sh (tabD t), .sh (.int (n : Nat)), .ow (acc.map oD), .sh (.int (s : Nat)), x4, x5, x6, x7, x8, x9, x10] d = .nx [.sh (tabD t), .sh (.int (n : Nat)), .ow ((acc ++ sel (sgAt t) (wys n s)).map oD), .sh (.int (s : Nat)), y4, y5, y6, y7, y8, y9, y10] d := by
  obtain ⟨_, _, hwy⟩ := ways_ok hn hs
  have f28 : evCall allDefs (k + 5) 28 [nD (List.range n)] d = .ok (.lst ((ords n).map fun p => nD p.1)) d := c_exch (k := k) hn
  have hlo := ords_len' hn
  have hlim : (ords n).length ≤ lim := le_lim (by omega)
  have lc : ∀ (A : List D) (x4 x5 x6 x7 x8 x9 x10 : Sl), lcS (evCall allDefs (k + 5)) C102_1 (.var 5) [5] ((ords n).map fun p => nD p.1) [.sh (tabD t), .sh (.int (n : Nat)), .ow A, .sh (.int (s : Nat)), x4, x5, x6, x7, x8, x9, x10] d = .ok ((ords n).map fun p => nD (p.1.take s)) d := fun A x4 x5 x6 x7 x8 x9 x10 => lc_mapG (ords n) fun p hp => ⟨_, by simp only [onB_some, onD_bl, onI_int, onO_some, r_bind, r_err, r_of, r_noerr, r_out, r_oute, o_er, o_rese, told_ok, told_0, told_1, told_2, told_3, told_4, told_5, told_6, told_7, told_8, told_9, told_10, o_nx, o_rt, o_res, o_resn, o_ofE, t_bl, t_int, tups_t, i_lst, i_tup, i_str, put0, putS, get0, getS, getO0, getOS, wipe_nil, wipe_cons, c_lt, c_gt, c_le, c_ge, c_eqI, c_neI, c_eqS, c_neS, c_eqB, c_neB, b_add, b_sub, x_len1, x_len2, x_tup1, x_tup2, x_lst1, x_abs, x_all, x_any, e_nil, e_cons, e_var, e_non, e_bl, e_int, e_str, e_tup, e_lst, e_bin, e_neg, e_cmp, e_chain, e_isn, e_and, e_or, e_and3, e_or3, e_not, e_ite, ifE_t, ifE_f, ifS_t, ifS_f, thenS_nx, thenS_er, thenS_rt, forS_nil, e_call, e_bi, e_isi, e_meth, e_ix, e_sl, e_rng1, e_enum, e_zip, e_lc, e_lcif, e_told, s_rse, s_nil', s_seq, s_set, s_own', s_par, s_parO, s_par3, s_frz, s_app, s_ret, s_ifs, s_fors, s_whl, s_ex, a_var, startE, List.map_cons, List.map_nil, List.length_cons, List.length_nil, List.cons_append, List.nil_append, List.append_nil, Nat.reduceAdd, Nat.reduceSub, Nat.zero_add, Nat.sub_self, List.replicate_zero, List.replicate_succ, Option.map_some, Option.bind_some, List.set_cons_zero, List.set_cons_succ, decide_true, decide_false, if_true, if_false, Bool.not_true, Bool.not_false, Bool.true_and, Bool.false_and, Bool.and_true, Bool.and_false, Bool.true_or, Bool.false_or, reduceIte, Bool.false_eq_true, eq_self, ne_eq, not_true_eq_false, not_false_eq_true, Bool.true_eq_false, List.length_map, List.length_range, List.length_append, e_rng2, e_trng, e_lenum, e_dget, e_dgets, e_rev, onS_str, a_tup, a_nil, a_cons, pt1, pt2, pt3, pt4]; rfl, by
    have hpl := (ords_mem hn hp).len
    have sl : opSl (nD p.1) none (some ((s : Nat) : Int)) = some (nD (p.1.take s)) := by
      unfold nD
      rw [sl_lo (by simp; omega), List.map_take]
    unfold C102_1
    simp only [onB_some, onD_bl, onI_int, onO_some, r_bind, r_err, r_of, r_noerr, r_out, r_oute, o_er, o_rese, told_ok, told_0, told_1, told_2, told_3, told_4, told_5, told_6, told_7, told_8, told_9, told_10, o_nx, o_rt, o_res, o_resn, o_ofE, t_bl, t_int, tups_t, i_lst, i_tup, i_str, put0, putS, get0, getS, getO0, getOS, wipe_nil, wipe_cons, c_lt, c_gt, c_le, c_ge, c_eqI, c_neI, c_eqS, c_neS, c_eqB, c_neB, b_add, b_sub, x_len1, x_len2, x_tup1, x_tup2, x_lst1, x_abs, x_all, x_any, e_nil, e_cons, e_var, e_non, e_bl, e_int, e_str, e_tup, e_lst, e_bin, e_neg, e_cmp, e_chain, e_isn, e_and, e_or, e_and3, e_or3, e_not, e_ite, ifE_t, ifE_f, ifS_t, ifS_f, thenS_nx, thenS_er, thenS_rt, forS_nil, e_call, e_bi, e_isi, e_meth, e_ix, e_sl, e_rng1, e_enum, e_zip, e_lc, e_lcif, e_told, s_rse, s_nil', s_seq, s_set, s_own', s_par, s_parO, s_par3, s_frz, s_app, s_ret, s_ifs, s_fors, s_whl, s_ex, a_var, startE, List.map_cons, List.map_nil, List.length_cons, List.length_nil, List.cons_append, List.nil_append, List.append_nil, Nat.reduceAdd, Nat.reduceSub, Nat.zero_add, Nat.sub_self, List.replicate_zero, List.replicate_succ, Option.map_some, Option.bind_some, List.set_cons_zero, List.set_cons_succ, decide_true, decide_false, if_true, if_false, Bool.not_true, Bool.not_false, Bool.true_and, Bool.false_and, Bool.and_true, Bool.and_false, Bool.true_or, Bool.false_or, reduceIte, Bool.false_eq_true, eq_self, ne_eq, not_true_eq_false, not_false_eq_true, Bool.true_eq_false, List.length_map, List.length_range, List.length_append, e_rng2, e_trng, e_lenum, e_dget, e_dgets, e_rev, onS_str, a_tup, a_nil, a_cons, pt1, pt2, pt3, pt4, sl]⟩
  have sr := ssort_ways hn hs
  have hwl : (wy n s).length ≤ lim := by
    have : (wy n s).length ≤ (ords n).length := by
      unfold wy
      rw [List.length_map]
      have : ∀ l : List (List Int), (ssetT l).length ≤ l.length := fun l => by
        induction l with
        | nil => exact Nat.le_refl _
        | cons x l ih =>
          have hi : ∀ (m : List (List Int)), (insT x m).length ≤ m.length + 1 := fun m => by
            induction m with
            | nil => exact Nat.le_refl _
            | cons y m ih =>
              unfold insT
              split
              · simp
              · split
                · simp
                · simp only [List.length_cons]; omega
          have := hi (ssetT l)
          show (insT x (ssetT l)).length ≤ l.length + 1
          omega
      refine Nat.le_trans (this _) ?_
      unfold preI
      rw [List.length_map]; exact Nat.le_refl _
    exact le_lim (by omega)
  have lc2 : ∀ (A : List D) (x4 x5 x6 x7 x8 x9 x10 : Sl), lcfS (evCall allDefs (k + 5)) C102_2 (.var 7) T102_1 [7] ((wy n s).map nD) [.sh (tabD t), .sh (.int (n : Nat)), .ow A, .sh (.int (s : Nat)), x4, x5, x6, x7, x8, x9, x10] d = .ok ((wys n s).map nD) d := fun A x4 x5 x6 x7 x8 x9 x10 => lcf_mapG (wy n s) fun w hw => ⟨_, by simp only [onB_some, onD_bl, onI_int, onO_some, r_bind, r_err, r_of, r_noerr, r_out, r_oute, o_er, o_rese, told_ok, told_0, told_1, told_2, told_3, told_4, told_5, told_6, told_7, told_8, told_9, told_10, o_nx, o_rt, o_res, o_resn, o_ofE, t_bl, t_int, tups_t, i_lst, i_tup, i_str, put0, putS, get0, getS, getO0, getOS, wipe_nil, wipe_cons, c_lt, c_gt, c_le, c_ge, c_eqI, c_neI, c_eqS, c_neS, c_eqB, c_neB, b_add, b_sub, x_len1, x_len2, x_tup1, x_tup2, x_lst1, x_abs, x_all, x_any, e_nil, e_cons, e_var, e_non, e_bl, e_int, e_str, e_tup, e_lst, e_bin, e_neg, e_cmp, e_chain, e_isn, e_and, e_or, e_and3, e_or3, e_not, e_ite, ifE_t, ifE_f, ifS_t, ifS_f, thenS_nx, thenS_er, thenS_rt, forS_nil, e_call, e_bi, e_isi, e_meth, e_ix, e_sl, e_rng1, e_enum, e_zip, e_lc, e_lcif, e_told, s_rse, s_nil', s_seq, s_set, s_own', s_par, s_parO, s_par3, s_frz, s_app, s_ret, s_ifs, s_fors, s_whl, s_ex, a_var, startE, List.map_cons, List.map_nil, List.length_cons, List.length_nil, List.cons_append, List.nil_append, List.append_nil, Nat.reduceAdd, Nat.reduceSub, Nat.zero_add, Nat.sub_self, List.replicate_zero, List.replicate_succ, Option.map_some, Option.bind_some, List.set_cons_zero, List.set_cons_succ, decide_true, decide_false, if_true, if_false, Bool.not_true, Bool.not_false, Bool.true_and, Bool.false_and, Bool.and_true, Bool.and_false, Bool.true_or, Bool.false_or, reduceIte, Bool.false_eq_true, eq_self, ne_eq, not_true_eq_false, not_false_eq_true, Bool.true_eq_false, List.length_map, List.length_range, List.length_append, e_rng2, e_trng, e_lenum, e_dget, e_dgets, e_rev, onS_str, a_tup, a_nil, a_cons, pt1, pt2, pt3, pt4]; rfl, by
    have hl := (hwy w hw).1
    have hne : w ≠ [] := fun z => by subst z; simp at hl; omega
    have i0 : opIx (nD w) (.int 0) = some (.int (w.getD 0 0 : Nat)) := ix_nD (j := 0) (by omega)
    have e0 : decide (((w.getD 0 0 : Nat) : Int) = ((minL w : Nat) : Int)) = decide (w.getD 0 0 = minL w) := by rw [decide_eq_decide]; omega
    unfold T102_1
    simp only [onB_some, onD_bl, onI_int, onO_some, r_bind, r_err, r_of, r_noerr, r_out, r_oute, o_er, o_rese, told_ok, told_0, told_1, told_2, told_3, told_4, told_5, told_6, told_7, told_8, told_9, told_10, o_nx, o_rt, o_res, o_resn, o_ofE, t_bl, t_int, tups_t, i_lst, i_tup, i_str, put0, putS, get0, getS, getO0, getOS, wipe_nil, wipe_cons, c_lt, c_gt, c_le, c_ge, c_eqI, c_neI, c_eqS, c_neS, c_eqB, c_neB, b_add, b_sub, x_len1, x_len2, x_tup1, x_tup2, x_lst1, x_abs, x_all, x_any, e_nil, e_cons, e_var, e_non, e_bl, e_int, e_str, e_tup, e_lst, e_bin, e_neg, e_cmp, e_chain, e_isn, e_and, e_or, e_and3, e_or3, e_not, e_ite, ifE_t, ifE_f, ifS_t, ifS_f, thenS_nx, thenS_er, thenS_rt, forS_nil, e_call, e_bi, e_isi, e_meth, e_ix, e_sl, e_rng1, e_enum, e_zip, e_lc, e_lcif, e_told, s_rse, s_nil', s_seq, s_set, s_own', s_par, s_parO, s_par3, s_frz, s_app, s_ret, s_ifs, s_fors, s_whl, s_ex, a_var, startE, List.map_cons, List.map_nil, List.length_cons, List.length_nil, List.cons_append, List.nil_append, List.append_nil, Nat.reduceAdd, Nat.reduceSub, Nat.zero_add, Nat.sub_self, List.replicate_zero, List.replicate_succ, Option.map_some, Option.bind_some, List.set_cons_zero, List.set_cons_succ, decide_true, decide_false, if_true, if_false, Bool.not_true, Bool.not_false, Bool.true_and, Bool.false_and, Bool.and_true, Bool.and_false, Bool.true_or, Bool.false_or, reduceIte, Bool.false_eq_true, eq_self, ne_eq, not_true_eq_false, not_false_eq_true, Bool.true_eq_false, List.length_map, List.length_range, List.length_append, e_rng2, e_trng, e_lenum, e_dget, e_dgets, e_rev, onS_str, a_tup, a_nil, a_cons, pt1, pt2, pt3, pt4, i0, min_nD hne, e0], fun _ => by unfold C102_2; simp only [onB_some, onD_bl, onI_int, onO_some, r_bind, r_err, r_of, r_noerr, r_out, r_oute, o_er, o_rese, told_ok, told_0, told_1, told_2, told_3, told_4, told_5, told_6, told_7, told_8, told_9, told_10, o_nx, o_rt, o_res, o_resn, o_ofE, t_bl, t_int, tups_t, i_lst, i_tup, i_str, put0, putS, get0, getS, getO0, getOS, wipe_nil, wipe_cons, c_lt, c_gt, c_le, c_ge, c_eqI, c_neI, c_eqS, c_neS, c_eqB, c_neB, b_add, b_sub, x_len1, x_len2, x_tup1, x_tup2, x_lst1, x_abs, x_all, x_any, e_nil, e_cons, e_var, e_non, e_bl, e_int, e_str, e_tup, e_lst, e_bin, e_neg, e_cmp, e_chain, e_isn, e_and, e_or, e_and3, e_or3, e_not, e_ite, ifE_t, ifE_f, ifS_t, ifS_f, thenS_nx, thenS_er, thenS_rt, forS_nil, e_call, e_bi, e_isi, e_meth, e_ix, e_sl, e_rng1, e_enum, e_zip, e_lc, e_lcif, e_told, s_rse, s_nil', s_seq, s_set, s_own', s_par, s_parO, s_par3, s_frz, s_app, s_ret, s_ifs, s_fors, s_whl, s_ex, a_var, startE, List.map_cons, List.map_nil, List.length_cons, List.length_nil, List.cons_append, List.nil_append, List.append_nil, Nat.reduceAdd, Nat.reduceSub, Nat.zero_add, Nat.sub_self, List.replicate_zero, List.replicate_succ, Option.map_some, Option.bind_some, List.set_cons_zero, List.set_cons_succ, decide_true, decide_false, if_true, if_false, Bool.not_true, Bool.not_false, Bool.true_and, Bool.false_and, Bool.and_true, Bool.and_false, Bool.true_or, Bool.false_or, reduceIte, Bool.false_eq_true, eq_self, ne_eq, not_true_eq_false, not_false_eq_true, Bool.true_eq_false, List.length_map, List.length_range, List.length_append, e_rng2, e_trng, e_lenum, e_dget, e_dgets, e_rev, onS_str, a_tup, a_nil, a_cons, pt1, pt2, pt3, pt4]⟩
  have hwm : ∀ w ∈ wys n s, w.length = s ∧ ∀ i ∈ w, i < n := fun w hw => hwy w (List.mem_filter.mp hw).1
  have loop : ∀ x4 x5, ∃ y6 y8 y9 y10, forS (evCall allDefs (k + 5)) (.var 6) B102_2 ((wys n s).map nD) [.sh (tabD t), .sh (.int (n : Nat)), .ow (acc.map oD), .sh (.int (s : Nat)), x4, x5, x6, x7, x8, x9, x10] d = .nx [.sh (tabD t), .sh (.int (n : Nat)), .ow ((acc ++ sel (sgAt t) (wys n s)).map oD), .sh (.int (s : Nat)), x4, x5, y6, x7, y8, y9, y10] d := fun x4 x5 => by
    obtain ⟨⟨y6, y8, y9, y10⟩, e, _⟩ := for_fold (cf := evCall allDefs (k + 5)) (d := d) (tg := .var 6) (b := B102_2) (fun (acc : List (List Nat × Int)) (j : Sl × Sl × Sl × Sl) => [.sh (tabD t), .sh (.int (n : Nat)), .ow (acc.map oD), .sh (.int (s : Nat)), x4, x5, j.1, x7, j.2.1, j.2.2.1, j.2.2.2]) nD
      (fun acc w => acc ++ sel (sgAt t) [w]) (fun l acc => acc.length + l.length < 900 ∧ ∀ w ∈ l, w.length = s ∧ ∀ i ∈ w, i < n) (by
        rintro w l acc ⟨z6, z8, z9, z10⟩ ⟨h1, h2⟩
        simp only [List.length_cons] at h1
        obtain ⟨hl, hi⟩ := h2 w List.mem_cons_self
        have it : items (nD w) = some (w.map fun i => .int (i : Nat)) := rfl
        obtain ⟨y9, y10, e⟩ := cyc_way (k := k) (d := d) (x0 := .no) (x1 := .sh (.int (n : Nat))) (x2 := .ow (acc.map oD)) (x4 := x4) (x5 := x5) (x6 := .no) (x7 := x7) T hn hl (by omega) hi z9 z10
        have hlim2 : acc.length < lim := lt_lim (by omega)
        have sl1 := sel_len (sgAt t) [w]
        simp only [List.length_cons, List.length_nil] at sl1
        refine ⟨_, rfl, (.sh (nD w), .sh (.int (cyP (sgAt t) w)), y9, y10), ?_, by rw [List.length_append]; omega, fun q hq => h2 q (List.mem_cons_of_mem _ hq)⟩
        unfold B102_2
        simp only [onB_some, onD_bl, onI_int, onO_some, r_bind, r_err, r_of, r_noerr, r_out, r_oute, o_er, o_rese, told_ok, told_0, told_1, told_2, told_3, told_4, told_5, told_6, told_7, told_8, told_9, told_10, o_nx, o_rt, o_res, o_resn, o_ofE, t_bl, t_int, tups_t, i_lst, i_tup, i_str, put0, putS, get0, getS, getO0, getOS, wipe_nil, wipe_cons, c_lt, c_gt, c_le, c_ge, c_eqI, c_neI, c_eqS, c_neS, c_eqB, c_neB, b_add, b_sub, x_len1, x_len2, x_tup1, x_tup2, x_lst1, x_abs, x_all, x_any, e_nil, e_cons, e_var, e_non, e_bl, e_int, e_str, e_tup, e_lst, e_bin, e_neg, e_cmp, e_chain, e_isn, e_and, e_or, e_and3, e_or3, e_not, e_ite, ifE_t, ifE_f, ifS_t, ifS_f, thenS_nx, thenS_er, thenS_rt, forS_nil, e_call, e_bi, e_isi, e_meth, e_ix, e_sl, e_rng1, e_enum, e_zip, e_lc, e_lcif, e_told, s_rse, s_nil', s_seq, s_set, s_own', s_par, s_parO, s_par3, s_frz, s_app, s_ret, s_ifs, s_fors, s_whl, s_ex, a_var, startE, List.map_cons, List.map_nil, List.length_cons, List.length_nil, List.cons_append, List.nil_append, List.append_nil, Nat.reduceAdd, Nat.reduceSub, Nat.zero_add, Nat.sub_self, List.replicate_zero, List.replicate_succ, Option.map_some, Option.bind_some, List.set_cons_zero, List.set_cons_succ, decide_true, decide_false, if_true, if_false, Bool.not_true, Bool.not_false, Bool.true_and, Bool.false_and, Bool.and_true, Bool.and_false, Bool.true_or, Bool.false_or, reduceIte, Bool.false_eq_true, eq_self, ne_eq, not_true_eq_false, not_false_eq_true, Bool.true_eq_false, List.length_map, List.length_range, List.length_append, e_rng2, e_trng, e_lenum, e_dget, e_dgets, e_rev, onS_str, a_tup, a_nil, a_cons, pt1, pt2, pt3, pt4, it, enum_map]
        rw [e]
        by_cases h0 : cyP (sgAt t) w = 0
        · have e0 : sel (sgAt t) [w] = [] := by simp [sel, h0]
          rw [e0, List.append_nil]
          simp only [onB_some, onD_bl, onI_int, onO_some, r_bind, r_err, r_of, r_noerr, r_out, r_oute, o_er, o_rese, told_ok, told_0, told_1, told_2, told_3, told_4, told_5, told_6, told_7, told_8, told_9, told_10, o_nx, o_rt, o_res, o_resn, o_ofE, t_bl, t_int, tups_t, i_lst, i_tup, i_str, put0, putS, get0, getS, getO0, getOS, wipe_nil, wipe_cons, c_lt, c_gt, c_le, c_ge, c_eqI, c_neI, c_eqS, c_neS, c_eqB, c_neB, b_add, b_sub, x_len1, x_len2, x_tup1, x_tup2, x_lst1, x_abs, x_all, x_any, e_nil, e_cons, e_var, e_non, e_bl, e_int, e_str, e_tup, e_lst, e_bin, e_neg, e_cmp, e_chain, e_isn, e_and, e_or, e_and3, e_or3, e_not, e_ite, ifE_t, ifE_f, ifS_t, ifS_f, thenS_nx, thenS_er, thenS_rt, forS_nil, e_call, e_bi, e_isi, e_meth, e_ix, e_sl, e_rng1, e_enum, e_zip, e_lc, e_lcif, e_told, s_rse, s_nil', s_seq, s_set, s_own', s_par, s_parO, s_par3, s_frz, s_app, s_ret, s_ifs, s_fors, s_whl, s_ex, a_var, startE, List.map_cons, List.map_nil, List.length_cons, List.length_nil, List.cons_append, List.nil_append, List.append_nil, Nat.reduceAdd, Nat.reduceSub, Nat.zero_add, Nat.sub_self, List.replicate_zero, List.replicate_succ, Option.map_some, Option.bind_some, List.set_cons_zero, List.set_cons_succ, decide_true, decide_false, if_true, if_false, Bool.not_true, Bool.not_false, Bool.true_and, Bool.false_and, Bool.and_true, Bool.and_false, Bool.true_or, Bool.false_or, reduceIte, Bool.false_eq_true, eq_self, ne_eq, not_true_eq_false, not_false_eq_true, Bool.true_eq_false, List.length_map, List.length_range, List.length_append, e_rng2, e_trng, e_lenum, e_dget, e_dgets, e_rev, onS_str, a_tup, a_nil, a_cons, pt1, pt2, pt3, pt4, h0]
        · have e0 : sel (sgAt t) [w] = [(w, cyP (sgAt t) w)] := by simp [sel, h0]
          rw [e0]
          generalize cyP (sgAt t) w = z at *
          simp only [onB_some, onD_bl, onI_int, onO_some, r_bind, r_err, r_of, r_noerr, r_out, r_oute, o_er, o_rese, told_ok, told_0, told_1, told_2, told_3, told_4, told_5, told_6, told_7, told_8, told_9, told_10, o_nx, o_rt, o_res, o_resn, o_ofE, t_bl, t_int, tups_t, i_lst, i_tup, i_str, put0, putS, get0, getS, getO0, getOS, wipe_nil, wipe_cons, c_lt, c_gt, c_le, c_ge, c_eqI, c_neI, c_eqS, c_neS, c_eqB, c_neB, b_add, b_sub, x_len1, x_len2, x_tup1, x_tup2, x_lst1, x_abs, x_all, x_any, e_nil, e_cons, e_var, e_non, e_bl, e_int, e_str, e_tup, e_lst, e_bin, e_neg, e_cmp, e_chain, e_isn, e_and, e_or, e_and3, e_or3, e_not, e_ite, ifE_t, ifE_f, ifS_t, ifS_f, thenS_nx, thenS_er, thenS_rt, forS_nil, e_call, e_bi, e_isi, e_meth, e_ix, e_sl, e_rng1, e_enum, e_zip, e_lc, e_lcif, e_told, s_rse, s_nil', s_seq, s_set, s_own', s_par, s_parO, s_par3, s_frz, s_app, s_ret, s_ifs, s_fors, s_whl, s_ex, a_var, startE, List.map_cons, List.map_nil, List.length_cons, List.length_nil, List.cons_append, List.nil_append, List.append_nil, Nat.reduceAdd, Nat.reduceSub, Nat.zero_add, Nat.sub_self, List.replicate_zero, List.replicate_succ, Option.map_some, Option.bind_some, List.set_cons_zero, List.set_cons_succ, decide_true, decide_false, if_true, if_false, Bool.not_true, Bool.not_false, Bool.true_and, Bool.false_and, Bool.and_true, Bool.and_false, Bool.true_or, Bool.false_or, reduceIte, Bool.false_eq_true, eq_self, ne_eq, not_true_eq_false, not_false_eq_true, Bool.true_eq_false, List.length_map, List.length_range, List.length_append, e_rng2, e_trng, e_lenum, e_dget, e_dgets, e_rev, onS_str, a_tup, a_nil, a_cons, pt1, pt2, pt3, pt4, h0, hlim2]
          simp [oD]) (wys n s) acc (x6, x8, x9, x10) ⟨ha, hwm⟩
    have ef : (wys n s).foldl (fun acc w => acc ++ sel (sgAt t) [w]) acc = acc ++ sel (sgAt t) (wys n s) := by
      generalize wys n s = l
      induction l generalizing acc with
      | nil => simp [sel]
      | cons w l ih =>
        have e := sel_app (sgAt t) [w] l
        rw [List.cons_append, List.nil_append] at e
        have ih' : ∀ a, l.foldl (fun acc w => acc ++ sel (sgAt t) [w]) a = a ++ sel (sgAt t) l := fun a => by
          clear ih e
          induction l generalizing a with
          | nil => simp [sel]
          | cons w l ih2 =>
            have e := sel_app (sgAt t) [w] l
            rw [List.cons_append, List.nil_append] at e
            rw [List.foldl_cons, ih2, e, List.append_assoc]
        rw [List.foldl_cons, ih', e, List.append_assoc]
    rw [ef] at e
    exact ⟨y6, y8, y9, y10, e⟩
  obtain ⟨y6, y8, y9, y10, e⟩ := loop (.sh (.lst ((wy n s).map nD))) x5
  refine ⟨.sh (.lst ((wy n s).map nD)), x5, y6, x7, y8, y9, y10, ?_⟩
  unfold B102_1
  simp only [onB_some, onD_bl, onI_int, onO_some, r_bind, r_err, r_of, r_noerr, r_out, r_oute, o_er, o_rese, told_ok, told_0, told_1, told_2, told_3, told_4, told_5, told_6, told_7, told_8, told_9, told_10, o_nx, o_rt, o_res, o_resn, o_ofE, t_bl, t_int, tups_t, i_lst, i_tup, i_str, put0, putS, get0, getS, getO0, getOS, wipe_nil, wipe_cons, c_lt, c_gt, c_le, c_ge, c_eqI, c_neI, c_eqS, c_neS, c_eqB, c_neB, b_add, b_sub, x_len1, x_len2, x_tup1, x_tup2, x_lst1, x_abs, x_all, x_any, e_nil, e_cons, e_var, e_non, e_bl, e_int, e_str, e_tup, e_lst, e_bin, e_neg, e_cmp, e_chain, e_isn, e_and, e_or, e_and3, e_or3, e_not, e_ite, ifE_t, ifE_f, ifS_t, ifS_f, thenS_nx, thenS_er, thenS_rt, forS_nil, e_call, e_bi, e_isi, e_meth, e_ix, e_sl, e_rng1, e_enum, e_zip, e_lc, e_lcif, e_told, s_rse, s_nil', s_seq, s_set, s_own', s_par, s_parO, s_par3, s_frz, s_app, s_ret, s_ifs, s_fors, s_whl, s_ex, a_var, startE, List.map_cons, List.map_nil, List.length_cons, List.length_nil, List.cons_append, List.nil_append, List.append_nil, Nat.reduceAdd, Nat.reduceSub, Nat.zero_add, Nat.sub_self, List.replicate_zero, List.replicate_succ, Option.map_some, Option.bind_some, List.set_cons_zero, List.set_cons_succ, decide_true, decide_false, if_true, if_false, Bool.not_true, Bool.not_false, Bool.true_and, Bool.false_and, Bool.and_true, Bool.and_false, Bool.true_or, Bool.false_or, reduceIte, Bool.false_eq_true, eq_self, ne_eq, not_true_eq_false, not_false_eq_true, Bool.true_eq_false, List.length_map, List.length_range, List.length_append, e_rng2, e_trng, e_lenum, e_dget, e_dgets, e_rev, onS_str, a_tup, a_nil, a_cons, pt1, pt2, pt3, pt4, smallR_nat (show n < 1000 by omega), nD_trng, f28, hlim, lc, e_ssort, onLs_lst, sr, hwl, lc2]
  rw [e]
  simp only [onB_some, onD_bl, onI_int, onO_some, r_bind, r_err, r_of, r_noerr, r_out, r_oute, o_er, o_rese, told_ok, told_0, told_1, told_2, told_3, told_4, told_5, told_6, told_7, told_8, told_9, told_10, o_nx, o_rt, o_res, o_resn, o_ofE, t_bl, t_int, tups_t, i_lst, i_tup, i_str, put0, putS, get0, getS, getO0, getOS, wipe_nil, wipe_cons, c_lt, c_gt, c_le, c_ge, c_eqI, c_neI, c_eqS, c_neS, c_eqB, c_neB, b_add, b_sub, x_len1, x_len2, x_tup1, x_tup2, x_lst1, x_abs, x_all, x_any, e_nil, e_cons, e_var, e_non, e_bl, e_int, e_str, e_tup, e_lst, e_bin, e_neg, e_cmp, e_chain, e_isn, e_and, e_or, e_and3, e_or3, e_not, e_ite, ifE_t, ifE_f, ifS_t, ifS_f, thenS_nx, thenS_er, thenS_rt, forS_nil, e_call, e_bi, e_isi, e_meth, e_ix, e_sl, e_rng1, e_enum, e_zip, e_lc, e_lcif, e_told, s_rse, s_nil', s_seq, s_set, s_own', s_par, s_parO, s_par3, s_frz, s_app, s_ret, s_ifs, s_fors, s_whl, s_ex, a_var, startE, List.map_cons, List.map_nil, List.length_cons, List.length_nil, List.cons_append, List.nil_append, List.append_nil, Nat.reduceAdd, Nat.reduceSub, Nat.zero_add, Nat.sub_self, List.replicate_zero, List.replicate_succ, Option.map_some, Option.bind_some, List.set_cons_zero, List.set_cons_succ, decide_true, decide_false, if_true, if_false, Bool.not_true, Bool.not_false, Bool.true_and, Bool.false_and, Bool.and_true, Bool.and_false, Bool.true_or, Bool.false_or, reduceIte, Bool.false_eq_true, eq_self, ne_eq, not_true_eq_false, not_false_eq_true, Bool.true_eq_false, List.length_map, List.length_range, List.length_append, e_rng2, e_trng, e_lenum, e_dget, e_dgets, e_rev, onS_str, a_tup, a_nil, a_cons, pt1, pt2, pt3, pt4]
theorem c_cyc102 (T : Tab t n n) (hn : 1 ≤ n ∧ n ≤ 4) : evCall allDefs (k + 6) 102 [tabD t] d = .ok (.lst ((sel (sgAt t) (cand n)).map oD)) d := by
  rw [call_eq (df := Fall_cycles) rfl rfl]
  unfold Fall_cycles
  have cl := (cand_ok hn.2).1
  have sm : smallR 2 ((n : Int) + 1) = true := by
    have := smallR2 (a := 2) (b := n + 1) (by omega) (by omega)
    exact this
  have rg : rangeL 2 ((n : Int) + 1) = (List.range' 2 (n - 1)).map fun i => .int (i : Nat) := by
    have := range2_map 2 (n + 1)
    rw [show n + 1 - 2 = n - 1 by omega] at this
    exact this
  simp only [onB_some, onD_bl, onI_int, onO_some, r_bind, r_err, r_of, r_noerr, r_out, r_oute, o_er, o_rese, told_ok, told_0, told_1, told_2, told_3, told_4, told_5, told_6, told_7, told_8, told_9, told_10, o_nx, o_rt, o_res, o_resn, o_ofE, t_bl, t_int, tups_t, i_lst, i_tup, i_str, put0, putS, get0, getS, getO0, getOS, wipe_nil, wipe_cons, c_lt, c_gt, c_le, c_ge, c_eqI, c_neI, c_eqS, c_neS, c_eqB, c_neB, b_add, b_sub, x_len1, x_len2, x_tup1, x_tup2, x_lst1, x_abs, x_all, x_any, e_nil, e_cons, e_var, e_non, e_bl, e_int, e_str, e_tup, e_lst, e_bin, e_neg, e_cmp, e_chain, e_isn, e_and, e_or, e_and3, e_or3, e_not, e_ite, ifE_t, ifE_f, ifS_t, ifS_f, thenS_nx, thenS_er, thenS_rt, forS_nil, e_call, e_bi, e_isi, e_meth, e_ix, e_sl, e_rng1, e_enum, e_zip, e_lc, e_lcif, e_told, s_rse, s_nil', s_seq, s_set, s_own', s_par, s_parO, s_par3, s_frz, s_app, s_ret, s_ifs, s_fors, s_whl, s_ex, a_var, startE, List.map_cons, List.map_nil, List.length_cons, List.length_nil, List.cons_append, List.nil_append, List.append_nil, Nat.reduceAdd, Nat.reduceSub, Nat.zero_add, Nat.sub_self, List.replicate_zero, List.replicate_succ, Option.map_some, Option.bind_some, List.set_cons_zero, List.set_cons_succ, decide_true, decide_false, if_true, if_false, Bool.not_true, Bool.not_false, Bool.true_and, Bool.false_and, Bool.and_true, Bool.and_false, Bool.true_or, Bool.false_or, reduceIte, Bool.false_eq_true, eq_self, ne_eq, not_true_eq_false, not_false_eq_true, Bool.true_eq_false, List.length_map, List.length_range, List.length_append, e_rng2, e_trng, e_lenum, e_dget, e_dgets, e_rev, onS_str, a_tup, a_nil, a_cons, pt1, pt2, pt3, pt4, tab_len T, sm, rg]
  obtain ⟨⟨y3, y4, y5, y6, y7, y8, y9, y10⟩, e, _⟩ := for_fold (cf := evCall allDefs (k + 5)) (d := d) (tg := .var 3) (b := B102_1) (fun (acc : List (List Nat × Int)) (j : Sl × Sl × Sl × Sl × Sl × Sl × Sl × Sl) => [.sh (tabD t), .sh (.int (n : Nat)), .ow (acc.map oD), j.1, j.2.1, j.2.2.1, j.2.2.2.1, j.2.2.2.2.1, j.2.2.2.2.2.1, j.2.2.2.2.2.2.1, j.2.2.2.2.2.2.2]) (fun s : Nat => .int (s : Nat))
    (fun acc s => acc ++ sel (sgAt t) (wys n s)) (fun l acc => acc.length + (l.flatMap (wys n)).length ≤ 20 ∧ ∀ s ∈ l, 2 ≤ s ∧ s ≤ n) (by
      rintro s l acc ⟨z3, z4, z5, z6, z7, z8, z9, z10⟩ ⟨h1, h2⟩
      rw [List.flatMap_cons, List.length_append] at h1
      obtain ⟨y4, y5, y6, y7, y8, y9, y10, e⟩ := cyc_size (k := k) (d := d) (x1 := .no) T hn.2 (h2 s List.mem_cons_self) acc (by omega) z4 z5 z6 z7 z8 z9 z10
      refine ⟨_, rfl, (.sh (.int (s : Nat)), y4, y5, y6, y7, y8, y9, y10), e, ?_, fun q hq => h2 q (List.mem_cons_of_mem _ hq)⟩
      have := sel_len (sgAt t) (wys n s)
      rw [List.length_append]; omega) (List.range' 2 (n - 1)) [] (.no, .no, .no, .no, .no, .no, .no, .no) ⟨by simpa [cand] using cl, fun s hs => by rw [List.mem_range'_1] at hs; omega⟩
  simp only [List.map_nil] at e
  rw [e]
  have ef : ∀ (l : List Nat) (a : List (List Nat × Int)), l.foldl (fun acc s => acc ++ sel (sgAt t) (wys n s)) a = a ++ sel (sgAt t) (l.flatMap (wys n)) := fun l => by
    induction l with
    | nil => intro a; simp [sel]
    | cons s l ih => intro a; rw [List.foldl_cons, ih, List.flatMap_cons, sel_app, List.append_assoc]
  rw [ef, List.nil_append]
  simp only [onB_some, onD_bl, onI_int, onO_some, r_bind, r_err, r_of, r_noerr, r_out, r_oute, o_er, o_rese, told_ok, told_0, told_1, told_2, told_3, told_4, told_5, told_6, told_7, told_8, told_9, told_10, o_nx, o_rt, o_res, o_resn, o_ofE, t_bl, t_int, tups_t, i_lst, i_tup, i_str, put0, putS, get0, getS, getO0, getOS, wipe_nil, wipe_cons, c_lt, c_gt, c_le, c_ge, c_eqI, c_neI, c_eqS, c_neS, c_eqB, c_neB, b_add, b_sub, x_len1, x_len2, x_tup1, x_tup2, x_lst1, x_abs, x_all, x_any, e_nil, e_cons, e_var, e_non, e_bl, e_int, e_str, e_tup, e_lst, e_bin, e_neg, e_cmp, e_chain, e_isn, e_and, e_or, e_and3, e_or3, e_not, e_ite, ifE_t, ifE_f, ifS_t, ifS_f, thenS_nx, thenS_er, thenS_rt, forS_nil, e_call, e_bi, e_isi, e_meth, e_ix, e_sl, e_rng1, e_enum, e_zip, e_lc, e_lcif, e_told, s_rse, s_nil', s_seq, s_set, s_own', s_par, s_parO, s_par3, s_frz, s_app, s_ret, s_ifs, s_fors, s_whl, s_ex, a_var, startE, List.map_cons, List.map_nil, List.length_cons, List.length_nil, List.cons_append, List.nil_append, List.append_nil, Nat.reduceAdd, Nat.reduceSub, Nat.zero_add, Nat.sub_self, List.replicate_zero, List.replicate_succ, Option.map_some, Option.bind_some, List.set_cons_zero, List.set_cons_succ, decide_true, decide_false, if_true, if_false, Bool.not_true, Bool.not_false, Bool.true_and, Bool.false_and, Bool.and_true, Bool.and_false, Bool.true_or, Bool.false_or, reduceIte, Bool.false_eq_true, eq_self, ne_eq, not_true_eq_false, not_false_eq_true, Bool.true_eq_false, List.length_map, List.length_range, List.length_append, e_rng2, e_trng, e_lenum, e_dget, e_dgets, e_rev, onS_str, a_tup, a_nil, a_cons, pt1, pt2, pt3, pt4]
  rfl
end
end SG
namespace SG
mutual
theorem eq_refl : ∀ {x : D}, x.dep ≤ 64 → D.eq x x = true
  | .non, _ => rfl
  | .bl b, _ => by cases b <;> rfl
  | .int i, _ => by simp [D.eq]
  | .str s, _ => by simp [D.eq]
  | .die, h => by simp [D.dep] at h
  | .tup xs, h => eqs_refl (by simp [D.dep] at h; omega)
  | .lst xs, h => eqs_refl (by simp [D.dep] at h; omega)
theorem eqs_refl : ∀ {xs : List D}, D.deps xs ≤ 64 → D.eqs xs xs = true
  | [], _ => rfl
  | x :: xs, h => by
    have h' : x.dep ≤ 64 ∧ D.deps xs ≤ 64 := by simp [D.deps] at h; omega
    simp [D.eqs, eq_refl h'.1, eqs_refl h'.2]
end
theorem depsLe {c : Nat} : ∀ {xs : List D}, (∀ x ∈ xs, x.dep ≤ c) → D.deps xs ≤ c
  | [], _ => by simp [D.deps]
  | x :: xs, h => by
    have h1 := h x List.mem_cons_self
    have h2 := depsLe (xs := xs) fun y hy => h y (List.mem_cons_of_mem _ hy)
    simp [D.deps]; omega
theorem dep_tup {c : Nat} {xs : List D} (h : ∀ x ∈ xs, x.dep ≤ c) : (D.tup xs).dep ≤ c + 1 := by have := depsLe h; simp [D.dep]; omega
theorem dep_lst {c : Nat} {xs : List D} (h : ∀ x ∈ xs, x.dep ≤ c) : (D.lst xs).dep ≤ c + 1 := by have := depsLe h; simp [D.dep]; omega
theorem ne_same {x : D} (h : x.dep ≤ 64) : opCmp .ne x x = some false := by simp only [opCmp, h, decide_true, Bool.and_self, if_true, eq_refl h]; rfl
theorem eq_same {x : D} (h : x.dep ≤ 64) : opCmp .eq x x = some true := by simp only [opCmp, h, decide_true, Bool.and_self, if_true, eq_refl h]
end SG
namespace SG
theorem ix_lastN {w : List Nat} (h : w ≠ []) : opIx (nD w) (.int (-1)) = some (.int (lastN w : Nat)) := by
  have hl : 0 < w.length := by cases w with | nil => exact absurd rfl h | cons a r => simp
  have e : lastN w = w[w.length - 1] := by
    unfold lastN
    rw [List.getLastD_eq_getLast?, List.getLast?_eq_some_getLast h, List.getLast_eq_getElem]; rfl
  have hp : ixP (w.map fun i => D.int (i : Nat)).length (-1) = some (w.length - 1) := by
    simp only [ixP, List.length_map]
    rw [if_neg (by decide), if_pos (by omega)]
    congr 1
    omega
  show atP (w.map fun i => D.int (i : Nat)) (-1) = _
  unfold atP
  rw [hp, Option.bind_some, List.getElem?_map, List.getElem?_eq_getElem (by omega), e]; rfl
def WsOk (n : Nat) (ws : List (List Nat × Int)) : Prop := ∀ p ∈ ws, p.1 ≠ [] ∧ (∀ x ∈ p.1, x < n) ∧ p.1.length < 100
theorem oDs_ne {ws : List (List Nat × Int)} : opCmp .ne (.lst (ws.map oD)) (.lst []) = some (decide (ws ≠ [])) := by
  cases ws with
  | nil => rfl
  | cons x r =>
    have h1 : (D.lst ((x :: r).map oD)).dep ≤ 64 := Nat.le_trans (dep_lst (c := 2) fun y hy => by
      obtain ⟨p, _, rfl⟩ := List.mem_map.mp hy
      refine dep_tup (c := 1) fun z hz => ?_
      simp only [List.mem_cons, List.not_mem_nil, or_false] at hz
      rcases hz with rfl | rfl
      · exact dep_tup (c := 0) fun x hx => by obtain ⟨i, _, rfl⟩ := List.mem_map.mp hx; exact Nat.le_refl 0
      · exact Nat.zero_le _) (by decide)
    have h2 : (D.lst []).dep ≤ 64 := by decide
    simp only [opCmp, h1, h2, decide_true, Bool.and_self, if_true]
    rfl
section
variable {k n i : Nat} {t : List (List Nat)} {d : Dice}
theorem cyc_more {f : D} {x3 x8 : Sl} {p : List Nat × Int} (T : Tab t n n) (hn : n ≤ 4) (hi : i < n) (h1 : p.1 ≠ []) (h2 : ∀ x ∈ p.1, x < n) (h3 : p.1.length < 100) (acc : List (List Nat × Int)) (ha : acc.length < 800) (x7 : Sl) : ∃ y7, evS (evCall allDefs (k + 1)) B105_3 [.sh (tabD t), .sh f, .sh (.int (i : Nat)), x3, .ow (acc.map oD), .sh (nD p.1), .sh (.int p.2), x7, x8] d = .nx [.sh (tabD t), .sh f, .sh (.int (i : Nat)), x3, .ow ((acc ++ pStep (sgAt t) n i [p]).map oD), .sh (nD p.1), .sh (.int p.2), y7, x8] d := by
  have hlast := h2 _ (lastN_mem h1)
  have sm : smallR ((i : Int) + 1) (n : Nat) = true := smallR2 (a := i + 1) (b := n) (by omega) (by omega)
  have rg : rangeL ((i : Int) + 1) (n : Nat) = (List.range' (i + 1) (n - (i + 1))).map fun j => .int (j : Nat) := range2_map (i + 1) n
  obtain ⟨e1, _, e2⟩ := tab_at T hlast (show n < 1000 by omega)
  have il := ix_lastN h1
  obtain ⟨y7, e, _⟩ := for_fold (cf := evCall allDefs (k + 1)) (d := d) (tg := .var 7) (b := B105_4) (fun (acc : List (List Nat × Int)) (z : Sl) => [.sh (tabD t), .sh f, .sh (.int (i : Nat)), x3, .ow (acc.map oD), .sh (nD p.1), .sh (.int p.2), z, x8]) (fun j : Nat => .int (j : Nat))
    (fun acc j => if (!p.1.contains j && decide (sgAt t (lastN p.1) j ≠ 48)) = true then acc ++ [(p.1 ++ [j], p.2 * val (sgAt t (lastN p.1) j))] else acc) (fun l acc => acc.length + l.length < 900 ∧ ∀ j ∈ l, j < n) (by
      rintro j l acc z ⟨g1, g2⟩
      simp only [List.length_cons] at g1
      have hj := g2 j List.mem_cons_self
      obtain ⟨e3, sg⟩ := e2 j hj
      refine ⟨_, rfl, .sh (.int (j : Nat)), ?_, by
        split
        · simp; omega
        · omega, fun q hq => g2 q (List.mem_cons_of_mem _ hq)⟩
      have ni := notin_nD (x := j) (l := p.1)
      unfold B105_4
      cases hc : p.1.contains j with
      | true =>
        rw [hc] at ni
        simp only [Bool.not_true, Bool.false_and, Bool.false_eq_true, if_false]
        simp only [onB_some, onD_bl, onI_int, onO_some, r_bind, r_err, r_of, r_noerr, r_out, r_oute, o_er, o_rese, told_ok, told_0, told_1, told_2, told_3, told_4, told_5, told_6, told_7, told_8, told_9, told_10, o_nx, o_rt, o_res, o_resn, o_ofE, t_bl, t_int, tups_t, i_lst, i_tup, i_str, put0, putS, get0, getS, getO0, getOS, wipe_nil, wipe_cons, c_lt, c_gt, c_le, c_ge, c_eqI, c_neI, c_eqS, c_neS, c_eqB, c_neB, b_add, b_sub, x_len1, x_len2, x_tup1, x_tup2, x_lst1, x_abs, x_all, x_any, e_nil, e_cons, e_var, e_non, e_bl, e_int, e_str, e_tup, e_lst, e_bin, e_neg, e_cmp, e_chain, e_isn, e_and, e_or, e_and3, e_or3, e_not, e_ite, ifE_t, ifE_f, ifS_t, ifS_f, thenS_nx, thenS_er, thenS_rt, forS_nil, e_call, e_bi, e_isi, e_meth, e_ix, e_sl, e_rng1, e_enum, e_zip, e_lc, e_lcif, e_told, s_rse, s_nil', s_seq, s_set, s_own', s_par, s_parO, s_par3, s_frz, s_app, s_ret, s_ifs, s_fors, s_whl, s_ex, a_var, startE, List.map_cons, List.map_nil, List.length_cons, List.length_nil, List.cons_append, List.nil_append, List.append_nil, Nat.reduceAdd, Nat.reduceSub, Nat.zero_add, Nat.sub_self, List.replicate_zero, List.replicate_succ, Option.map_some, Option.bind_some, List.set_cons_zero, List.set_cons_succ, decide_true, decide_false, if_true, if_false, Bool.not_true, Bool.not_false, Bool.true_and, Bool.false_and, Bool.and_true, Bool.and_false, Bool.true_or, Bool.false_or, reduceIte, Bool.false_eq_true, eq_self, ne_eq, not_true_eq_false, not_false_eq_true, Bool.true_eq_false, List.length_map, List.length_range, List.length_append, e_rng2, e_trng, e_lenum, e_dget, e_dgets, e_rev, onS_str, a_tup, a_nil, a_cons, pt1, pt2, pt3, pt4, ni]
      | false =>
        rw [hc] at ni
        by_cases hz : sgAt t (lastN p.1) j = 48
        · have ne : opCmp .ne (.str [sgAt t (lastN p.1) j]) (.str [48]) = some false := by rw [hz]; rfl
          rw [decide_eq_false (fun q => q hz), Bool.and_false, if_neg (by decide)]
          simp only [onB_some, onD_bl, onI_int, onO_some, r_bind, r_err, r_of, r_noerr, r_out, r_oute, o_er, o_rese, told_ok, told_0, told_1, told_2, told_3, told_4, told_5, told_6, told_7, told_8, told_9, told_10, o_nx, o_rt, o_res, o_resn, o_ofE, t_bl, t_int, tups_t, i_lst, i_tup, i_str, put0, putS, get0, getS, getO0, getOS, wipe_nil, wipe_cons, c_lt, c_gt, c_le, c_ge, c_eqI, c_neI, c_eqS, c_neS, c_eqB, c_neB, b_add, b_sub, x_len1, x_len2, x_tup1, x_tup2, x_lst1, x_abs, x_all, x_any, e_nil, e_cons, e_var, e_non, e_bl, e_int, e_str, e_tup, e_lst, e_bin, e_neg, e_cmp, e_chain, e_isn, e_and, e_or, e_and3, e_or3, e_not, e_ite, ifE_t, ifE_f, ifS_t, ifS_f, thenS_nx, thenS_er, thenS_rt, forS_nil, e_call, e_bi, e_isi, e_meth, e_ix, e_sl, e_rng1, e_enum, e_zip, e_lc, e_lcif, e_told, s_rse, s_nil', s_seq, s_set, s_own', s_par, s_parO, s_par3, s_frz, s_app, s_ret, s_ifs, s_fors, s_whl, s_ex, a_var, startE, List.map_cons, List.map_nil, List.length_cons, List.length_nil, List.cons_append, List.nil_append, List.append_nil, Nat.reduceAdd, Nat.reduceSub, Nat.zero_add, Nat.sub_self, List.replicate_zero, List.replicate_succ, Option.map_some, Option.bind_some, List.set_cons_zero, List.set_cons_succ, decide_true, decide_false, if_true, if_false, Bool.not_true, Bool.not_false, Bool.true_and, Bool.false_and, Bool.and_true, Bool.and_false, Bool.true_or, Bool.false_or, reduceIte, Bool.false_eq_true, eq_self, ne_eq, not_true_eq_false, not_false_eq_true, Bool.true_eq_false, List.length_map, List.length_range, List.length_append, e_rng2, e_trng, e_lenum, e_dget, e_dgets, e_rev, onS_str, a_tup, a_nil, a_cons, pt1, pt2, pt3, pt4, ni, il, e1, e3, ne]
        · have ne : opCmp .ne (.str [sgAt t (lastN p.1) j]) (.str [48]) = some true := by
            simp [opCmp, D.dep, D.eq, hz]
          rw [decide_eq_true hz, Bool.not_false, Bool.true_and, if_pos rfl]
          have ad : opBin .add (nD p.1) (.tup [.int (j : Nat)]) = some (nD (p.1 ++ [j])) := by
            unfold nD
            rw [add_tup (by simp; omega)]; simp
          have hl2 : acc.length < lim := lt_lim (by omega)
          generalize lastN p.1 = L at *
          simp only [onB_some, onD_bl, onI_int, onO_some, r_bind, r_err, r_of, r_noerr, r_out, r_oute, o_er, o_rese, told_ok, told_0, told_1, told_2, told_3, told_4, told_5, told_6, told_7, told_8, told_9, told_10, o_nx, o_rt, o_res, o_resn, o_ofE, t_bl, t_int, tups_t, i_lst, i_tup, i_str, put0, putS, get0, getS, getO0, getOS, wipe_nil, wipe_cons, c_lt, c_gt, c_le, c_ge, c_eqI, c_neI, c_eqS, c_neS, c_eqB, c_neB, b_add, b_sub, x_len1, x_len2, x_tup1, x_tup2, x_lst1, x_abs, x_all, x_any, e_nil, e_cons, e_var, e_non, e_bl, e_int, e_str, e_tup, e_lst, e_bin, e_neg, e_cmp, e_chain, e_isn, e_and, e_or, e_and3, e_or3, e_not, e_ite, ifE_t, ifE_f, ifS_t, ifS_f, thenS_nx, thenS_er, thenS_rt, forS_nil, e_call, e_bi, e_isi, e_meth, e_ix, e_sl, e_rng1, e_enum, e_zip, e_lc, e_lcif, e_told, s_rse, s_nil', s_seq, s_set, s_own', s_par, s_parO, s_par3, s_frz, s_app, s_ret, s_ifs, s_fors, s_whl, s_ex, a_var, startE, List.map_cons, List.map_nil, List.length_cons, List.length_nil, List.cons_append, List.nil_append, List.append_nil, Nat.reduceAdd, Nat.reduceSub, Nat.zero_add, Nat.sub_self, List.replicate_zero, List.replicate_succ, Option.map_some, Option.bind_some, List.set_cons_zero, List.set_cons_succ, decide_true, decide_false, if_true, if_false, Bool.not_true, Bool.not_false, Bool.true_and, Bool.false_and, Bool.and_true, Bool.and_false, Bool.true_or, Bool.false_or, reduceIte, Bool.false_eq_true, eq_self, ne_eq, not_true_eq_false, not_false_eq_true, Bool.true_eq_false, List.length_map, List.length_range, List.length_append, e_rng2, e_trng, e_lenum, e_dget, e_dgets, e_rev, onS_str, a_tup, a_nil, a_cons, pt1, pt2, pt3, pt4, ni, il, e1, e3, ne, ad, c_value sg, mulR (val_s64 (c := sgAt t L j)), hl2]
          simp [oD]) (List.range' (i + 1) (n - (i + 1))) acc x7 ⟨by simp; omega, fun j hj => by rw [List.mem_range'_1] at hj; omega⟩
  refine ⟨y7, ?_⟩
  unfold B105_3
  simp only [onB_some, onD_bl, onI_int, onO_some, r_bind, r_err, r_of, r_noerr, r_out, r_oute, o_er, o_rese, told_ok, told_0, told_1, told_2, told_3, told_4, told_5, told_6, told_7, told_8, told_9, told_10, o_nx, o_rt, o_res, o_resn, o_ofE, t_bl, t_int, tups_t, i_lst, i_tup, i_str, put0, putS, get0, getS, getO0, getOS, wipe_nil, wipe_cons, c_lt, c_gt, c_le, c_ge, c_eqI, c_neI, c_eqS, c_neS, c_eqB, c_neB, b_add, b_sub, x_len1, x_len2, x_tup1, x_tup2, x_lst1, x_abs, x_all, x_any, e_nil, e_cons, e_var, e_non, e_bl, e_int, e_str, e_tup, e_lst, e_bin, e_neg, e_cmp, e_chain, e_isn, e_and, e_or, e_and3, e_or3, e_not, e_ite, ifE_t, ifE_f, ifS_t, ifS_f, thenS_nx, thenS_er, thenS_rt, forS_nil, e_call, e_bi, e_isi, e_meth, e_ix, e_sl, e_rng1, e_enum, e_zip, e_lc, e_lcif, e_told, s_rse, s_nil', s_seq, s_set, s_own', s_par, s_parO, s_par3, s_frz, s_app, s_ret, s_ifs, s_fors, s_whl, s_ex, a_var, startE, List.map_cons, List.map_nil, List.length_cons, List.length_nil, List.cons_append, List.nil_append, List.append_nil, Nat.reduceAdd, Nat.reduceSub, Nat.zero_add, Nat.sub_self, List.replicate_zero, List.replicate_succ, Option.map_some, Option.bind_some, List.set_cons_zero, List.set_cons_succ, decide_true, decide_false, if_true, if_false, Bool.not_true, Bool.not_false, Bool.true_and, Bool.false_and, Bool.and_true, Bool.and_false, Bool.true_or, Bool.false_or, reduceIte, Bool.false_eq_true, eq_self, ne_eq, not_true_eq_false, not_false_eq_true, Bool.true_eq_false, List.length_map, List.length_range, List.length_append, e_rng2, e_trng, e_lenum, e_dget, e_dgets, e_rev, onS_str, a_tup, a_nil, a_cons, pt1, pt2, pt3, pt4, tab_len T, sm, rg]
  rw [e, foldl_if]
  have : pStep (sgAt t) n i [p] = ((List.range' (i + 1) (n - (i + 1))).filter fun j => !p.1.contains j && decide (sgAt t (lastN p.1) j ≠ 48)).map fun j => (p.1 ++ [j], p.2 * val (sgAt t (lastN p.1) j)) := by simp [pStep]
  rw [this]
  simp only [onB_some, onD_bl, onI_int, onO_some, r_bind, r_err, r_of, r_noerr, r_out, r_oute, o_er, o_rese, told_ok, told_0, told_1, told_2, told_3, told_4, told_5, told_6, told_7, told_8, told_9, told_10, o_nx, o_rt, o_res, o_resn, o_ofE, t_bl, t_int, tups_t, i_lst, i_tup, i_str, put0, putS, get0, getS, getO0, getOS, wipe_nil, wipe_cons, c_lt, c_gt, c_le, c_ge, c_eqI, c_neI, c_eqS, c_neS, c_eqB, c_neB, b_add, b_sub, x_len1, x_len2, x_tup1, x_tup2, x_lst1, x_abs, x_all, x_any, e_nil, e_cons, e_var, e_non, e_bl, e_int, e_str, e_tup, e_lst, e_bin, e_neg, e_cmp, e_chain, e_isn, e_and, e_or, e_and3, e_or3, e_not, e_ite, ifE_t, ifE_f, ifS_t, ifS_f, thenS_nx, thenS_er, thenS_rt, forS_nil, e_call, e_bi, e_isi, e_meth, e_ix, e_sl, e_rng1, e_enum, e_zip, e_lc, e_lcif, e_told, s_rse, s_nil', s_seq, s_set, s_own', s_par, s_parO, s_par3, s_frz, s_app, s_ret, s_ifs, s_fors, s_whl, s_ex, a_var, startE, List.map_cons, List.map_nil, List.length_cons, List.length_nil, List.cons_append, List.nil_append, List.append_nil, Nat.reduceAdd, Nat.reduceSub, Nat.zero_add, Nat.sub_self, List.replicate_zero, List.replicate_succ, Option.map_some, Option.bind_some, List.set_cons_zero, List.set_cons_succ, decide_true, decide_false, if_true, if_false, Bool.not_true, Bool.not_false, Bool.true_and, Bool.false_and, Bool.and_true, Bool.and_false, Bool.true_or, Bool.false_or, reduceIte, Bool.false_eq_true, eq_self, ne_eq, not_true_eq_false, not_false_eq_true, Bool.true_eq_false, List.length_map, List.length_range, List.length_append, e_rng2, e_trng, e_lenum, e_dget, e_dgets, e_rev, onS_str, a_tup, a_nil, a_cons, pt1, pt2, pt3, pt4]
theorem pStep_len {n i : Nat} {c : Nat → Nat → Nat} (hn : n ≤ 4) : ∀ (ws : List (List Nat × Int)), (pStep c n i ws).length ≤ ws.length * 3
  | [] => by simp [pStep]
  | p :: ws => by
    have e : pStep c n i (p :: ws) = pStep c n i [p] ++ pStep c n i ws := by simp [pStep]
    have h1 : (pStep c n i [p]).length ≤ 3 := by
      simp only [pStep, List.flatMap_cons, List.flatMap_nil, List.append_nil, List.length_map]
      refine Nat.le_trans (List.length_filter_le _ _) ?_
      rw [List.length_range']; omega
    have := pStep_len (c := c) (i := i) hn ws
    rw [e, List.length_append, List.length_cons]
    omega
theorem wsOk_step {ws : List (List Nat × Int)} (h : ∀ p ∈ ws, p.1 ≠ [] ∧ (∀ x ∈ p.1, x < n) ∧ p.1.length + 1 < 100) {c : Nat → Nat → Nat} : WsOk n (pStep c n i ws) := fun q hq => by
  obtain ⟨p, hp, hq⟩ := List.mem_flatMap.mp hq
  obtain ⟨j, hj, rfl⟩ := List.mem_map.mp hq
  obtain ⟨h1, h2, h3⟩ := h p hp
  have hj' := (List.mem_filter.mp hj).1
  rw [List.mem_range'_1] at hj'
  refine ⟨by simp, fun x hx => ?_, by simp; omega⟩
  rcases List.mem_append.mp hx with z | z
  · exact h2 x z
  · rw [List.mem_singleton.mp z]; omega
theorem cyc_turn {found ws : List (List Nat × Int)} (T : Tab t n n) (hn : n ≤ 4) (hi : i < n) (hw : ∀ p ∈ ws, p.1 ≠ [] ∧ (∀ x ∈ p.1, x < n) ∧ p.1.length + 1 < 100) (hl : ws.length ≤ 200) (hf : (found ++ clo (sgAt t) i (pStep (sgAt t) n i ws)).length < 900) (x4 x5 x6 x7 x8 : Sl) : ∃ y4 y5 y6 y7 y8, evS (evCall allDefs (k + 1)) B105_2 [.sh (tabD t), .sh (.lst (found.map oD)), .sh (.int (i : Nat)), .sh (.lst (ws.map oD)), x4, x5, x6, x7, x8] d = .nx [.sh (tabD t), .sh (.lst ((found ++ clo (sgAt t) i (pStep (sgAt t) n i ws)).map oD)), .sh (.int (i : Nat)), .sh (.lst ((pStep (sgAt t) n i ws).map oD)), y4, y5, y6, y7, y8] d := by
  obtain ⟨⟨y5, y6, y7⟩, e, _⟩ := for_fold (cf := evCall allDefs (k + 1)) (d := d) (tg := .tup (.cons (.var 5) (.cons (.var 6) .nil))) (b := B105_3) (fun (acc : List (List Nat × Int)) (z : Sl × Sl × Sl) => [.sh (tabD t), .sh (.lst (found.map oD)), .sh (.int (i : Nat)), .sh (.lst (ws.map oD)), .ow (acc.map oD), z.1, z.2.1, z.2.2, x8]) oD
    (fun acc p => acc ++ pStep (sgAt t) n i [p]) (fun l acc => acc.length + l.length * 3 < 750 ∧ ∀ p ∈ l, p.1 ≠ [] ∧ (∀ x ∈ p.1, x < n) ∧ p.1.length + 1 < 100) (by
      rintro p l acc ⟨z5, z6, z7⟩ ⟨g1, g2⟩
      simp only [List.length_cons] at g1
      obtain ⟨h1, h2, h3⟩ := g2 p List.mem_cons_self
      obtain ⟨y7, e⟩ := cyc_more (k := k) (d := d) (f := .lst (found.map oD)) (x3 := .sh (.lst (ws.map oD))) (x8 := x8) T hn hi h1 h2 (by omega) acc (by omega) z7
      refine ⟨_, rfl, (.sh (nD p.1), .sh (.int p.2), y7), e, ?_, fun q hq => g2 q (List.mem_cons_of_mem _ hq)⟩
      have := pStep_len (i := i) (c := sgAt t) hn [p]
      rw [List.length_append]
      simp only [List.length_cons, List.length_nil] at this
      omega) ws [] (x5, x6, x7) ⟨by simp; omega, hw⟩
  have ef : ∀ (l a : List (List Nat × Int)), l.foldl (fun acc p => acc ++ pStep (sgAt t) n i [p]) a = a ++ pStep (sgAt t) n i l := fun l => by
    induction l with
    | nil => intro a; simp [pStep]
    | cons p l ih =>
      intro a
      have e : pStep (sgAt t) n i (p :: l) = pStep (sgAt t) n i [p] ++ pStep (sgAt t) n i l := by simp [pStep]
      rw [List.foldl_cons, ih, e, List.append_assoc]
  rw [ef, List.nil_append] at e
  simp only [List.map_nil] at e
  have wo := wsOk_step (n := n) (i := i) (c := sgAt t) hw
  have pl := pStep_len (i := i) (c := sgAt t) hn ws
  have clE : clo (sgAt t) i (pStep (sgAt t) n i ws) = ((pStep (sgAt t) n i ws).map fun p => (p.1, p.2 * val (sgAt t (lastN p.1) i))).filter fun p => decide (p.2 ≠ 0) := rfl
  generalize hq : pStep (sgAt t) n i ws = q at *
  have hlim : q.length ≤ lim := le_lim (by omega)
  have lc : ∀ x5 x6, lcS (evCall allDefs (k + 1)) C105_1 (.tup (.cons (.var 5) (.cons (.var 6) .nil))) [5, 6] (q.map oD) [.sh (tabD t), .sh (.lst (found.map oD)), .sh (.int (i : Nat)), .sh (.lst (ws.map oD)), .sh (.lst (q.map oD)), x5, x6, y7, x8] d = .ok (q.map fun p => oD (p.1, p.2 * val (sgAt t (lastN p.1) i))) d := fun x5 x6 => lc_mapG q fun p hp => ⟨_, by simp only [onB_some, onD_bl, onI_int, onO_some, r_bind, r_err, r_of, r_noerr, r_out, r_oute, o_er, o_rese, told_ok, told_0, told_1, told_2, told_3, told_4, told_5, told_6, told_7, told_8, told_9, told_10, o_nx, o_rt, o_res, o_resn, o_ofE, t_bl, t_int, tups_t, i_lst, i_tup, i_str, put0, putS, get0, getS, getO0, getOS, wipe_nil, wipe_cons, c_lt, c_gt, c_le, c_ge, c_eqI, c_neI, c_eqS, c_neS, c_eqB, c_neB, b_add, b_sub, x_len1, x_len2, x_tup1, x_tup2, x_lst1, x_abs, x_all, x_any, e_nil, e_cons, e_var, e_non, e_bl, e_int, e_str, e_tup, e_lst, e_bin, e_neg, e_cmp, e_chain, e_isn, e_and, e_or, e_and3, e_or3, e_not, e_ite, ifE_t, ifE_f, ifS_t, ifS_f, thenS_nx, thenS_er, thenS_rt, forS_nil, e_call, e_bi, e_isi, e_meth, e_ix, e_sl, e_rng1, e_enum, e_zip, e_lc, e_lcif, e_told, s_rse, s_nil', s_seq, s_set, s_own', s_par, s_parO, s_par3, s_frz, s_app, s_ret, s_ifs, s_fors, s_whl, s_ex, a_var, startE, List.map_cons, List.map_nil, List.length_cons, List.length_nil, List.cons_append, List.nil_append, List.append_nil, Nat.reduceAdd, Nat.reduceSub, Nat.zero_add, Nat.sub_self, List.replicate_zero, List.replicate_succ, Option.map_some, Option.bind_some, List.set_cons_zero, List.set_cons_succ, decide_true, decide_false, if_true, if_false, Bool.not_true, Bool.not_false, Bool.true_and, Bool.false_and, Bool.and_true, Bool.and_false, Bool.true_or, Bool.false_or, reduceIte, Bool.false_eq_true, eq_self, ne_eq, not_true_eq_false, not_false_eq_true, Bool.true_eq_false, List.length_map, List.length_range, List.length_append, e_rng2, e_trng, e_lenum, e_dget, e_dgets, e_rev, onS_str, a_tup, a_nil, a_cons, pt1, pt2, pt3, pt4, oD]; rfl, by
    obtain ⟨h1, h2, _⟩ := wo p hp
    have hlast := h2 _ (lastN_mem h1)
    obtain ⟨e1, _, e2⟩ := tab_at T hlast (show n < 1000 by omega)
    obtain ⟨e3, sg⟩ := e2 i hi
    have il := ix_lastN h1
    unfold C105_1
    generalize lastN p.1 = L at *
    simp only [onB_some, onD_bl, onI_int, onO_some, r_bind, r_err, r_of, r_noerr, r_out, r_oute, o_er, o_rese, told_ok, told_0, told_1, told_2, told_3, told_4, told_5, told_6, told_7, told_8, told_9, told_10, o_nx, o_rt, o_res, o_resn, o_ofE, t_bl, t_int, tups_t, i_lst, i_tup, i_str, put0, putS, get0, getS, getO0, getOS, wipe_nil, wipe_cons, c_lt, c_gt, c_le, c_ge, c_eqI, c_neI, c_eqS, c_neS, c_eqB, c_neB, b_add, b_sub, x_len1, x_len2, x_tup1, x_tup2, x_lst1, x_abs, x_all, x_any, e_nil, e_cons, e_var, e_non, e_bl, e_int, e_str, e_tup, e_lst, e_bin, e_neg, e_cmp, e_chain, e_isn, e_and, e_or, e_and3, e_or3, e_not, e_ite, ifE_t, ifE_f, ifS_t, ifS_f, thenS_nx, thenS_er, thenS_rt, forS_nil, e_call, e_bi, e_isi, e_meth, e_ix, e_sl, e_rng1, e_enum, e_zip, e_lc, e_lcif, e_told, s_rse, s_nil', s_seq, s_set, s_own', s_par, s_parO, s_par3, s_frz, s_app, s_ret, s_ifs, s_fors, s_whl, s_ex, a_var, startE, List.map_cons, List.map_nil, List.length_cons, List.length_nil, List.cons_append, List.nil_append, List.append_nil, Nat.reduceAdd, Nat.reduceSub, Nat.zero_add, Nat.sub_self, List.replicate_zero, List.replicate_succ, Option.map_some, Option.bind_some, List.set_cons_zero, List.set_cons_succ, decide_true, decide_false, if_true, if_false, Bool.not_true, Bool.not_false, Bool.true_and, Bool.false_and, Bool.and_true, Bool.and_false, Bool.true_or, Bool.false_or, reduceIte, Bool.false_eq_true, eq_self, ne_eq, not_true_eq_false, not_false_eq_true, Bool.true_eq_false, List.length_map, List.length_range, List.length_append, e_rng2, e_trng, e_lenum, e_dget, e_dgets, e_rev, onS_str, a_tup, a_nil, a_cons, pt1, pt2, pt3, pt4, il, e1, e3, c_value sg, mulR (val_s64 (c := sgAt t L i)), oD]⟩
  have lc2' : ∀ (R : List (List Nat × Int)) (X : D) (x5 x6 : Sl), lcfS (evCall allDefs (k + 1)) C105_2 (.tup (.cons (.var 5) (.cons (.var 6) .nil))) T105_1 [5, 6] (R.map oD) [.sh (tabD t), .sh (.lst (found.map oD)), .sh (.int (i : Nat)), .sh (.lst (ws.map oD)), .sh (.lst (q.map oD)), x5, x6, y7, .sh X] d = .ok ((R.filter fun p => decide (p.2 ≠ 0)).map oD) d := fun R X x5 x6 => lcf_mapG (p := fun p : List Nat × Int => decide (p.2 ≠ 0)) (g := oD) R fun p hp => ⟨_, by simp only [onB_some, onD_bl, onI_int, onO_some, r_bind, r_err, r_of, r_noerr, r_out, r_oute, o_er, o_rese, told_ok, told_0, told_1, told_2, told_3, told_4, told_5, told_6, told_7, told_8, told_9, told_10, o_nx, o_rt, o_res, o_resn, o_ofE, t_bl, t_int, tups_t, i_lst, i_tup, i_str, put0, putS, get0, getS, getO0, getOS, wipe_nil, wipe_cons, c_lt, c_gt, c_le, c_ge, c_eqI, c_neI, c_eqS, c_neS, c_eqB, c_neB, b_add, b_sub, x_len1, x_len2, x_tup1, x_tup2, x_lst1, x_abs, x_all, x_any, e_nil, e_cons, e_var, e_non, e_bl, e_int, e_str, e_tup, e_lst, e_bin, e_neg, e_cmp, e_chain, e_isn, e_and, e_or, e_and3, e_or3, e_not, e_ite, ifE_t, ifE_f, ifS_t, ifS_f, thenS_nx, thenS_er, thenS_rt, forS_nil, e_call, e_bi, e_isi, e_meth, e_ix, e_sl, e_rng1, e_enum, e_zip, e_lc, e_lcif, e_told, s_rse, s_nil', s_seq, s_set, s_own', s_par, s_parO, s_par3, s_frz, s_app, s_ret, s_ifs, s_fors, s_whl, s_ex, a_var, startE, List.map_cons, List.map_nil, List.length_cons, List.length_nil, List.cons_append, List.nil_append, List.append_nil, Nat.reduceAdd, Nat.reduceSub, Nat.zero_add, Nat.sub_self, List.replicate_zero, List.replicate_succ, Option.map_some, Option.bind_some, List.set_cons_zero, List.set_cons_succ, decide_true, decide_false, if_true, if_false, Bool.not_true, Bool.not_false, Bool.true_and, Bool.false_and, Bool.and_true, Bool.and_false, Bool.true_or, Bool.false_or, reduceIte, Bool.false_eq_true, eq_self, ne_eq, not_true_eq_false, not_false_eq_true, Bool.true_eq_false, List.length_map, List.length_range, List.length_append, e_rng2, e_trng, e_lenum, e_dget, e_dgets, e_rev, onS_str, a_tup, a_nil, a_cons, pt1, pt2, pt3, pt4, oD]; rfl, by unfold T105_1; simp only [onB_some, onD_bl, onI_int, onO_some, r_bind, r_err, r_of, r_noerr, r_out, r_oute, o_er, o_rese, told_ok, told_0, told_1, told_2, told_3, told_4, told_5, told_6, told_7, told_8, told_9, told_10, o_nx, o_rt, o_res, o_resn, o_ofE, t_bl, t_int, tups_t, i_lst, i_tup, i_str, put0, putS, get0, getS, getO0, getOS, wipe_nil, wipe_cons, c_lt, c_gt, c_le, c_ge, c_eqI, c_neI, c_eqS, c_neS, c_eqB, c_neB, b_add, b_sub, x_len1, x_len2, x_tup1, x_tup2, x_lst1, x_abs, x_all, x_any, e_nil, e_cons, e_var, e_non, e_bl, e_int, e_str, e_tup, e_lst, e_bin, e_neg, e_cmp, e_chain, e_isn, e_and, e_or, e_and3, e_or3, e_not, e_ite, ifE_t, ifE_f, ifS_t, ifS_f, thenS_nx, thenS_er, thenS_rt, forS_nil, e_call, e_bi, e_isi, e_meth, e_ix, e_sl, e_rng1, e_enum, e_zip, e_lc, e_lcif, e_told, s_rse, s_nil', s_seq, s_set, s_own', s_par, s_parO, s_par3, s_frz, s_app, s_ret, s_ifs, s_fors, s_whl, s_ex, a_var, startE, List.map_cons, List.map_nil, List.length_cons, List.length_nil, List.cons_append, List.nil_append, List.append_nil, Nat.reduceAdd, Nat.reduceSub, Nat.zero_add, Nat.sub_self, List.replicate_zero, List.replicate_succ, Option.map_some, Option.bind_some, List.set_cons_zero, List.set_cons_succ, decide_true, decide_false, if_true, if_false, Bool.not_true, Bool.not_false, Bool.true_and, Bool.false_and, Bool.and_true, Bool.and_false, Bool.true_or, Bool.false_or, reduceIte, Bool.false_eq_true, eq_self, ne_eq, not_true_eq_false, not_false_eq_true, Bool.true_eq_false, List.length_map, List.length_range, List.length_append, e_rng2, e_trng, e_lenum, e_dget, e_dgets, e_rev, onS_str, a_tup, a_nil, a_cons, pt1, pt2, pt3, pt4], fun _ => by unfold C105_2; simp only [onB_some, onD_bl, onI_int, onO_some, r_bind, r_err, r_of, r_noerr, r_out, r_oute, o_er, o_rese, told_ok, told_0, told_1, told_2, told_3, told_4, told_5, told_6, told_7, told_8, told_9, told_10, o_nx, o_rt, o_res, o_resn, o_ofE, t_bl, t_int, tups_t, i_lst, i_tup, i_str, put0, putS, get0, getS, getO0, getOS, wipe_nil, wipe_cons, c_lt, c_gt, c_le, c_ge, c_eqI, c_neI, c_eqS, c_neS, c_eqB, c_neB, b_add, b_sub, x_len1, x_len2, x_tup1, x_tup2, x_lst1, x_abs, x_all, x_any, e_nil, e_cons, e_var, e_non, e_bl, e_int, e_str, e_tup, e_lst, e_bin, e_neg, e_cmp, e_chain, e_isn, e_and, e_or, e_and3, e_or3, e_not, e_ite, ifE_t, ifE_f, ifS_t, ifS_f, thenS_nx, thenS_er, thenS_rt, forS_nil, e_call, e_bi, e_isi, e_meth, e_ix, e_sl, e_rng1, e_enum, e_zip, e_lc, e_lcif, e_told, s_rse, s_nil', s_seq, s_set, s_own', s_par, s_parO, s_par3, s_frz, s_app, s_ret, s_ifs, s_fors, s_whl, s_ex, a_var, startE, List.map_cons, List.map_nil, List.length_cons, List.length_nil, List.cons_append, List.nil_append, List.append_nil, Nat.reduceAdd, Nat.reduceSub, Nat.zero_add, Nat.sub_self, List.replicate_zero, List.replicate_succ, Option.map_some, Option.bind_some, List.set_cons_zero, List.set_cons_succ, decide_true, decide_false, if_true, if_false, Bool.not_true, Bool.not_false, Bool.true_and, Bool.false_and, Bool.and_true, Bool.and_false, Bool.true_or, Bool.false_or, reduceIte, Bool.false_eq_true, eq_self, ne_eq, not_true_eq_false, not_false_eq_true, Bool.true_eq_false, List.length_map, List.length_range, List.length_append, e_rng2, e_trng, e_lenum, e_dget, e_dgets, e_rev, onS_str, a_tup, a_nil, a_cons, pt1, pt2, pt3, pt4, oD]⟩
  have lc2 : ∀ (X : D) (x5 x6 : Sl), lcfS (evCall allDefs (k + 1)) C105_2 (.tup (.cons (.var 5) (.cons (.var 6) .nil))) T105_1 [5, 6] ((q.map fun p => (p.1, p.2 * val (sgAt t (lastN p.1) i))).map oD) [.sh (tabD t), .sh (.lst (found.map oD)), .sh (.int (i : Nat)), .sh (.lst (ws.map oD)), .sh (.lst (q.map oD)), x5, x6, y7, .sh X] d = .ok ((clo (sgAt t) i q).map oD) d := fun X x5 x6 => by
    rw [clE]
    exact lc2' _ X x5 x6
  have em : q.map (fun p => oD (p.1, p.2 * val (sgAt t (lastN p.1) i))) = (q.map fun p => (p.1, p.2 * val (sgAt t (lastN p.1) i))).map oD := by rw [List.map_map]; rfl
  rw [List.length_append] at hf
  have ad : opBin .add (.lst (found.map oD)) (.lst ((clo (sgAt t) i q).map oD)) = some (.lst ((found ++ clo (sgAt t) i q).map oD)) := by
    rw [add_lst (by simp; omega), List.map_append]
  have hql : (q.map fun p => (p.1, p.2 * val (sgAt t (lastN p.1) i))).length ≤ lim := by rw [List.length_map]; exact hlim
  refine ⟨.sh (.lst (q.map oD)), y5, y6, y7, .sh (.lst ((q.map fun p => (p.1, p.2 * val (sgAt t (lastN p.1) i))).map oD)), ?_⟩
  unfold B105_2
  simp only [onB_some, onD_bl, onI_int, onO_some, r_bind, r_err, r_of, r_noerr, r_out, r_oute, o_er, o_rese, told_ok, told_0, told_1, told_2, told_3, told_4, told_5, told_6, told_7, told_8, told_9, told_10, o_nx, o_rt, o_res, o_resn, o_ofE, t_bl, t_int, tups_t, i_lst, i_tup, i_str, put0, putS, get0, getS, getO0, getOS, wipe_nil, wipe_cons, c_lt, c_gt, c_le, c_ge, c_eqI, c_neI, c_eqS, c_neS, c_eqB, c_neB, b_add, b_sub, x_len1, x_len2, x_tup1, x_tup2, x_lst1, x_abs, x_all, x_any, e_nil, e_cons, e_var, e_non, e_bl, e_int, e_str, e_tup, e_lst, e_bin, e_neg, e_cmp, e_chain, e_isn, e_and, e_or, e_and3, e_or3, e_not, e_ite, ifE_t, ifE_f, ifS_t, ifS_f, thenS_nx, thenS_er, thenS_rt, forS_nil, e_call, e_bi, e_isi, e_meth, e_ix, e_sl, e_rng1, e_enum, e_zip, e_lc, e_lcif, e_told, s_rse, s_nil', s_seq, s_set, s_own', s_par, s_parO, s_par3, s_frz, s_app, s_ret, s_ifs, s_fors, s_whl, s_ex, a_var, startE, List.map_cons, List.map_nil, List.length_cons, List.length_nil, List.cons_append, List.nil_append, List.append_nil, Nat.reduceAdd, Nat.reduceSub, Nat.zero_add, Nat.sub_self, List.replicate_zero, List.replicate_succ, Option.map_some, Option.bind_some, List.set_cons_zero, List.set_cons_succ, decide_true, decide_false, if_true, if_false, Bool.not_true, Bool.not_false, Bool.true_and, Bool.false_and, Bool.and_true, Bool.and_false, Bool.true_or, Bool.false_or, reduceIte, Bool.false_eq_true, eq_self, ne_eq, not_true_eq_false, not_false_eq_true, Bool.true_eq_false, List.length_map, List.length_range, List.length_append, e_rng2, e_trng, e_lenum, e_dget, e_dgets, e_rev, onS_str, a_tup, a_nil, a_cons, pt1, pt2, pt3, pt4]
  rw [e]
  generalize hR : (q.map fun p => (p.1, p.2 * val (sgAt t (lastN p.1) i))) = R at *
  simp only [onB_some, onD_bl, onI_int, onO_some, r_bind, r_err, r_of, r_noerr, r_out, r_oute, o_er, o_rese, told_ok, told_0, told_1, told_2, told_3, told_4, told_5, told_6, told_7, told_8, told_9, told_10, o_nx, o_rt, o_res, o_resn, o_ofE, t_bl, t_int, tups_t, i_lst, i_tup, i_str, put0, putS, get0, getS, getO0, getOS, wipe_nil, wipe_cons, c_lt, c_gt, c_le, c_ge, c_eqI, c_neI, c_eqS, c_neS, c_eqB, c_neB, b_add, b_sub, x_len1, x_len2, x_tup1, x_tup2, x_lst1, x_abs, x_all, x_any, e_nil, e_cons, e_var, e_non, e_bl, e_int, e_str, e_tup, e_lst, e_bin, e_neg, e_cmp, e_chain, e_isn, e_and, e_or, e_and3, e_or3, e_not, e_ite, ifE_t, ifE_f, ifS_t, ifS_f, thenS_nx, thenS_er, thenS_rt, forS_nil, e_call, e_bi, e_isi, e_meth, e_ix, e_sl, e_rng1, e_enum, e_zip, e_lc, e_lcif, e_told, s_rse, s_nil', s_seq, s_set, s_own', s_par, s_parO, s_par3, s_frz, s_app, s_ret, s_ifs, s_fors, s_whl, s_ex, a_var, startE, List.map_cons, List.map_nil, List.length_cons, List.length_nil, List.cons_append, List.nil_append, List.append_nil, Nat.reduceAdd, Nat.reduceSub, Nat.zero_add, Nat.sub_self, List.replicate_zero, List.replicate_succ, Option.map_some, Option.bind_some, List.set_cons_zero, List.set_cons_succ, decide_true, decide_false, if_true, if_false, Bool.not_true, Bool.not_false, Bool.true_and, Bool.false_and, Bool.and_true, Bool.and_false, Bool.true_or, Bool.false_or, reduceIte, Bool.false_eq_true, eq_self, ne_eq, not_true_eq_false, not_false_eq_true, Bool.true_eq_false, List.length_map, List.length_range, List.length_append, e_rng2, e_trng, e_lenum, e_dget, e_dgets, e_rev, onS_str, a_tup, a_nil, a_cons, pt1, pt2, pt3, pt4, hlim, lc, em, hql, lc2, ad]
theorem cyc_while (T : Tab t n n) (hn : n ≤ 4) (hi : i < n) : ∀ (K f : Nat) (found ws : List (List Nat × Int)) (x4 x5 x6 x7 x8 : Sl), K < f → pEnd (sgAt t) n i K ws = [] → ws.length * 3 ^ K ≤ 200 → (∀ p ∈ ws, p.1 ≠ [] ∧ (∀ x ∈ p.1, x < n) ∧ p.1.length + K < 100) → (found ++ rAll (sgAt t) n i K ws).length < 900 →
    ∃ y3 y4 y5 y6 y7 y8, whlS (evCall allDefs (k + 1)) f (.cmp .ne (.var 3) (.lst (.nil))) B105_2 [.sh (tabD t), .sh (.lst (found.map oD)), .sh (.int (i : Nat)), .sh (.lst (ws.map oD)), x4, x5, x6, x7, x8] d = .nx [.sh (tabD t), .sh (.lst ((found ++ rAll (sgAt t) n i K ws).map oD)), .sh (.int (i : Nat)), y3, y4, y5, y6, y7, y8] d
  | 0, f, found, ws, x4, x5, x6, x7, x8, hf, he, _, _, _ => by
    have hws : ws = [] := he
    subst hws
    obtain ⟨g, rfl⟩ : ∃ g, f = g + 1 := ⟨f - 1, by omega⟩
    have ne : opCmp .ne (.lst []) (.lst []) = some false := rfl
    rw [whl_end (x := .bl false) (d1 := d) (by simp only [onB_some, onD_bl, onI_int, onO_some, r_bind, r_err, r_of, r_noerr, r_out, r_oute, o_er, o_rese, told_ok, told_0, told_1, told_2, told_3, told_4, told_5, told_6, told_7, told_8, told_9, told_10, o_nx, o_rt, o_res, o_resn, o_ofE, t_bl, t_int, tups_t, i_lst, i_tup, i_str, put0, putS, get0, getS, getO0, getOS, wipe_nil, wipe_cons, c_lt, c_gt, c_le, c_ge, c_eqI, c_neI, c_eqS, c_neS, c_eqB, c_neB, b_add, b_sub, x_len1, x_len2, x_tup1, x_tup2, x_lst1, x_abs, x_all, x_any, e_nil, e_cons, e_var, e_non, e_bl, e_int, e_str, e_tup, e_lst, e_bin, e_neg, e_cmp, e_chain, e_isn, e_and, e_or, e_and3, e_or3, e_not, e_ite, ifE_t, ifE_f, ifS_t, ifS_f, thenS_nx, thenS_er, thenS_rt, forS_nil, e_call, e_bi, e_isi, e_meth, e_ix, e_sl, e_rng1, e_enum, e_zip, e_lc, e_lcif, e_told, s_rse, s_nil', s_seq, s_set, s_own', s_par, s_parO, s_par3, s_frz, s_app, s_ret, s_ifs, s_fors, s_whl, s_ex, a_var, startE, List.map_cons, List.map_nil, List.length_cons, List.length_nil, List.cons_append, List.nil_append, List.append_nil, Nat.reduceAdd, Nat.reduceSub, Nat.zero_add, Nat.sub_self, List.replicate_zero, List.replicate_succ, Option.map_some, Option.bind_some, List.set_cons_zero, List.set_cons_succ, decide_true, decide_false, if_true, if_false, Bool.not_true, Bool.not_false, Bool.true_and, Bool.false_and, Bool.and_true, Bool.and_false, Bool.true_or, Bool.false_or, reduceIte, Bool.false_eq_true, eq_self, ne_eq, not_true_eq_false, not_false_eq_true, Bool.true_eq_false, List.length_map, List.length_range, List.length_append, e_rng2, e_trng, e_lenum, e_dget, e_dgets, e_rev, onS_str, a_tup, a_nil, a_cons, pt1, pt2, pt3, pt4, ne]) rfl]
    refine ⟨.sh (.lst []), x4, x5, x6, x7, x8, ?_⟩
    rw [rAll, List.append_nil]
    rfl
  | K + 1, f, found, ws, x4, x5, x6, x7, x8, hf, he, hl, hw, hr => by
    obtain ⟨g, rfl⟩ : ∃ g, f = g + 1 := ⟨f - 1, by omega⟩
    by_cases hws : ws = []
    · subst hws
      have ne : opCmp .ne (.lst []) (.lst []) = some false := rfl
      have hz : ∀ K, rAll (sgAt t) n i K [] = [] := fun K => by
        induction K with
        | zero => rfl
        | succ K ih =>
          have : pStep (sgAt t) n i [] = [] := rfl
          rw [rAll, this, ih]; rfl
      rw [whl_end (x := .bl false) (d1 := d) (by simp only [onB_some, onD_bl, onI_int, onO_some, r_bind, r_err, r_of, r_noerr, r_out, r_oute, o_er, o_rese, told_ok, told_0, told_1, told_2, told_3, told_4, told_5, told_6, told_7, told_8, told_9, told_10, o_nx, o_rt, o_res, o_resn, o_ofE, t_bl, t_int, tups_t, i_lst, i_tup, i_str, put0, putS, get0, getS, getO0, getOS, wipe_nil, wipe_cons, c_lt, c_gt, c_le, c_ge, c_eqI, c_neI, c_eqS, c_neS, c_eqB, c_neB, b_add, b_sub, x_len1, x_len2, x_tup1, x_tup2, x_lst1, x_abs, x_all, x_any, e_nil, e_cons, e_var, e_non, e_bl, e_int, e_str, e_tup, e_lst, e_bin, e_neg, e_cmp, e_chain, e_isn, e_and, e_or, e_and3, e_or3, e_not, e_ite, ifE_t, ifE_f, ifS_t, ifS_f, thenS_nx, thenS_er, thenS_rt, forS_nil, e_call, e_bi, e_isi, e_meth, e_ix, e_sl, e_rng1, e_enum, e_zip, e_lc, e_lcif, e_told, s_rse, s_nil', s_seq, s_set, s_own', s_par, s_parO, s_par3, s_frz, s_app, s_ret, s_ifs, s_fors, s_whl, s_ex, a_var, startE, List.map_cons, List.map_nil, List.length_cons, List.length_nil, List.cons_append, List.nil_append, List.append_nil, Nat.reduceAdd, Nat.reduceSub, Nat.zero_add, Nat.sub_self, List.replicate_zero, List.replicate_succ, Option.map_some, Option.bind_some, List.set_cons_zero, List.set_cons_succ, decide_true, decide_false, if_true, if_false, Bool.not_true, Bool.not_false, Bool.true_and, Bool.false_and, Bool.and_true, Bool.and_false, Bool.true_or, Bool.false_or, reduceIte, Bool.false_eq_true, eq_self, ne_eq, not_true_eq_false, not_false_eq_true, Bool.true_eq_false, List.length_map, List.length_range, List.length_append, e_rng2, e_trng, e_lenum, e_dget, e_dgets, e_rev, onS_str, a_tup, a_nil, a_cons, pt1, pt2, pt3, pt4, ne]) rfl]
      refine ⟨.sh (.lst []), x4, x5, x6, x7, x8, ?_⟩
      rw [hz, List.append_nil]
      rfl
    · have ne := oDs_ne (ws := ws)
      rw [decide_eq_true hws] at ne
      have e1 : rAll (sgAt t) n i (K + 1) ws = clo (sgAt t) i (pStep (sgAt t) n i ws) ++ rAll (sgAt t) n i K (pStep (sgAt t) n i ws) := rfl
      rw [e1, ← List.append_assoc] at hr
      have h3 : 1 ≤ 3 ^ K := Nat.one_le_pow _ _ (by decide)
      have hl1 : ws.length * 3 * 3 ^ K ≤ 200 := by
        rw [Nat.pow_succ, Nat.mul_comm (3 ^ K), ← Nat.mul_assoc] at hl; exact hl
      have hl2 : ws.length ≤ 200 := by
        have : ws.length * 3 * 1 ≤ ws.length * 3 * 3 ^ K := Nat.mul_le_mul_left _ h3
        omega
      have ps := pStep_len (i := i) (c := sgAt t) hn ws
      have hfl : (found ++ clo (sgAt t) i (pStep (sgAt t) n i ws)).length < 900 := by rw [List.length_append] at hr; omega
      obtain ⟨y4, y5, y6, y7, y8, et⟩ := cyc_turn (k := k) (d := d) (found := found) T hn hi (fun p hp => by obtain ⟨a, b, c⟩ := hw p hp; exact ⟨a, b, by omega⟩) hl2 hfl x4 x5 x6 x7 x8
      obtain ⟨z3, z4, z5, z6, z7, z8, ew⟩ := cyc_while T hn hi K g (found ++ clo (sgAt t) i (pStep (sgAt t) n i ws)) (pStep (sgAt t) n i ws) y4 y5 y6 y7 y8 (by omega) he (Nat.le_trans (Nat.mul_le_mul_right _ ps) hl1) (fun q hq => by
        obtain ⟨p, hp, hq⟩ := List.mem_flatMap.mp hq
        obtain ⟨j, hj, rfl⟩ := List.mem_map.mp hq
        obtain ⟨h1, h2, h3⟩ := hw p hp
        have hj' := (List.mem_filter.mp hj).1
        rw [List.mem_range'_1] at hj'
        refine ⟨by simp, fun x hx => ?_, by simp; omega⟩
        rcases List.mem_append.mp hx with z | z
        · exact h2 x z
        · rw [List.mem_singleton.mp z]; omega) hr
      rw [whl_go (x := .bl true) (d1 := d) (by simp only [onB_some, onD_bl, onI_int, onO_some, r_bind, r_err, r_of, r_noerr, r_out, r_oute, o_er, o_rese, told_ok, told_0, told_1, told_2, told_3, told_4, told_5, told_6, told_7, told_8, told_9, told_10, o_nx, o_rt, o_res, o_resn, o_ofE, t_bl, t_int, tups_t, i_lst, i_tup, i_str, put0, putS, get0, getS, getO0, getOS, wipe_nil, wipe_cons, c_lt, c_gt, c_le, c_ge, c_eqI, c_neI, c_eqS, c_neS, c_eqB, c_neB, b_add, b_sub, x_len1, x_len2, x_tup1, x_tup2, x_lst1, x_abs, x_all, x_any, e_nil, e_cons, e_var, e_non, e_bl, e_int, e_str, e_tup, e_lst, e_bin, e_neg, e_cmp, e_chain, e_isn, e_and, e_or, e_and3, e_or3, e_not, e_ite, ifE_t, ifE_f, ifS_t, ifS_f, thenS_nx, thenS_er, thenS_rt, forS_nil, e_call, e_bi, e_isi, e_meth, e_ix, e_sl, e_rng1, e_enum, e_zip, e_lc, e_lcif, e_told, s_rse, s_nil', s_seq, s_set, s_own', s_par, s_parO, s_par3, s_frz, s_app, s_ret, s_ifs, s_fors, s_whl, s_ex, a_var, startE, List.map_cons, List.map_nil, List.length_cons, List.length_nil, List.cons_append, List.nil_append, List.append_nil, Nat.reduceAdd, Nat.reduceSub, Nat.zero_add, Nat.sub_self, List.replicate_zero, List.replicate_succ, Option.map_some, Option.bind_some, List.set_cons_zero, List.set_cons_succ, decide_true, decide_false, if_true, if_false, Bool.not_true, Bool.not_false, Bool.true_and, Bool.false_and, Bool.and_true, Bool.and_false, Bool.true_or, Bool.false_or, reduceIte, Bool.false_eq_true, eq_self, ne_eq, not_true_eq_false, not_false_eq_true, Bool.true_eq_false, List.length_map, List.length_range, List.length_append, e_rng2, e_trng, e_lenum, e_dget, e_dgets, e_rev, onS_str, a_tup, a_nil, a_cons, pt1, pt2, pt3, pt4, ne]) rfl et, ew, e1, List.append_assoc]
      exact ⟨_, _, _, _, _, _, rfl⟩
theorem c_cyc105 (T : Tab t n n) (hn : 1 ≤ n ∧ n ≤ 4) : evCall allDefs (k + 2) 105 [tabD t] d = .ok (.lst ((sel (sgAt t) (cand n)).map fun p => gD p.1 (decide (0 < p.2)))) d := by
  have hc : SgF n (sgAt t) := fun i j hi hj => ((tab_at T hi (show n < 1000 by omega)).2.2 j hj).2
  have fe := found_eq hn.2 hc
  have ll : (sel (sgAt t) (lcand n)).length ≤ 20 := by
    have h1 := sel_len (sgAt t) (lcand n)
    have h2 := (perm_ok hn.2).1.length_eq
    have h3 := (cand_ok hn.2).1
    omega
  rw [call_eq (df := F_law_cycles) rfl rfl]
  unfold F_law_cycles
  simp only [onB_some, onD_bl, onI_int, onO_some, r_bind, r_err, r_of, r_noerr, r_out, r_oute, o_er, o_rese, told_ok, told_0, told_1, told_2, told_3, told_4, told_5, told_6, told_7, told_8, told_9, told_10, o_nx, o_rt, o_res, o_resn, o_ofE, t_bl, t_int, tups_t, i_lst, i_tup, i_str, put0, putS, get0, getS, getO0, getOS, wipe_nil, wipe_cons, c_lt, c_gt, c_le, c_ge, c_eqI, c_neI, c_eqS, c_neS, c_eqB, c_neB, b_add, b_sub, x_len1, x_len2, x_tup1, x_tup2, x_lst1, x_abs, x_all, x_any, e_nil, e_cons, e_var, e_non, e_bl, e_int, e_str, e_tup, e_lst, e_bin, e_neg, e_cmp, e_chain, e_isn, e_and, e_or, e_and3, e_or3, e_not, e_ite, ifE_t, ifE_f, ifS_t, ifS_f, thenS_nx, thenS_er, thenS_rt, forS_nil, e_call, e_bi, e_isi, e_meth, e_ix, e_sl, e_rng1, e_enum, e_zip, e_lc, e_lcif, e_told, s_rse, s_nil', s_seq, s_set, s_own', s_par, s_parO, s_par3, s_frz, s_app, s_ret, s_ifs, s_fors, s_whl, s_ex, a_var, startE, List.map_cons, List.map_nil, List.length_cons, List.length_nil, List.cons_append, List.nil_append, List.append_nil, Nat.reduceAdd, Nat.reduceSub, Nat.zero_add, Nat.sub_self, List.replicate_zero, List.replicate_succ, Option.map_some, Option.bind_some, List.set_cons_zero, List.set_cons_succ, decide_true, decide_false, if_true, if_false, Bool.not_true, Bool.not_false, Bool.true_and, Bool.false_and, Bool.and_true, Bool.and_false, Bool.true_or, Bool.false_or, reduceIte, Bool.false_eq_true, eq_self, ne_eq, not_true_eq_false, not_false_eq_true, Bool.true_eq_false, List.length_map, List.length_range, List.length_append, e_rng2, e_trng, e_lenum, e_dget, e_dgets, e_rev, onS_str, a_tup, a_nil, a_cons, pt1, pt2, pt3, pt4, tab_len T, smallR_nat (show n < 1000 by omega), range_map]
  obtain ⟨⟨y2, y3, y4, y5, y6, y7, y8⟩, e, _⟩ := for_fold (cf := evCall allDefs (k + 1)) (d := d) (tg := .var 2) (b := B105_1) (fun (acc : List (List Nat × Int)) (z : Sl × Sl × Sl × Sl × Sl × Sl × Sl) => [.sh (tabD t), .sh (.lst (acc.map oD)), z.1, z.2.1, z.2.2.1, z.2.2.2.1, z.2.2.2.2.1, z.2.2.2.2.2.1, z.2.2.2.2.2.2]) (fun i : Nat => .int (i : Nat))
    (fun acc i => acc ++ rAll (sgAt t) n i n [([i], 1)]) (fun l acc => (acc ++ l.flatMap fun i => rAll (sgAt t) n i n [([i], 1)]).length ≤ 20 ∧ ∀ i ∈ l, i < n) (by
      rintro i l acc ⟨z2, z3, z4, z5, z6, z7, z8⟩ ⟨g1, g2⟩
      have hi := g2 i List.mem_cons_self
      rw [List.flatMap_cons, ← List.append_assoc] at g1
      have g1' := g1
      rw [List.length_append] at g1
      have h34 : 3 ^ n ≤ 3 ^ 4 := Nat.pow_le_pow_right (by decide) hn.2
      obtain ⟨y3, y4, y5, y6, y7, y8, ew⟩ := cyc_while (k := k) (d := d) T hn.2 hi n 1000 acc [([i], 1)] z4 z5 z6 z7 z8 (by omega) (end_nil hn.2 hc hi) (by simp only [List.length_cons, List.length_nil]; omega) (fun p hp => by
        rw [List.mem_singleton.mp hp]
        exact ⟨by simp, fun x hx => by rw [List.mem_singleton.mp hx]; exact hi, by simp; omega⟩) (by omega)
      refine ⟨_, rfl, (.sh (.int (i : Nat)), y3, y4, y5, y6, y7, y8), ?_, g1', fun q hq => g2 q (List.mem_cons_of_mem _ hq)⟩
      have e0 : D.lst [.tup [.tup [.int (i : Nat)], .int 1]] = .lst ([([i], 1)].map oD) := rfl
      unfold B105_1
      simp only [onB_some, onD_bl, onI_int, onO_some, r_bind, r_err, r_of, r_noerr, r_out, r_oute, o_er, o_rese, told_ok, told_0, told_1, told_2, told_3, told_4, told_5, told_6, told_7, told_8, told_9, told_10, o_nx, o_rt, o_res, o_resn, o_ofE, t_bl, t_int, tups_t, i_lst, i_tup, i_str, put0, putS, get0, getS, getO0, getOS, wipe_nil, wipe_cons, c_lt, c_gt, c_le, c_ge, c_eqI, c_neI, c_eqS, c_neS, c_eqB, c_neB, b_add, b_sub, x_len1, x_len2, x_tup1, x_tup2, x_lst1, x_abs, x_all, x_any, e_nil, e_cons, e_var, e_non, e_bl, e_int, e_str, e_tup, e_lst, e_bin, e_neg, e_cmp, e_chain, e_isn, e_and, e_or, e_and3, e_or3, e_not, e_ite, ifE_t, ifE_f, ifS_t, ifS_f, thenS_nx, thenS_er, thenS_rt, forS_nil, e_call, e_bi, e_isi, e_meth, e_ix, e_sl, e_rng1, e_enum, e_zip, e_lc, e_lcif, e_told, s_rse, s_nil', s_seq, s_set, s_own', s_par, s_parO, s_par3, s_frz, s_app, s_ret, s_ifs, s_fors, s_whl, s_ex, a_var, startE, List.map_cons, List.map_nil, List.length_cons, List.length_nil, List.cons_append, List.nil_append, List.append_nil, Nat.reduceAdd, Nat.reduceSub, Nat.zero_add, Nat.sub_self, List.replicate_zero, List.replicate_succ, Option.map_some, Option.bind_some, List.set_cons_zero, List.set_cons_succ, decide_true, decide_false, if_true, if_false, Bool.not_true, Bool.not_false, Bool.true_and, Bool.false_and, Bool.and_true, Bool.and_false, Bool.true_or, Bool.false_or, reduceIte, Bool.false_eq_true, eq_self, ne_eq, not_true_eq_false, not_false_eq_true, Bool.true_eq_false, List.length_map, List.length_range, List.length_append, e_rng2, e_trng, e_lenum, e_dget, e_dgets, e_rev, onS_str, a_tup, a_nil, a_cons, pt1, pt2, pt3, pt4]
      rw [e0, ew]
      simp only [onB_some, onD_bl, onI_int, onO_some, r_bind, r_err, r_of, r_noerr, r_out, r_oute, o_er, o_rese, told_ok, told_0, told_1, told_2, told_3, told_4, told_5, told_6, told_7, told_8, told_9, told_10, o_nx, o_rt, o_res, o_resn, o_ofE, t_bl, t_int, tups_t, i_lst, i_tup, i_str, put0, putS, get0, getS, getO0, getOS, wipe_nil, wipe_cons, c_lt, c_gt, c_le, c_ge, c_eqI, c_neI, c_eqS, c_neS, c_eqB, c_neB, b_add, b_sub, x_len1, x_len2, x_tup1, x_tup2, x_lst1, x_abs, x_all, x_any, e_nil, e_cons, e_var, e_non, e_bl, e_int, e_str, e_tup, e_lst, e_bin, e_neg, e_cmp, e_chain, e_isn, e_and, e_or, e_and3, e_or3, e_not, e_ite, ifE_t, ifE_f, ifS_t, ifS_f, thenS_nx, thenS_er, thenS_rt, forS_nil, e_call, e_bi, e_isi, e_meth, e_ix, e_sl, e_rng1, e_enum, e_zip, e_lc, e_lcif, e_told, s_rse, s_nil', s_seq, s_set, s_own', s_par, s_parO, s_par3, s_frz, s_app, s_ret, s_ifs, s_fors, s_whl, s_ex, a_var, startE, List.map_cons, List.map_nil, List.length_cons, List.length_nil, List.cons_append, List.nil_append, List.append_nil, Nat.reduceAdd, Nat.reduceSub, Nat.zero_add, Nat.sub_self, List.replicate_zero, List.replicate_succ, Option.map_some, Option.bind_some, List.set_cons_zero, List.set_cons_succ, decide_true, decide_false, if_true, if_false, Bool.not_true, Bool.not_false, Bool.true_and, Bool.false_and, Bool.and_true, Bool.and_false, Bool.true_or, Bool.false_or, reduceIte, Bool.false_eq_true, eq_self, ne_eq, not_true_eq_false, not_false_eq_true, Bool.true_eq_false, List.length_map, List.length_range, List.length_append, e_rng2, e_trng, e_lenum, e_dget, e_dgets, e_rev, onS_str, a_tup, a_nil, a_cons, pt1, pt2, pt3, pt4]) (List.range n) [] (.no, .no, .no, .no, .no, .no, .no) ⟨by rw [List.nil_append, fe]; exact ll, fun i hi => List.mem_range.mp hi⟩
  simp only [List.map_nil] at e
  rw [e]
  rw [foldl_app, List.nil_append, fe]
  have so := sorted_cyc hn.2 (sgAt t)
  have lc : ∀ x5 x6, lcS (evCall allDefs (k + 1)) C105_3 (.tup (.cons (.var 5) (.cons (.var 6) .nil))) [5, 6] ((sel (sgAt t) (lcand n)).map oD) [.sh (tabD t), .sh (.lst ((sel (sgAt t) (lcand n)).map oD)), y2, y3, y4, x5, x6, y7, y8] d = .ok ((sel (sgAt t) (lcand n)).map fun p => gD p.1 (decide (0 < p.2))) d := fun x5 x6 => lc_mapG (sel (sgAt t) (lcand n)) fun p hp => ⟨_, by simp only [onB_some, onD_bl, onI_int, onO_some, r_bind, r_err, r_of, r_noerr, r_out, r_oute, o_er, o_rese, told_ok, told_0, told_1, told_2, told_3, told_4, told_5, told_6, told_7, told_8, told_9, told_10, o_nx, o_rt, o_res, o_resn, o_ofE, t_bl, t_int, tups_t, i_lst, i_tup, i_str, put0, putS, get0, getS, getO0, getOS, wipe_nil, wipe_cons, c_lt, c_gt, c_le, c_ge, c_eqI, c_neI, c_eqS, c_neS, c_eqB, c_neB, b_add, b_sub, x_len1, x_len2, x_tup1, x_tup2, x_lst1, x_abs, x_all, x_any, e_nil, e_cons, e_var, e_non, e_bl, e_int, e_str, e_tup, e_lst, e_bin, e_neg, e_cmp, e_chain, e_isn, e_and, e_or, e_and3, e_or3, e_not, e_ite, ifE_t, ifE_f, ifS_t, ifS_f, thenS_nx, thenS_er, thenS_rt, forS_nil, e_call, e_bi, e_isi, e_meth, e_ix, e_sl, e_rng1, e_enum, e_zip, e_lc, e_lcif, e_told, s_rse, s_nil', s_seq, s_set, s_own', s_par, s_parO, s_par3, s_frz, s_app, s_ret, s_ifs, s_fors, s_whl, s_ex, a_var, startE, List.map_cons, List.map_nil, List.length_cons, List.length_nil, List.cons_append, List.nil_append, List.append_nil, Nat.reduceAdd, Nat.reduceSub, Nat.zero_add, Nat.sub_self, List.replicate_zero, List.replicate_succ, Option.map_some, Option.bind_some, List.set_cons_zero, List.set_cons_succ, decide_true, decide_false, if_true, if_false, Bool.not_true, Bool.not_false, Bool.true_and, Bool.false_and, Bool.and_true, Bool.and_false, Bool.true_or, Bool.false_or, reduceIte, Bool.false_eq_true, eq_self, ne_eq, not_true_eq_false, not_false_eq_true, Bool.true_eq_false, List.length_map, List.length_range, List.length_append, e_rng2, e_trng, e_lenum, e_dget, e_dgets, e_rev, onS_str, a_tup, a_nil, a_cons, pt1, pt2, pt3, pt4, oD]; rfl, by
    have ln : opBi .len [nD p.1] = some (.int (p.1.length : Nat)) := by unfold nD; rw [x_len1, List.length_map]
    unfold C105_3 gD
    by_cases h0 : 0 < p.2
    · simp only [onB_some, onD_bl, onI_int, onO_some, r_bind, r_err, r_of, r_noerr, r_out, r_oute, o_er, o_rese, told_ok, told_0, told_1, told_2, told_3, told_4, told_5, told_6, told_7, told_8, told_9, told_10, o_nx, o_rt, o_res, o_resn, o_ofE, t_bl, t_int, tups_t, i_lst, i_tup, i_str, put0, putS, get0, getS, getO0, getOS, wipe_nil, wipe_cons, c_lt, c_gt, c_le, c_ge, c_eqI, c_neI, c_eqS, c_neS, c_eqB, c_neB, b_add, b_sub, x_len1, x_len2, x_tup1, x_tup2, x_lst1, x_abs, x_all, x_any, e_nil, e_cons, e_var, e_non, e_bl, e_int, e_str, e_tup, e_lst, e_bin, e_neg, e_cmp, e_chain, e_isn, e_and, e_or, e_and3, e_or3, e_not, e_ite, ifE_t, ifE_f, ifS_t, ifS_f, thenS_nx, thenS_er, thenS_rt, forS_nil, e_call, e_bi, e_isi, e_meth, e_ix, e_sl, e_rng1, e_enum, e_zip, e_lc, e_lcif, e_told, s_rse, s_nil', s_seq, s_set, s_own', s_par, s_parO, s_par3, s_frz, s_app, s_ret, s_ifs, s_fors, s_whl, s_ex, a_var, startE, List.map_cons, List.map_nil, List.length_cons, List.length_nil, List.cons_append, List.nil_append, List.append_nil, Nat.reduceAdd, Nat.reduceSub, Nat.zero_add, Nat.sub_self, List.replicate_zero, List.replicate_succ, Option.map_some, Option.bind_some, List.set_cons_zero, List.set_cons_succ, decide_true, decide_false, if_true, if_false, Bool.not_true, Bool.not_false, Bool.true_and, Bool.false_and, Bool.and_true, Bool.and_false, Bool.true_or, Bool.false_or, reduceIte, Bool.false_eq_true, eq_self, ne_eq, not_true_eq_false, not_false_eq_true, Bool.true_eq_false, List.length_map, List.length_range, List.length_append, e_rng2, e_trng, e_lenum, e_dget, e_dgets, e_rev, onS_str, a_tup, a_nil, a_cons, pt1, pt2, pt3, pt4, ln, h0, sgOf]
    · simp only [onB_some, onD_bl, onI_int, onO_some, r_bind, r_err, r_of, r_noerr, r_out, r_oute, o_er, o_rese, told_ok, told_0, told_1, told_2, told_3, told_4, told_5, told_6, told_7, told_8, told_9, told_10, o_nx, o_rt, o_res, o_resn, o_ofE, t_bl, t_int, tups_t, i_lst, i_tup, i_str, put0, putS, get0, getS, getO0, getOS, wipe_nil, wipe_cons, c_lt, c_gt, c_le, c_ge, c_eqI, c_neI, c_eqS, c_neS, c_eqB, c_neB, b_add, b_sub, x_len1, x_len2, x_tup1, x_tup2, x_lst1, x_abs, x_all, x_any, e_nil, e_cons, e_var, e_non, e_bl, e_int, e_str, e_tup, e_lst, e_bin, e_neg, e_cmp, e_chain, e_isn, e_and, e_or, e_and3, e_or3, e_not, e_ite, ifE_t, ifE_f, ifS_t, ifS_f, thenS_nx, thenS_er, thenS_rt, forS_nil, e_call, e_bi, e_isi, e_meth, e_ix, e_sl, e_rng1, e_enum, e_zip, e_lc, e_lcif, e_told, s_rse, s_nil', s_seq, s_set, s_own', s_par, s_parO, s_par3, s_frz, s_app, s_ret, s_ifs, s_fors, s_whl, s_ex, a_var, startE, List.map_cons, List.map_nil, List.length_cons, List.length_nil, List.cons_append, List.nil_append, List.append_nil, Nat.reduceAdd, Nat.reduceSub, Nat.zero_add, Nat.sub_self, List.replicate_zero, List.replicate_succ, Option.map_some, Option.bind_some, List.set_cons_zero, List.set_cons_succ, decide_true, decide_false, if_true, if_false, Bool.not_true, Bool.not_false, Bool.true_and, Bool.false_and, Bool.and_true, Bool.and_false, Bool.true_or, Bool.false_or, reduceIte, Bool.false_eq_true, eq_self, ne_eq, not_true_eq_false, not_false_eq_true, Bool.true_eq_false, List.length_map, List.length_range, List.length_append, e_rng2, e_trng, e_lenum, e_dget, e_dgets, e_rev, onS_str, a_tup, a_nil, a_cons, pt1, pt2, pt3, pt4, ln, h0, sgOf]⟩
  generalize sel (sgAt t) (lcand n) = F at *
  have hlim : F.length ≤ lim := le_lim (by omega)
  simp only [onB_some, onD_bl, onI_int, onO_some, r_bind, r_err, r_of, r_noerr, r_out, r_oute, o_er, o_rese, told_ok, told_0, told_1, told_2, told_3, told_4, told_5, told_6, told_7, told_8, told_9, told_10, o_nx, o_rt, o_res, o_resn, o_ofE, t_bl, t_int, tups_t, i_lst, i_tup, i_str, put0, putS, get0, getS, getO0, getOS, wipe_nil, wipe_cons, c_lt, c_gt, c_le, c_ge, c_eqI, c_neI, c_eqS, c_neS, c_eqB, c_neB, b_add, b_sub, x_len1, x_len2, x_tup1, x_tup2, x_lst1, x_abs, x_all, x_any, e_nil, e_cons, e_var, e_non, e_bl, e_int, e_str, e_tup, e_lst, e_bin, e_neg, e_cmp, e_chain, e_isn, e_and, e_or, e_and3, e_or3, e_not, e_ite, ifE_t, ifE_f, ifS_t, ifS_f, thenS_nx, thenS_er, thenS_rt, forS_nil, e_call, e_bi, e_isi, e_meth, e_ix, e_sl, e_rng1, e_enum, e_zip, e_lc, e_lcif, e_told, s_rse, s_nil', s_seq, s_set, s_own', s_par, s_parO, s_par3, s_frz, s_app, s_ret, s_ifs, s_fors, s_whl, s_ex, a_var, startE, List.map_cons, List.map_nil, List.length_cons, List.length_nil, List.cons_append, List.nil_append, List.append_nil, Nat.reduceAdd, Nat.reduceSub, Nat.zero_add, Nat.sub_self, List.replicate_zero, List.replicate_succ, Option.map_some, Option.bind_some, List.set_cons_zero, List.set_cons_succ, decide_true, decide_false, if_true, if_false, Bool.not_true, Bool.not_false, Bool.true_and, Bool.false_and, Bool.and_true, Bool.and_false, Bool.true_or, Bool.false_or, reduceIte, Bool.false_eq_true, eq_self, ne_eq, not_true_eq_false, not_false_eq_true, Bool.true_eq_false, List.length_map, List.length_range, List.length_append, e_rng2, e_trng, e_lenum, e_dget, e_dgets, e_rev, onS_str, a_tup, a_nil, a_cons, pt1, pt2, pt3, pt4, hlim, lc, so]
end
end SG
namespace SG
theorem c_drawn {k : Nat} {cell j : Int} {d : Dice} : evCall allDefs (k + 1) 7 [.int cell, .int j] d = .ok (.int (drawn cell j)) d := by
  rw [call_eq (df := F_law_drawn) rfl rfl]
  unfold F_law_drawn
  simp only [onB_some, onD_bl, onI_int, onO_some, r_bind, r_err, r_of, r_noerr, r_out, r_oute, o_er, o_rese, told_ok, told_0, told_1, told_2, told_3, told_4, told_5, told_6, told_7, told_8, told_9, told_10, o_nx, o_rt, o_res, o_resn, o_ofE, t_bl, t_int, tups_t, i_lst, i_tup, i_str, put0, putS, get0, getS, getO0, getOS, wipe_nil, wipe_cons, c_lt, c_gt, c_le, c_ge, c_eqI, c_neI, c_eqS, c_neS, c_eqB, c_neB, b_add, b_sub, x_len1, x_len2, x_tup1, x_tup2, x_lst1, x_abs, x_all, x_any, e_nil, e_cons, e_var, e_non, e_bl, e_int, e_str, e_tup, e_lst, e_bin, e_neg, e_cmp, e_chain, e_isn, e_and, e_or, e_and3, e_or3, e_not, e_ite, ifE_t, ifE_f, ifS_t, ifS_f, thenS_nx, thenS_er, thenS_rt, forS_nil, e_call, e_bi, e_isi, e_meth, e_ix, e_sl, e_rng1, e_enum, e_zip, e_lc, e_lcif, e_told, s_rse, s_nil', s_seq, s_set, s_own', s_par, s_parO, s_par3, s_frz, s_app, s_ret, s_ifs, s_fors, s_whl, s_ex, a_var, startE, List.map_cons, List.map_nil, List.length_cons, List.length_nil, List.cons_append, List.nil_append, List.append_nil, Nat.reduceAdd, Nat.reduceSub, Nat.zero_add, Nat.sub_self, List.replicate_zero, List.replicate_succ, Option.map_some, Option.bind_some, List.set_cons_zero, List.set_cons_succ, decide_true, decide_false, if_true, if_false, Bool.not_true, Bool.not_false, Bool.true_and, Bool.false_and, Bool.and_true, Bool.and_false, Bool.true_or, Bool.false_or, reduceIte, Bool.false_eq_true, eq_self, ne_eq, not_true_eq_false, not_false_eq_true]
  rw [mulR (by decide)]
  simp only [onB_some, onD_bl, onI_int, onO_some, r_bind, r_err, r_of, r_noerr, r_out, r_oute, o_er, o_rese, told_ok, told_0, told_1, told_2, told_3, told_4, told_5, told_6, told_7, told_8, told_9, told_10, o_nx, o_rt, o_res, o_resn, o_ofE, t_bl, t_int, tups_t, i_lst, i_tup, i_str, put0, putS, get0, getS, getO0, getOS, wipe_nil, wipe_cons, c_lt, c_gt, c_le, c_ge, c_eqI, c_neI, c_eqS, c_neS, c_eqB, c_neB, b_add, b_sub, x_len1, x_len2, x_tup1, x_tup2, x_lst1, x_abs, x_all, x_any, e_nil, e_cons, e_var, e_non, e_bl, e_int, e_str, e_tup, e_lst, e_bin, e_neg, e_cmp, e_chain, e_isn, e_and, e_or, e_and3, e_or3, e_not, e_ite, ifE_t, ifE_f, ifS_t, ifS_f, thenS_nx, thenS_er, thenS_rt, forS_nil, e_call, e_bi, e_isi, e_meth, e_ix, e_sl, e_rng1, e_enum, e_zip, e_lc, e_lcif, e_told, s_rse, s_nil', s_seq, s_set, s_own', s_par, s_parO, s_par3, s_frz, s_app, s_ret, s_ifs, s_fors, s_whl, s_ex, a_var, startE, List.map_cons, List.map_nil, List.length_cons, List.length_nil, List.cons_append, List.nil_append, List.append_nil, Nat.reduceAdd, Nat.reduceSub, Nat.zero_add, Nat.sub_self, List.replicate_zero, List.replicate_succ, Option.map_some, Option.bind_some, List.set_cons_zero, List.set_cons_succ, decide_true, decide_false, if_true, if_false, Bool.not_true, Bool.not_false, Bool.true_and, Bool.false_and, Bool.and_true, Bool.and_false, Bool.true_or, Bool.false_or, reduceIte, Bool.false_eq_true, eq_self, ne_eq, not_true_eq_false, not_false_eq_true]
  rw [mulR (by decide)]
  simp only [onB_some, onD_bl, onI_int, onO_some, r_bind, r_err, r_of, r_noerr, r_out, r_oute, o_er, o_rese, told_ok, told_0, told_1, told_2, told_3, told_4, told_5, told_6, told_7, told_8, told_9, told_10, o_nx, o_rt, o_res, o_resn, o_ofE, t_bl, t_int, tups_t, i_lst, i_tup, i_str, put0, putS, get0, getS, getO0, getOS, wipe_nil, wipe_cons, c_lt, c_gt, c_le, c_ge, c_eqI, c_neI, c_eqS, c_neS, c_eqB, c_neB, b_add, b_sub, x_len1, x_len2, x_tup1, x_tup2, x_lst1, x_abs, x_all, x_any, e_nil, e_cons, e_var, e_non, e_bl, e_int, e_str, e_tup, e_lst, e_bin, e_neg, e_cmp, e_chain, e_isn, e_and, e_or, e_and3, e_or3, e_not, e_ite, ifE_t, ifE_f, ifS_t, ifS_f, thenS_nx, thenS_er, thenS_rt, forS_nil, e_call, e_bi, e_isi, e_meth, e_ix, e_sl, e_rng1, e_enum, e_zip, e_lc, e_lcif, e_told, s_rse, s_nil', s_seq, s_set, s_own', s_par, s_parO, s_par3, s_frz, s_app, s_ret, s_ifs, s_fors, s_whl, s_ex, a_var, startE, List.map_cons, List.map_nil, List.length_cons, List.length_nil, List.cons_append, List.nil_append, List.append_nil, Nat.reduceAdd, Nat.reduceSub, Nat.zero_add, Nat.sub_self, List.replicate_zero, List.replicate_succ, Option.map_some, Option.bind_some, List.set_cons_zero, List.set_cons_succ, decide_true, decide_false, if_true, if_false, Bool.not_true, Bool.not_false, Bool.true_and, Bool.false_and, Bool.and_true, Bool.and_false, Bool.true_or, Bool.false_or, reduceIte, Bool.false_eq_true, eq_self, ne_eq, not_true_eq_false, not_false_eq_true]
  rw [modB (by decide)]
  simp only [onB_some, onD_bl, onI_int, onO_some, r_bind, r_err, r_of, r_noerr, r_out, r_oute, o_er, o_rese, told_ok, told_0, told_1, told_2, told_3, told_4, told_5, told_6, told_7, told_8, told_9, told_10, o_nx, o_rt, o_res, o_resn, o_ofE, t_bl, t_int, tups_t, i_lst, i_tup, i_str, put0, putS, get0, getS, getO0, getOS, wipe_nil, wipe_cons, c_lt, c_gt, c_le, c_ge, c_eqI, c_neI, c_eqS, c_neS, c_eqB, c_neB, b_add, b_sub, x_len1, x_len2, x_tup1, x_tup2, x_lst1, x_abs, x_all, x_any, e_nil, e_cons, e_var, e_non, e_bl, e_int, e_str, e_tup, e_lst, e_bin, e_neg, e_cmp, e_chain, e_isn, e_and, e_or, e_and3, e_or3, e_not, e_ite, ifE_t, ifE_f, ifS_t, ifS_f, thenS_nx, thenS_er, thenS_rt, forS_nil, e_call, e_bi, e_isi, e_meth, e_ix, e_sl, e_rng1, e_enum, e_zip, e_lc, e_lcif, e_told, s_rse, s_nil', s_seq, s_set, s_own', s_par, s_parO, s_par3, s_frz, s_app, s_ret, s_ifs, s_fors, s_whl, s_ex, a_var, startE, List.map_cons, List.map_nil, List.length_cons, List.length_nil, List.cons_append, List.nil_append, List.append_nil, Nat.reduceAdd, Nat.reduceSub, Nat.zero_add, Nat.sub_self, List.replicate_zero, List.replicate_succ, Option.map_some, Option.bind_some, List.set_cons_zero, List.set_cons_succ, decide_true, decide_false, if_true, if_false, Bool.not_true, Bool.not_false, Bool.true_and, Bool.false_and, Bool.and_true, Bool.and_false, Bool.true_or, Bool.false_or, reduceIte, Bool.false_eq_true, eq_self, ne_eq, not_true_eq_false, not_false_eq_true]
  generalize ha : (cell * 6364136223846793005 + (j + 1) * 1442695040888963407).fmod 340282366920938463463374607431768211507 = a
  have ba : 0 ≤ a ∧ a < 340282366920938463463374607431768211507 := by rw [← ha]; exact fmod_lt (by decide)
  have na : a.natAbs < 2 ^ 400 := Nat.lt_of_lt_of_le (show a.natAbs < 2 ^ 130 by omega) (Nat.pow_le_pow_right (by decide) (by decide))
  rw [mulS na na]
  simp only [onB_some, onD_bl, onI_int, onO_some, r_bind, r_err, r_of, r_noerr, r_out, r_oute, o_er, o_rese, told_ok, told_0, told_1, told_2, told_3, told_4, told_5, told_6, told_7, told_8, told_9, told_10, o_nx, o_rt, o_res, o_resn, o_ofE, t_bl, t_int, tups_t, i_lst, i_tup, i_str, put0, putS, get0, getS, getO0, getOS, wipe_nil, wipe_cons, c_lt, c_gt, c_le, c_ge, c_eqI, c_neI, c_eqS, c_neS, c_eqB, c_neB, b_add, b_sub, x_len1, x_len2, x_tup1, x_tup2, x_lst1, x_abs, x_all, x_any, e_nil, e_cons, e_var, e_non, e_bl, e_int, e_str, e_tup, e_lst, e_bin, e_neg, e_cmp, e_chain, e_isn, e_and, e_or, e_and3, e_or3, e_not, e_ite, ifE_t, ifE_f, ifS_t, ifS_f, thenS_nx, thenS_er, thenS_rt, forS_nil, e_call, e_bi, e_isi, e_meth, e_ix, e_sl, e_rng1, e_enum, e_zip, e_lc, e_lcif, e_told, s_rse, s_nil', s_seq, s_set, s_own', s_par, s_parO, s_par3, s_frz, s_app, s_ret, s_ifs, s_fors, s_whl, s_ex, a_var, startE, List.map_cons, List.map_nil, List.length_cons, List.length_nil, List.cons_append, List.nil_append, List.append_nil, Nat.reduceAdd, Nat.reduceSub, Nat.zero_add, Nat.sub_self, List.replicate_zero, List.replicate_succ, Option.map_some, Option.bind_some, List.set_cons_zero, List.set_cons_succ, decide_true, decide_false, if_true, if_false, Bool.not_true, Bool.not_false, Bool.true_and, Bool.false_and, Bool.and_true, Bool.and_false, Bool.true_or, Bool.false_or, reduceIte, Bool.false_eq_true, eq_self, ne_eq, not_true_eq_false, not_false_eq_true]
  rw [modB (by decide)]
  simp only [onB_some, onD_bl, onI_int, onO_some, r_bind, r_err, r_of, r_noerr, r_out, r_oute, o_er, o_rese, told_ok, told_0, told_1, told_2, told_3, told_4, told_5, told_6, told_7, told_8, told_9, told_10, o_nx, o_rt, o_res, o_resn, o_ofE, t_bl, t_int, tups_t, i_lst, i_tup, i_str, put0, putS, get0, getS, getO0, getOS, wipe_nil, wipe_cons, c_lt, c_gt, c_le, c_ge, c_eqI, c_neI, c_eqS, c_neS, c_eqB, c_neB, b_add, b_sub, x_len1, x_len2, x_tup1, x_tup2, x_lst1, x_abs, x_all, x_any, e_nil, e_cons, e_var, e_non, e_bl, e_int, e_str, e_tup, e_lst, e_bin, e_neg, e_cmp, e_chain, e_isn, e_and, e_or, e_and3, e_or3, e_not, e_ite, ifE_t, ifE_f, ifS_t, ifS_f, thenS_nx, thenS_er, thenS_rt, forS_nil, e_call, e_bi, e_isi, e_meth, e_ix, e_sl, e_rng1, e_enum, e_zip, e_lc, e_lcif, e_told, s_rse, s_nil', s_seq, s_set, s_own', s_par, s_parO, s_par3, s_frz, s_app, s_ret, s_ifs, s_fors, s_whl, s_ex, a_var, startE, List.map_cons, List.map_nil, List.length_cons, List.length_nil, List.cons_append, List.nil_append, List.append_nil, Nat.reduceAdd, Nat.reduceSub, Nat.zero_add, Nat.sub_self, List.replicate_zero, List.replicate_succ, Option.map_some, Option.bind_some, List.set_cons_zero, List.set_cons_succ, decide_true, decide_false, if_true, if_false, Bool.not_true, Bool.not_false, Bool.true_and, Bool.false_and, Bool.and_true, Bool.and_false, Bool.true_or, Bool.false_or, reduceIte, Bool.false_eq_true, eq_self, ne_eq, not_true_eq_false, not_false_eq_true]
  generalize hb : (a * a).fmod 340282366920938463463374607431768211297 = b
  have bb : 0 ≤ b ∧ b < 340282366920938463463374607431768211297 := by rw [← hb]; exact fmod_lt (by decide)
  rw [modB (by decide)]
  simp only [onB_some, onD_bl, onI_int, onO_some, r_bind, r_err, r_of, r_noerr, r_out, r_oute, o_er, o_rese, told_ok, told_0, told_1, told_2, told_3, told_4, told_5, told_6, told_7, told_8, told_9, told_10, o_nx, o_rt, o_res, o_resn, o_ofE, t_bl, t_int, tups_t, i_lst, i_tup, i_str, put0, putS, get0, getS, getO0, getOS, wipe_nil, wipe_cons, c_lt, c_gt, c_le, c_ge, c_eqI, c_neI, c_eqS, c_neS, c_eqB, c_neB, b_add, b_sub, x_len1, x_len2, x_tup1, x_tup2, x_lst1, x_abs, x_all, x_any, e_nil, e_cons, e_var, e_non, e_bl, e_int, e_str, e_tup, e_lst, e_bin, e_neg, e_cmp, e_chain, e_isn, e_and, e_or, e_and3, e_or3, e_not, e_ite, ifE_t, ifE_f, ifS_t, ifS_f, thenS_nx, thenS_er, thenS_rt, forS_nil, e_call, e_bi, e_isi, e_meth, e_ix, e_sl, e_rng1, e_enum, e_zip, e_lc, e_lcif, e_told, s_rse, s_nil', s_seq, s_set, s_own', s_par, s_parO, s_par3, s_frz, s_app, s_ret, s_ifs, s_fors, s_whl, s_ex, a_var, startE, List.map_cons, List.map_nil, List.length_cons, List.length_nil, List.cons_append, List.nil_append, List.append_nil, Nat.reduceAdd, Nat.reduceSub, Nat.zero_add, Nat.sub_self, List.replicate_zero, List.replicate_succ, Option.map_some, Option.bind_some, List.set_cons_zero, List.set_cons_succ, decide_true, decide_false, if_true, if_false, Bool.not_true, Bool.not_false, Bool.true_and, Bool.false_and, Bool.and_true, Bool.and_false, Bool.true_or, Bool.false_or, reduceIte, Bool.false_eq_true, eq_self, ne_eq, not_true_eq_false, not_false_eq_true]
  rw [fdivB (by decide) (by decide)]
  simp only [onB_some, onD_bl, onI_int, onO_some, r_bind, r_err, r_of, r_noerr, r_out, r_oute, o_er, o_rese, told_ok, told_0, told_1, told_2, told_3, told_4, told_5, told_6, told_7, told_8, told_9, told_10, o_nx, o_rt, o_res, o_resn, o_ofE, t_bl, t_int, tups_t, i_lst, i_tup, i_str, put0, putS, get0, getS, getO0, getOS, wipe_nil, wipe_cons, c_lt, c_gt, c_le, c_ge, c_eqI, c_neI, c_eqS, c_neS, c_eqB, c_neB, b_add, b_sub, x_len1, x_len2, x_tup1, x_tup2, x_lst1, x_abs, x_all, x_any, e_nil, e_cons, e_var, e_non, e_bl, e_int, e_str, e_tup, e_lst, e_bin, e_neg, e_cmp, e_chain, e_isn, e_and, e_or, e_and3, e_or3, e_not, e_ite, ifE_t, ifE_f, ifS_t, ifS_f, thenS_nx, thenS_er, thenS_rt, forS_nil, e_call, e_bi, e_isi, e_meth, e_ix, e_sl, e_rng1, e_enum, e_zip, e_lc, e_lcif, e_told, s_rse, s_nil', s_seq, s_set, s_own', s_par, s_parO, s_par3, s_frz, s_app, s_ret, s_ifs, s_fors, s_whl, s_ex, a_var, startE, List.map_cons, List.map_nil, List.length_cons, List.length_nil, List.cons_append, List.nil_append, List.append_nil, Nat.reduceAdd, Nat.reduceSub, Nat.zero_add, Nat.sub_self, List.replicate_zero, List.replicate_succ, Option.map_some, Option.bind_some, List.set_cons_zero, List.set_cons_succ, decide_true, decide_false, if_true, if_false, Bool.not_true, Bool.not_false, Bool.true_and, Bool.false_and, Bool.and_true, Bool.and_false, Bool.true_or, Bool.false_or, reduceIte, Bool.false_eq_true, eq_self, ne_eq, not_true_eq_false, not_false_eq_true]
  generalize hm : b.fmod 18446744073709551557 = m
  have bm : 0 ≤ m ∧ m < 18446744073709551557 := by rw [← hm]; exact fmod_lt (by decide)
  generalize hq : b.fdiv 18446744073709551557 = q
  have bq : 0 ≤ q ∧ q ≤ b := by rw [← hq]; exact fdiv_bd bb.1 (by decide)
  have n1 : (m + 1).natAbs < 2 ^ 400 := Nat.lt_of_lt_of_le (show (m + 1).natAbs < 2 ^ 130 by omega) (Nat.pow_le_pow_right (by decide) (by decide))
  have n2 : (q + 1).natAbs < 2 ^ 130 := by omega
  have n3 : (q + 1).natAbs < 2 ^ 400 := Nat.lt_of_lt_of_le n2 (Nat.pow_le_pow_right (by decide) (by decide))
  have nb : b.natAbs < 2 ^ 400 := Nat.lt_of_lt_of_le (show b.natAbs < 2 ^ 130 by omega) (Nat.pow_le_pow_right (by decide) (by decide))
  rw [mulS n1 n3]
  simp only [onB_some, onD_bl, onI_int, onO_some, r_bind, r_err, r_of, r_noerr, r_out, r_oute, o_er, o_rese, told_ok, told_0, told_1, told_2, told_3, told_4, told_5, told_6, told_7, told_8, told_9, told_10, o_nx, o_rt, o_res, o_resn, o_ofE, t_bl, t_int, tups_t, i_lst, i_tup, i_str, put0, putS, get0, getS, getO0, getOS, wipe_nil, wipe_cons, c_lt, c_gt, c_le, c_ge, c_eqI, c_neI, c_eqS, c_neS, c_eqB, c_neB, b_add, b_sub, x_len1, x_len2, x_tup1, x_tup2, x_lst1, x_abs, x_all, x_any, e_nil, e_cons, e_var, e_non, e_bl, e_int, e_str, e_tup, e_lst, e_bin, e_neg, e_cmp, e_chain, e_isn, e_and, e_or, e_and3, e_or3, e_not, e_ite, ifE_t, ifE_f, ifS_t, ifS_f, thenS_nx, thenS_er, thenS_rt, forS_nil, e_call, e_bi, e_isi, e_meth, e_ix, e_sl, e_rng1, e_enum, e_zip, e_lc, e_lcif, e_told, s_rse, s_nil', s_seq, s_set, s_own', s_par, s_parO, s_par3, s_frz, s_app, s_ret, s_ifs, s_fors, s_whl, s_ex, a_var, startE, List.map_cons, List.map_nil, List.length_cons, List.length_nil, List.cons_append, List.nil_append, List.append_nil, Nat.reduceAdd, Nat.reduceSub, Nat.zero_add, Nat.sub_self, List.replicate_zero, List.replicate_succ, Option.map_some, Option.bind_some, List.set_cons_zero, List.set_cons_succ, decide_true, decide_false, if_true, if_false, Bool.not_true, Bool.not_false, Bool.true_and, Bool.false_and, Bool.and_true, Bool.and_false, Bool.true_or, Bool.false_or, reduceIte, Bool.false_eq_true, eq_self, ne_eq, not_true_eq_false, not_false_eq_true]
  have n4 : ((m + 1) * (q + 1)).natAbs < 2 ^ 400 := by
    rw [Int.natAbs_mul]
    refine Nat.lt_of_lt_of_le (Nat.mul_lt_mul'' (show (m + 1).natAbs < 2 ^ 130 by omega) n2) ?_
    decide
  rw [mulS n4 nb]
  simp only [onB_some, onD_bl, onI_int, onO_some, r_bind, r_err, r_of, r_noerr, r_out, r_oute, o_er, o_rese, told_ok, told_0, told_1, told_2, told_3, told_4, told_5, told_6, told_7, told_8, told_9, told_10, o_nx, o_rt, o_res, o_resn, o_ofE, t_bl, t_int, tups_t, i_lst, i_tup, i_str, put0, putS, get0, getS, getO0, getOS, wipe_nil, wipe_cons, c_lt, c_gt, c_le, c_ge, c_eqI, c_neI, c_eqS, c_neS, c_eqB, c_neB, b_add, b_sub, x_len1, x_len2, x_tup1, x_tup2, x_lst1, x_abs, x_all, x_any, e_nil, e_cons, e_var, e_non, e_bl, e_int, e_str, e_tup, e_lst, e_bin, e_neg, e_cmp, e_chain, e_isn, e_and, e_or, e_and3, e_or3, e_not, e_ite, ifE_t, ifE_f, ifS_t, ifS_f, thenS_nx, thenS_er, thenS_rt, forS_nil, e_call, e_bi, e_isi, e_meth, e_ix, e_sl, e_rng1, e_enum, e_zip, e_lc, e_lcif, e_told, s_rse, s_nil', s_seq, s_set, s_own', s_par, s_parO, s_par3, s_frz, s_app, s_ret, s_ifs, s_fors, s_whl, s_ex, a_var, startE, List.map_cons, List.map_nil, List.length_cons, List.length_nil, List.cons_append, List.nil_append, List.append_nil, Nat.reduceAdd, Nat.reduceSub, Nat.zero_add, Nat.sub_self, List.replicate_zero, List.replicate_succ, Option.map_some, Option.bind_some, List.set_cons_zero, List.set_cons_succ, decide_true, decide_false, if_true, if_false, Bool.not_true, Bool.not_false, Bool.true_and, Bool.false_and, Bool.and_true, Bool.and_false, Bool.true_or, Bool.false_or, reduceIte, Bool.false_eq_true, eq_self, ne_eq, not_true_eq_false, not_false_eq_true]
  rw [modB (by decide)]
  simp only [onB_some, onD_bl, onI_int, onO_some, r_bind, r_err, r_of, r_noerr, r_out, r_oute, o_er, o_rese, told_ok, told_0, told_1, told_2, told_3, told_4, told_5, told_6, told_7, told_8, told_9, told_10, o_nx, o_rt, o_res, o_resn, o_ofE, t_bl, t_int, tups_t, i_lst, i_tup, i_str, put0, putS, get0, getS, getO0, getOS, wipe_nil, wipe_cons, c_lt, c_gt, c_le, c_ge, c_eqI, c_neI, c_eqS, c_neS, c_eqB, c_neB, b_add, b_sub, x_len1, x_len2, x_tup1, x_tup2, x_lst1, x_abs, x_all, x_any, e_nil, e_cons, e_var, e_non, e_bl, e_int, e_str, e_tup, e_lst, e_bin, e_neg, e_cmp, e_chain, e_isn, e_and, e_or, e_and3, e_or3, e_not, e_ite, ifE_t, ifE_f, ifS_t, ifS_f, thenS_nx, thenS_er, thenS_rt, forS_nil, e_call, e_bi, e_isi, e_meth, e_ix, e_sl, e_rng1, e_enum, e_zip, e_lc, e_lcif, e_told, s_rse, s_nil', s_seq, s_set, s_own', s_par, s_parO, s_par3, s_frz, s_app, s_ret, s_ifs, s_fors, s_whl, s_ex, a_var, startE, List.map_cons, List.map_nil, List.length_cons, List.length_nil, List.cons_append, List.nil_append, List.append_nil, Nat.reduceAdd, Nat.reduceSub, Nat.zero_add, Nat.sub_self, List.replicate_zero, List.replicate_succ, Option.map_some, Option.bind_some, List.set_cons_zero, List.set_cons_succ, decide_true, decide_false, if_true, if_false, Bool.not_true, Bool.not_false, Bool.true_and, Bool.false_and, Bool.and_true, Bool.and_false, Bool.true_or, Bool.false_or, reduceIte, Bool.false_eq_true, eq_self, ne_eq, not_true_eq_false, not_false_eq_true]
  subst hm hq hb ha
  rfl
theorem e_dix0 {cf : CF} {r : Env} {d : Dice} : ev cf (.dix 0 0) (.sh .die :: r) d = .ok (.int d.1) d := by simp [ev]
theorem e_dix1 {cf : CF} {r : Env} {d : Dice} : ev cf (.dix 0 1) (.sh .die :: r) d = .ok (.int d.2) d := by simp [ev]
theorem s_dst0 {cf : CF} {r : Env} {d : Dice} {e : E} : evS cf (.dst 0 0 e) (.sh .die :: r) d = (ev cf e (.sh .die :: r) d).out fun x d => onI x (fun z => .nx (.sh .die :: r) (z, d.2)) .bad := by simp [evS]; rfl
theorem s_dst1 {cf : CF} {r : Env} {d : Dice} {e : E} : evS cf (.dst 0 1 e) (.sh .die :: r) d = (ev cf e (.sh .die :: r) d).out fun x d => onI x (fun z => .nx (.sh .die :: r) (d.1, z)) .bad := by simp [evS]; rfl
theorem c_roll {k : Nat} {m : Int} {d : Dice} (h : 0 < m) (h2 : m < 1000) : evCall allDefs (k + 2) 8 [.die, .int m] d = .ok (.int (roll d m).1) (roll d m).2 := by
  rw [call_eq (df := F_law_roll) rfl rfl]
  have hm0 : m ≠ 0 := by omega
  have nm : m.natAbs < 2 ^ 400 := Nat.lt_of_lt_of_le (show m.natAbs < 2 ^ 130 by omega) (Nat.pow_le_pow_right (by decide) (by decide))
  have hp : opBin .pow (.int 10) (.int 18) = some (.int (10 ^ 18)) := rfl
  unfold F_law_roll
  simp only [onB_some, onD_bl, onI_int, onO_some, r_bind, r_err, r_of, r_noerr, r_out, r_oute, o_er, o_rese, told_ok, told_0, told_1, told_2, told_3, told_4, told_5, told_6, told_7, told_8, told_9, told_10, o_nx, o_rt, o_res, o_resn, o_ofE, t_bl, t_int, tups_t, i_lst, i_tup, i_str, put0, putS, get0, getS, getO0, getOS, wipe_nil, wipe_cons, c_lt, c_gt, c_le, c_ge, c_eqI, c_neI, c_eqS, c_neS, c_eqB, c_neB, b_add, b_sub, x_len1, x_len2, x_tup1, x_tup2, x_lst1, x_abs, x_all, x_any, e_nil, e_cons, e_var, e_non, e_bl, e_int, e_str, e_tup, e_lst, e_bin, e_neg, e_cmp, e_chain, e_isn, e_and, e_or, e_and3, e_or3, e_not, e_ite, ifE_t, ifE_f, ifS_t, ifS_f, thenS_nx, thenS_er, thenS_rt, forS_nil, e_call, e_bi, e_isi, e_meth, e_ix, e_sl, e_rng1, e_enum, e_zip, e_lc, e_lcif, e_told, s_rse, s_nil', s_seq, s_set, s_own', s_par, s_parO, s_par3, s_frz, s_app, s_ret, s_ifs, s_fors, s_whl, s_ex, a_var, startE, List.map_cons, List.map_nil, List.length_cons, List.length_nil, List.cons_append, List.nil_append, List.append_nil, Nat.reduceAdd, Nat.reduceSub, Nat.zero_add, Nat.sub_self, List.replicate_zero, List.replicate_succ, Option.map_some, Option.bind_some, List.set_cons_zero, List.set_cons_succ, decide_true, decide_false, if_true, if_false, Bool.not_true, Bool.not_false, Bool.true_and, Bool.false_and, Bool.and_true, Bool.and_false, Bool.true_or, Bool.false_or, reduceIte, Bool.false_eq_true, eq_self, ne_eq, not_true_eq_false, not_false_eq_true, e_dix0, e_dix1, s_dst0, s_dst1, hp]
  unfold roll
  by_cases hc : (10 : Int) ^ 18 ≤ d.1
  · simp only [onB_some, onD_bl, onI_int, onO_some, r_bind, r_err, r_of, r_noerr, r_out, r_oute, o_er, o_rese, told_ok, told_0, told_1, told_2, told_3, told_4, told_5, told_6, told_7, told_8, told_9, told_10, o_nx, o_rt, o_res, o_resn, o_ofE, t_bl, t_int, tups_t, i_lst, i_tup, i_str, put0, putS, get0, getS, getO0, getOS, wipe_nil, wipe_cons, c_lt, c_gt, c_le, c_ge, c_eqI, c_neI, c_eqS, c_neS, c_eqB, c_neB, b_add, b_sub, x_len1, x_len2, x_tup1, x_tup2, x_lst1, x_abs, x_all, x_any, e_nil, e_cons, e_var, e_non, e_bl, e_int, e_str, e_tup, e_lst, e_bin, e_neg, e_cmp, e_chain, e_isn, e_and, e_or, e_and3, e_or3, e_not, e_ite, ifE_t, ifE_f, ifS_t, ifS_f, thenS_nx, thenS_er, thenS_rt, forS_nil, e_call, e_bi, e_isi, e_meth, e_ix, e_sl, e_rng1, e_enum, e_zip, e_lc, e_lcif, e_told, s_rse, s_nil', s_seq, s_set, s_own', s_par, s_parO, s_par3, s_frz, s_app, s_ret, s_ifs, s_fors, s_whl, s_ex, a_var, startE, List.map_cons, List.map_nil, List.length_cons, List.length_nil, List.cons_append, List.nil_append, List.append_nil, Nat.reduceAdd, Nat.reduceSub, Nat.zero_add, Nat.sub_self, List.replicate_zero, List.replicate_succ, Option.map_some, Option.bind_some, List.set_cons_zero, List.set_cons_succ, decide_true, decide_false, if_true, if_false, Bool.not_true, Bool.not_false, Bool.true_and, Bool.false_and, Bool.and_true, Bool.and_false, Bool.true_or, Bool.false_or, reduceIte, Bool.false_eq_true, eq_self, ne_eq, not_true_eq_false, not_false_eq_true, hc, ge_iff_le, e_dix0]
    rw [modB hm0]
    simp only [onB_some, onD_bl, onI_int, onO_some, r_bind, r_err, r_of, r_noerr, r_out, r_oute, o_er, o_rese, told_ok, told_0, told_1, told_2, told_3, told_4, told_5, told_6, told_7, told_8, told_9, told_10, o_nx, o_rt, o_res, o_resn, o_ofE, t_bl, t_int, tups_t, i_lst, i_tup, i_str, put0, putS, get0, getS, getO0, getOS, wipe_nil, wipe_cons, c_lt, c_gt, c_le, c_ge, c_eqI, c_neI, c_eqS, c_neS, c_eqB, c_neB, b_add, b_sub, x_len1, x_len2, x_tup1, x_tup2, x_lst1, x_abs, x_all, x_any, e_nil, e_cons, e_var, e_non, e_bl, e_int, e_str, e_tup, e_lst, e_bin, e_neg, e_cmp, e_chain, e_isn, e_and, e_or, e_and3, e_or3, e_not, e_ite, ifE_t, ifE_f, ifS_t, ifS_f, thenS_nx, thenS_er, thenS_rt, forS_nil, e_call, e_bi, e_isi, e_meth, e_ix, e_sl, e_rng1, e_enum, e_zip, e_lc, e_lcif, e_told, s_rse, s_nil', s_seq, s_set, s_own', s_par, s_parO, s_par3, s_frz, s_app, s_ret, s_ifs, s_fors, s_whl, s_ex, a_var, startE, List.map_cons, List.map_nil, List.length_cons, List.length_nil, List.cons_append, List.nil_append, List.append_nil, Nat.reduceAdd, Nat.reduceSub, Nat.zero_add, Nat.sub_self, List.replicate_zero, List.replicate_succ, Option.map_some, Option.bind_some, List.set_cons_zero, List.set_cons_succ, decide_true, decide_false, if_true, if_false, Bool.not_true, Bool.not_false, Bool.true_and, Bool.false_and, Bool.and_true, Bool.and_false, Bool.true_or, Bool.false_or, reduceIte, Bool.false_eq_true, eq_self, ne_eq, not_true_eq_false, not_false_eq_true, s_dst0, e_dix0]
    rw [fdivB hm0 nm]
    simp only [onB_some, onD_bl, onI_int, onO_some, r_bind, r_err, r_of, r_noerr, r_out, r_oute, o_er, o_rese, told_ok, told_0, told_1, told_2, told_3, told_4, told_5, told_6, told_7, told_8, told_9, told_10, o_nx, o_rt, o_res, o_resn, o_ofE, t_bl, t_int, tups_t, i_lst, i_tup, i_str, put0, putS, get0, getS, getO0, getOS, wipe_nil, wipe_cons, c_lt, c_gt, c_le, c_ge, c_eqI, c_neI, c_eqS, c_neS, c_eqB, c_neB, b_add, b_sub, x_len1, x_len2, x_tup1, x_tup2, x_lst1, x_abs, x_all, x_any, e_nil, e_cons, e_var, e_non, e_bl, e_int, e_str, e_tup, e_lst, e_bin, e_neg, e_cmp, e_chain, e_isn, e_and, e_or, e_and3, e_or3, e_not, e_ite, ifE_t, ifE_f, ifS_t, ifS_f, thenS_nx, thenS_er, thenS_rt, forS_nil, e_call, e_bi, e_isi, e_meth, e_ix, e_sl, e_rng1, e_enum, e_zip, e_lc, e_lcif, e_told, s_rse, s_nil', s_seq, s_set, s_own', s_par, s_parO, s_par3, s_frz, s_app, s_ret, s_ifs, s_fors, s_whl, s_ex, a_var, startE, List.map_cons, List.map_nil, List.length_cons, List.length_nil, List.cons_append, List.nil_append, List.append_nil, Nat.reduceAdd, Nat.reduceSub, Nat.zero_add, Nat.sub_self, List.replicate_zero, List.replicate_succ, Option.map_some, Option.bind_some, List.set_cons_zero, List.set_cons_succ, decide_true, decide_false, if_true, if_false, Bool.not_true, Bool.not_false, Bool.true_and, Bool.false_and, Bool.and_true, Bool.and_false, Bool.true_or, Bool.false_or, reduceIte, Bool.false_eq_true, eq_self, ne_eq, not_true_eq_false, not_false_eq_true]
  · simp only [onB_some, onD_bl, onI_int, onO_some, r_bind, r_err, r_of, r_noerr, r_out, r_oute, o_er, o_rese, told_ok, told_0, told_1, told_2, told_3, told_4, told_5, told_6, told_7, told_8, told_9, told_10, o_nx, o_rt, o_res, o_resn, o_ofE, t_bl, t_int, tups_t, i_lst, i_tup, i_str, put0, putS, get0, getS, getO0, getOS, wipe_nil, wipe_cons, c_lt, c_gt, c_le, c_ge, c_eqI, c_neI, c_eqS, c_neS, c_eqB, c_neB, b_add, b_sub, x_len1, x_len2, x_tup1, x_tup2, x_lst1, x_abs, x_all, x_any, e_nil, e_cons, e_var, e_non, e_bl, e_int, e_str, e_tup, e_lst, e_bin, e_neg, e_cmp, e_chain, e_isn, e_and, e_or, e_and3, e_or3, e_not, e_ite, ifE_t, ifE_f, ifS_t, ifS_f, thenS_nx, thenS_er, thenS_rt, forS_nil, e_call, e_bi, e_isi, e_meth, e_ix, e_sl, e_rng1, e_enum, e_zip, e_lc, e_lcif, e_told, s_rse, s_nil', s_seq, s_set, s_own', s_par, s_parO, s_par3, s_frz, s_app, s_ret, s_ifs, s_fors, s_whl, s_ex, a_var, startE, List.map_cons, List.map_nil, List.length_cons, List.length_nil, List.cons_append, List.nil_append, List.append_nil, Nat.reduceAdd, Nat.reduceSub, Nat.zero_add, Nat.sub_self, List.replicate_zero, List.replicate_succ, Option.map_some, Option.bind_some, List.set_cons_zero, List.set_cons_succ, decide_true, decide_false, if_true, if_false, Bool.not_true, Bool.not_false, Bool.true_and, Bool.false_and, Bool.and_true, Bool.and_false, Bool.true_or, Bool.false_or, reduceIte, Bool.false_eq_true, eq_self, ne_eq, not_true_eq_false, not_false_eq_true, hc, ge_iff_le, s_dst1, e_dix1, e_dix0]
    rw [c_drawn]
    simp only [onB_some, onD_bl, onI_int, onO_some, r_bind, r_err, r_of, r_noerr, r_out, r_oute, o_er, o_rese, told_ok, told_0, told_1, told_2, told_3, told_4, told_5, told_6, told_7, told_8, told_9, told_10, o_nx, o_rt, o_res, o_resn, o_ofE, t_bl, t_int, tups_t, i_lst, i_tup, i_str, put0, putS, get0, getS, getO0, getOS, wipe_nil, wipe_cons, c_lt, c_gt, c_le, c_ge, c_eqI, c_neI, c_eqS, c_neS, c_eqB, c_neB, b_add, b_sub, x_len1, x_len2, x_tup1, x_tup2, x_lst1, x_abs, x_all, x_any, e_nil, e_cons, e_var, e_non, e_bl, e_int, e_str, e_tup, e_lst, e_bin, e_neg, e_cmp, e_chain, e_isn, e_and, e_or, e_and3, e_or3, e_not, e_ite, ifE_t, ifE_f, ifS_t, ifS_f, thenS_nx, thenS_er, thenS_rt, forS_nil, e_call, e_bi, e_isi, e_meth, e_ix, e_sl, e_rng1, e_enum, e_zip, e_lc, e_lcif, e_told, s_rse, s_nil', s_seq, s_set, s_own', s_par, s_parO, s_par3, s_frz, s_app, s_ret, s_ifs, s_fors, s_whl, s_ex, a_var, startE, List.map_cons, List.map_nil, List.length_cons, List.length_nil, List.cons_append, List.nil_append, List.append_nil, Nat.reduceAdd, Nat.reduceSub, Nat.zero_add, Nat.sub_self, List.replicate_zero, List.replicate_succ, Option.map_some, Option.bind_some, List.set_cons_zero, List.set_cons_succ, decide_true, decide_false, if_true, if_false, Bool.not_true, Bool.not_false, Bool.true_and, Bool.false_and, Bool.and_true, Bool.and_false, Bool.true_or, Bool.false_or, reduceIte, Bool.false_eq_true, eq_self, ne_eq, not_true_eq_false, not_false_eq_true]
    rw [fdivB (by decide) (by decide)]
    simp only [onB_some, onD_bl, onI_int, onO_some, r_bind, r_err, r_of, r_noerr, r_out, r_oute, o_er, o_rese, told_ok, told_0, told_1, told_2, told_3, told_4, told_5, told_6, told_7, told_8, told_9, told_10, o_nx, o_rt, o_res, o_resn, o_ofE, t_bl, t_int, tups_t, i_lst, i_tup, i_str, put0, putS, get0, getS, getO0, getOS, wipe_nil, wipe_cons, c_lt, c_gt, c_le, c_ge, c_eqI, c_neI, c_eqS, c_neS, c_eqB, c_neB, b_add, b_sub, x_len1, x_len2, x_tup1, x_tup2, x_lst1, x_abs, x_all, x_any, e_nil, e_cons, e_var, e_non, e_bl, e_int, e_str, e_tup, e_lst, e_bin, e_neg, e_cmp, e_chain, e_isn, e_and, e_or, e_and3, e_or3, e_not, e_ite, ifE_t, ifE_f, ifS_t, ifS_f, thenS_nx, thenS_er, thenS_rt, forS_nil, e_call, e_bi, e_isi, e_meth, e_ix, e_sl, e_rng1, e_enum, e_zip, e_lc, e_lcif, e_told, s_rse, s_nil', s_seq, s_set, s_own', s_par, s_parO, s_par3, s_frz, s_app, s_ret, s_ifs, s_fors, s_whl, s_ex, a_var, startE, List.map_cons, List.map_nil, List.length_cons, List.length_nil, List.cons_append, List.nil_append, List.append_nil, Nat.reduceAdd, Nat.reduceSub, Nat.zero_add, Nat.sub_self, List.replicate_zero, List.replicate_succ, Option.map_some, Option.bind_some, List.set_cons_zero, List.set_cons_succ, decide_true, decide_false, if_true, if_false, Bool.not_true, Bool.not_false, Bool.true_and, Bool.false_and, Bool.and_true, Bool.and_false, Bool.true_or, Bool.false_or, reduceIte, Bool.false_eq_true, eq_self, ne_eq, not_true_eq_false, not_false_eq_true]
    rw [modB hm0]
    simp only [onB_some, onD_bl, onI_int, onO_some, r_bind, r_err, r_of, r_noerr, r_out, r_oute, o_er, o_rese, told_ok, told_0, told_1, told_2, told_3, told_4, told_5, told_6, told_7, told_8, told_9, told_10, o_nx, o_rt, o_res, o_resn, o_ofE, t_bl, t_int, tups_t, i_lst, i_tup, i_str, put0, putS, get0, getS, getO0, getOS, wipe_nil, wipe_cons, c_lt, c_gt, c_le, c_ge, c_eqI, c_neI, c_eqS, c_neS, c_eqB, c_neB, b_add, b_sub, x_len1, x_len2, x_tup1, x_tup2, x_lst1, x_abs, x_all, x_any, e_nil, e_cons, e_var, e_non, e_bl, e_int, e_str, e_tup, e_lst, e_bin, e_neg, e_cmp, e_chain, e_isn, e_and, e_or, e_and3, e_or3, e_not, e_ite, ifE_t, ifE_f, ifS_t, ifS_f, thenS_nx, thenS_er, thenS_rt, forS_nil, e_call, e_bi, e_isi, e_meth, e_ix, e_sl, e_rng1, e_enum, e_zip, e_lc, e_lcif, e_told, s_rse, s_nil', s_seq, s_set, s_own', s_par, s_parO, s_par3, s_frz, s_app, s_ret, s_ifs, s_fors, s_whl, s_ex, a_var, startE, List.map_cons, List.map_nil, List.length_cons, List.length_nil, List.cons_append, List.nil_append, List.append_nil, Nat.reduceAdd, Nat.reduceSub, Nat.zero_add, Nat.sub_self, List.replicate_zero, List.replicate_succ, Option.map_some, Option.bind_some, List.set_cons_zero, List.set_cons_succ, decide_true, decide_false, if_true, if_false, Bool.not_true, Bool.not_false, Bool.true_and, Bool.false_and, Bool.and_true, Bool.and_false, Bool.true_or, Bool.false_or, reduceIte, Bool.false_eq_true, eq_self, ne_eq, not_true_eq_false, not_false_eq_true]
theorem roll_bd {m : Int} {d : Dice} (h : 0 < m) : 0 ≤ (roll d m).1 ∧ (roll d m).1 < m := by
  unfold roll
  split <;> exact fmod_lt h
end SG
namespace SG
theorem any_row_body {k : Nat} {d : Dice} {m w act : Int} {rs : List D} {i j : Int} {r : List Nat} {y : Sl} (ha : 0 ≤ act ∧ act < 4) (hr : r.length < 100) :
    ∃ y' d2 c, Sg c ∧ evS (evCall allDefs (k + 2)) B11_2
      [.sh .die, .sh (.int m), .sh (.int w), .sh (.int act), .ow rs, .sh (.int i), .sh (.str r), .sh (.int j), y] d = .nx [.sh .die, .sh (.int m), .sh (.int w), .sh (.int act), .ow rs, .sh (.int i), .sh (.str (r ++ [c])), .sh (.int j), y'] d2 := by
  obtain ⟨q, hq, hq1, hq2⟩ : ∃ q : Int, opIx (.lst [.int 2, .int 4, .int 9, .int 3]) (.int act) = some (.int q) ∧ 0 < q ∧ q < 1000 := by
    rcases (show act = 0 ∨ act = 1 ∨ act = 2 ∨ act = 3 by omega) with h | h | h | h <;> subst h
    · exact ⟨2, rfl, by decide, by decide⟩
    · exact ⟨4, rfl, by decide, by decide⟩
    · exact ⟨9, rfl, by decide, by decide⟩
    · exact ⟨3, rfl, by decide, by decide⟩
  have hadd : ∀ c, opBin .add (.str r) (.str [c]) = some (.str (r ++ [c])) := fun c => by
    have : (r ++ [c]).length ≤ lim := le_lim (by simp; omega)
    simp only [opBin, mkS, this, if_pos]
  have hsec : ∀ d : Dice, ∃ c, Sg c ∧ opIx (.str [43, 45]) (.int (roll d 2).1) = some (.str [c]) := fun d => by
    have := roll_bd (m := 2) (d := d) (by decide)
    rcases (show (roll d 2).1 = 0 ∨ (roll d 2).1 = 1 by omega) with h | h <;> rw [h]
    · exact ⟨43, .inl rfl, rfl⟩
    · exact ⟨45, .inr (.inl rfl), rfl⟩
  have fin : ∀ (b : Bool) (d1 : Dice), ∃ y' d2 c, Sg c ∧ evS (evCall allDefs (k + 2)) (.seq (.set (.var 6) (.bin .add (.var 6) (.ite (.var 8) (.str [48]) (.ix (.str [43, 45]) (.call 8 (.cons (.var 0) (.cons (.int 2) (.nil)))))))) (.nil))
      [.sh .die, .sh (.int m), .sh (.int w), .sh (.int act), .ow rs, .sh (.int i), .sh (.str r), .sh (.int j), .sh (.bl b)] d1 = .nx [.sh .die, .sh (.int m), .sh (.int w), .sh (.int act), .ow rs, .sh (.int i), .sh (.str (r ++ [c])), .sh (.int j), y'] d2 := by
    intro b d1
    cases b with
    | true => exact ⟨_, d1, 48, .inr (.inr rfl), by simp [hadd]; rfl⟩
    | false =>
      obtain ⟨c, hc, e⟩ := hsec d1
      exact ⟨_, (roll d1 2).2, c, hc, by simp [c_roll, e, hadd]; rfl⟩
  obtain ⟨b, e1⟩ : ∃ b, evS (evCall allDefs (k + 2)) (.set (.var 8) (.and (.cmp .eq (.call 8 (.cons (.var 0) (.cons (.ix (.lst (.cons (.int 2) (.cons (.int 4) (.cons (.int 9) (.cons (.int 3) (.nil)))))) (.var 3)) (.nil)))) (.int 0)) (.not (.and (.cmp .eq (.var 3) (.int 3)) (.cmp .eq (.var 5) (.var 7))))))
      [.sh .die, .sh (.int m), .sh (.int w), .sh (.int act), .ow rs, .sh (.int i), .sh (.str r), .sh (.int j), y] d = .nx [.sh .die, .sh (.int m), .sh (.int w), .sh (.int act), .ow rs, .sh (.int i), .sh (.str r), .sh (.int j), .sh (.bl b)] (roll d q).2 := by
    by_cases h0 : (roll d q).1 = 0
    · by_cases h3 : act = 3
      · by_cases hij : i = j
        · exact ⟨false, by simp [hq, c_roll hq1 hq2, h0]; simp [h3, hij]⟩
        · exact ⟨true, by simp [hq, c_roll hq1 hq2, h0]; simp [h3, hij]⟩
      · exact ⟨true, by simp [hq, c_roll hq1 hq2, h0, h3]⟩
    · exact ⟨false, by simp [hq, c_roll hq1 hq2, h0]⟩
  unfold B11_2
  rw [s_seq, e1, thenS_nx]
  exact fin b _
theorem c_any_table {k : Nat} {m w : Nat} {d : Dice} (hm : m < 100) (hw : w < 100) : ∃ t d', Tab t m w ∧ evCall allDefs (k + 3) 11 [.die, .int m, .int w] d = .ok (tabD t) d' := by
  rw [call_eq (df := F_law_any_table) rfl rfl]
  have ha := roll_bd (m := 4) (d := d) (by decide)
  unfold F_law_any_table
  have r0 : evCall allDefs (k + 2) 8 [.die, .int 4] d = .ok (.int (roll d 4).1) (roll d 4).2 := c_roll (by decide) (by decide)
  generalize (roll d 4).1 = act at ha r0
  generalize (roll d 4).2 = d1 at r0
  simp only [onB_some, onD_bl, onI_int, onO_some, r_bind, r_err, r_of, r_noerr, r_out, r_oute, o_er, o_rese, told_ok, told_0, told_1, told_2, told_3, told_4, told_5, told_6, told_7, told_8, told_9, told_10, o_nx, o_rt, o_res, o_resn, o_ofE, t_bl, t_int, tups_t, i_lst, i_tup, i_str, put0, putS, get0, getS, getO0, getOS, wipe_nil, wipe_cons, c_lt, c_gt, c_le, c_ge, c_eqI, c_neI, c_eqS, c_neS, c_eqB, c_neB, b_add, b_sub, x_len1, x_len2, x_tup1, x_tup2, x_lst1, x_abs, x_all, x_any, e_nil, e_cons, e_var, e_non, e_bl, e_int, e_str, e_tup, e_lst, e_bin, e_neg, e_cmp, e_chain, e_isn, e_and, e_or, e_and3, e_or3, e_not, e_ite, ifE_t, ifE_f, ifS_t, ifS_f, thenS_nx, thenS_er, thenS_rt, forS_nil, e_call, e_bi, e_isi, e_meth, e_ix, e_sl, e_rng1, e_enum, e_zip, e_lc, e_lcif, e_told, s_rse, s_nil', s_seq, s_set, s_own', s_par, s_parO, s_par3, s_frz, s_app, s_ret, s_ifs, s_fors, s_whl, s_ex, a_var, startE, List.map_cons, List.map_nil, List.length_cons, List.length_nil, List.cons_append, List.nil_append, List.append_nil, Nat.reduceAdd, Nat.reduceSub, Nat.zero_add, Nat.sub_self, List.replicate_zero, List.replicate_succ, Option.map_some, Option.bind_some, List.set_cons_zero, List.set_cons_succ, decide_true, decide_false, if_true, if_false, Bool.not_true, Bool.not_false, Bool.true_and, Bool.false_and, Bool.and_true, Bool.and_false, Bool.true_or, Bool.false_or, reduceIte, Bool.false_eq_true, eq_self, ne_eq, not_true_eq_false, not_false_eq_true, r0, smallR_nat (show m < 1000 by omega)]
  obtain ⟨env', d', e1, x1, x2, x3, x4, rs, rfl, e3, e4⟩ := for_all (cf := evCall allDefs (k + 2)) (tg := .var 5) (b := B11_1) (l := rangeL 0 m) (env := [.sh .die, .sh (.int m), .sh (.int w), .sh (.int act), .ow [], .no, .no, .no, .no]) (d := d1)
    (fun i env d => ∃ x1 x2 x3 x4, ∃ rs : List (List Nat), env = [.sh .die, .sh (.int m), .sh (.int w), .sh (.int act), .ow (rs.map .str), x1, x2, x3, x4] ∧ rs.length = i ∧ ∀ r ∈ rs, r.length = w ∧ ∀ c ∈ r, Sg c)
    ⟨.no, .no, .no, .no, [], rfl, rfl, by simp⟩ (by
    rintro i env dd hi ⟨x1, x2, x3, x4, rs, rfl, e3, e4⟩
    rw [range_get hi]
    rw [range_len] at hi
    refine ⟨_, by simp only [onB_some, onD_bl, onI_int, onO_some, r_bind, r_err, r_of, r_noerr, r_out, r_oute, o_er, o_rese, told_ok, told_0, told_1, told_2, told_3, told_4, told_5, told_6, told_7, told_8, told_9, told_10, o_nx, o_rt, o_res, o_resn, o_ofE, t_bl, t_int, tups_t, i_lst, i_tup, i_str, put0, putS, get0, getS, getO0, getOS, wipe_nil, wipe_cons, c_lt, c_gt, c_le, c_ge, c_eqI, c_neI, c_eqS, c_neS, c_eqB, c_neB, b_add, b_sub, x_len1, x_len2, x_tup1, x_tup2, x_lst1, x_abs, x_all, x_any, e_nil, e_cons, e_var, e_non, e_bl, e_int, e_str, e_tup, e_lst, e_bin, e_neg, e_cmp, e_chain, e_isn, e_and, e_or, e_and3, e_or3, e_not, e_ite, ifE_t, ifE_f, ifS_t, ifS_f, thenS_nx, thenS_er, thenS_rt, forS_nil, e_call, e_bi, e_isi, e_meth, e_ix, e_sl, e_rng1, e_enum, e_zip, e_lc, e_lcif, e_told, s_rse, s_nil', s_seq, s_set, s_own', s_par, s_parO, s_par3, s_frz, s_app, s_ret, s_ifs, s_fors, s_whl, s_ex, a_var, startE, List.map_cons, List.map_nil, List.length_cons, List.length_nil, List.cons_append, List.nil_append, List.append_nil, Nat.reduceAdd, Nat.reduceSub, Nat.zero_add, Nat.sub_self, List.replicate_zero, List.replicate_succ, Option.map_some, Option.bind_some, List.set_cons_zero, List.set_cons_succ, decide_true, decide_false, if_true, if_false, Bool.not_true, Bool.not_false, Bool.true_and, Bool.false_and, Bool.and_true, Bool.and_false, Bool.true_or, Bool.false_or, reduceIte, Bool.false_eq_true, eq_self, ne_eq, not_true_eq_false, not_false_eq_true]; rfl, ?_⟩
    unfold B11_1
    simp only [onB_some, onD_bl, onI_int, onO_some, r_bind, r_err, r_of, r_noerr, r_out, r_oute, o_er, o_rese, told_ok, told_0, told_1, told_2, told_3, told_4, told_5, told_6, told_7, told_8, told_9, told_10, o_nx, o_rt, o_res, o_resn, o_ofE, t_bl, t_int, tups_t, i_lst, i_tup, i_str, put0, putS, get0, getS, getO0, getOS, wipe_nil, wipe_cons, c_lt, c_gt, c_le, c_ge, c_eqI, c_neI, c_eqS, c_neS, c_eqB, c_neB, b_add, b_sub, x_len1, x_len2, x_tup1, x_tup2, x_lst1, x_abs, x_all, x_any, e_nil, e_cons, e_var, e_non, e_bl, e_int, e_str, e_tup, e_lst, e_bin, e_neg, e_cmp, e_chain, e_isn, e_and, e_or, e_and3, e_or3, e_not, e_ite, ifE_t, ifE_f, ifS_t, ifS_f, thenS_nx, thenS_er, thenS_rt, forS_nil, e_call, e_bi, e_isi, e_meth, e_ix, e_sl, e_rng1, e_enum, e_zip, e_lc, e_lcif, e_told, s_rse, s_nil', s_seq, s_set, s_own', s_par, s_parO, s_par3, s_frz, s_app, s_ret, s_ifs, s_fors, s_whl, s_ex, a_var, startE, List.map_cons, List.map_nil, List.length_cons, List.length_nil, List.cons_append, List.nil_append, List.append_nil, Nat.reduceAdd, Nat.reduceSub, Nat.zero_add, Nat.sub_self, List.replicate_zero, List.replicate_succ, Option.map_some, Option.bind_some, List.set_cons_zero, List.set_cons_succ, decide_true, decide_false, if_true, if_false, Bool.not_true, Bool.not_false, Bool.true_and, Bool.false_and, Bool.and_true, Bool.and_false, Bool.true_or, Bool.false_or, reduceIte, Bool.false_eq_true, eq_self, ne_eq, not_true_eq_false, not_false_eq_true, smallR_nat (show w < 1000 by omega)]
    obtain ⟨env', d', e1, y1, y2, r, rfl, f3, f4⟩ := for_all (cf := evCall allDefs (k + 2)) (tg := .var 7) (b := B11_2) (l := rangeL 0 w) (env := [.sh .die, .sh (.int m), .sh (.int w), .sh (.int act), .ow (rs.map .str), .sh (.int i), .sh (.str []), x3, x4]) (d := dd)
      (fun j env d => ∃ y1 y2, ∃ r : List Nat, env = [.sh .die, .sh (.int m), .sh (.int w), .sh (.int act), .ow (rs.map .str), .sh (.int i), .sh (.str r), y1, y2] ∧ r.length = j ∧ ∀ c ∈ r, Sg c)
      ⟨x3, x4, [], rfl, rfl, by simp⟩ (by
      rintro j env d3 hj ⟨y1, y2, r, rfl, f3, f4⟩
      rw [range_get hj]
      rw [range_len] at hj
      refine ⟨_, by simp only [onB_some, onD_bl, onI_int, onO_some, r_bind, r_err, r_of, r_noerr, r_out, r_oute, o_er, o_rese, told_ok, told_0, told_1, told_2, told_3, told_4, told_5, told_6, told_7, told_8, told_9, told_10, o_nx, o_rt, o_res, o_resn, o_ofE, t_bl, t_int, tups_t, i_lst, i_tup, i_str, put0, putS, get0, getS, getO0, getOS, wipe_nil, wipe_cons, c_lt, c_gt, c_le, c_ge, c_eqI, c_neI, c_eqS, c_neS, c_eqB, c_neB, b_add, b_sub, x_len1, x_len2, x_tup1, x_tup2, x_lst1, x_abs, x_all, x_any, e_nil, e_cons, e_var, e_non, e_bl, e_int, e_str, e_tup, e_lst, e_bin, e_neg, e_cmp, e_chain, e_isn, e_and, e_or, e_and3, e_or3, e_not, e_ite, ifE_t, ifE_f, ifS_t, ifS_f, thenS_nx, thenS_er, thenS_rt, forS_nil, e_call, e_bi, e_isi, e_meth, e_ix, e_sl, e_rng1, e_enum, e_zip, e_lc, e_lcif, e_told, s_rse, s_nil', s_seq, s_set, s_own', s_par, s_parO, s_par3, s_frz, s_app, s_ret, s_ifs, s_fors, s_whl, s_ex, a_var, startE, List.map_cons, List.map_nil, List.length_cons, List.length_nil, List.cons_append, List.nil_append, List.append_nil, Nat.reduceAdd, Nat.reduceSub, Nat.zero_add, Nat.sub_self, List.replicate_zero, List.replicate_succ, Option.map_some, Option.bind_some, List.set_cons_zero, List.set_cons_succ, decide_true, decide_false, if_true, if_false, Bool.not_true, Bool.not_false, Bool.true_and, Bool.false_and, Bool.and_true, Bool.and_false, Bool.true_or, Bool.false_or, reduceIte, Bool.false_eq_true, eq_self, ne_eq, not_true_eq_false, not_false_eq_true]; rfl, ?_⟩
      obtain ⟨y', d2, c, hc, e⟩ := any_row_body (k := k) (d := d3) (m := m) (w := w) (act := act) (rs := rs.map .str) (i := i) (j := j) (r := r) (y := y2) ha (by omega)
      exact ⟨_, d2, e, _, _, r ++ [c], rfl, by simp [f3], fun q hq => by
        rcases List.mem_append.mp hq with h | h
        · exact f4 q h
        · simp at h; subst h; exact hc⟩)
    rw [range_len] at f3
    have hl : (rs.map D.str).length < lim := lt_lim (by rw [List.length_map]; omega)
    rw [e1]
    simp only [onB_some, onD_bl, onI_int, onO_some, r_bind, r_err, r_of, r_noerr, r_out, r_oute, o_er, o_rese, told_ok, told_0, told_1, told_2, told_3, told_4, told_5, told_6, told_7, told_8, told_9, told_10, o_nx, o_rt, o_res, o_resn, o_ofE, t_bl, t_int, tups_t, i_lst, i_tup, i_str, put0, putS, get0, getS, getO0, getOS, wipe_nil, wipe_cons, c_lt, c_gt, c_le, c_ge, c_eqI, c_neI, c_eqS, c_neS, c_eqB, c_neB, b_add, b_sub, x_len1, x_len2, x_tup1, x_tup2, x_lst1, x_abs, x_all, x_any, e_nil, e_cons, e_var, e_non, e_bl, e_int, e_str, e_tup, e_lst, e_bin, e_neg, e_cmp, e_chain, e_isn, e_and, e_or, e_and3, e_or3, e_not, e_ite, ifE_t, ifE_f, ifS_t, ifS_f, thenS_nx, thenS_er, thenS_rt, forS_nil, e_call, e_bi, e_isi, e_meth, e_ix, e_sl, e_rng1, e_enum, e_zip, e_lc, e_lcif, e_told, s_rse, s_nil', s_seq, s_set, s_own', s_par, s_parO, s_par3, s_frz, s_app, s_ret, s_ifs, s_fors, s_whl, s_ex, a_var, startE, List.map_cons, List.map_nil, List.length_cons, List.length_nil, List.cons_append, List.nil_append, List.append_nil, Nat.reduceAdd, Nat.reduceSub, Nat.zero_add, Nat.sub_self, List.replicate_zero, List.replicate_succ, Option.map_some, Option.bind_some, List.set_cons_zero, List.set_cons_succ, decide_true, decide_false, if_true, if_false, Bool.not_true, Bool.not_false, Bool.true_and, Bool.false_and, Bool.and_true, Bool.and_false, Bool.true_or, Bool.false_or, reduceIte, Bool.false_eq_true, eq_self, ne_eq, not_true_eq_false, not_false_eq_true, hl]
    refine ⟨_, _, rfl, .sh (.int i), .sh (.str r), y1, y2, rs ++ [r], by simp, by simp [e3], fun q hq => ?_⟩
    rcases List.mem_append.mp hq with h | h
    · exact e4 q h
    · simp at h; subst h; exact ⟨f3, f4⟩)
  rw [range_len] at e3
  refine ⟨rs, d', ⟨e3, e4⟩, ?_⟩
  rw [e1]
  simp only [onB_some, onD_bl, onI_int, onO_some, r_bind, r_err, r_of, r_noerr, r_out, r_oute, o_er, o_rese, told_ok, told_0, told_1, told_2, told_3, told_4, told_5, told_6, told_7, told_8, told_9, told_10, o_nx, o_rt, o_res, o_resn, o_ofE, t_bl, t_int, tups_t, i_lst, i_tup, i_str, put0, putS, get0, getS, getO0, getOS, wipe_nil, wipe_cons, c_lt, c_gt, c_le, c_ge, c_eqI, c_neI, c_eqS, c_neS, c_eqB, c_neB, b_add, b_sub, x_len1, x_len2, x_tup1, x_tup2, x_lst1, x_abs, x_all, x_any, e_nil, e_cons, e_var, e_non, e_bl, e_int, e_str, e_tup, e_lst, e_bin, e_neg, e_cmp, e_chain, e_isn, e_and, e_or, e_and3, e_or3, e_not, e_ite, ifE_t, ifE_f, ifS_t, ifS_f, thenS_nx, thenS_er, thenS_rt, forS_nil, e_call, e_bi, e_isi, e_meth, e_ix, e_sl, e_rng1, e_enum, e_zip, e_lc, e_lcif, e_told, s_rse, s_nil', s_seq, s_set, s_own', s_par, s_parO, s_par3, s_frz, s_app, s_ret, s_ifs, s_fors, s_whl, s_ex, a_var, startE, List.map_cons, List.map_nil, List.length_cons, List.length_nil, List.cons_append, List.nil_append, List.append_nil, Nat.reduceAdd, Nat.reduceSub, Nat.zero_add, Nat.sub_self, List.replicate_zero, List.replicate_succ, Option.map_some, Option.bind_some, List.set_cons_zero, List.set_cons_succ, decide_true, decide_false, if_true, if_false, Bool.not_true, Bool.not_false, Bool.true_and, Bool.false_and, Bool.and_true, Bool.and_false, Bool.true_or, Bool.false_or, reduceIte, Bool.false_eq_true, eq_self, ne_eq, not_true_eq_false, not_false_eq_true, tabD]
end SG
namespace SG
theorem tri_rows {k : Nat} {x1 x2 x3 : Sl} {n : Nat} : ∀ (t : List (List Nat)) (i : Nat) (acc : List (List Nat)) (d : Dice) (x5 x6 : Sl), (∀ r ∈ t, r.length = n ∧ ∀ c ∈ r, Sg c) → i + t.length ≤ n → n ≤ 4 → acc.length = i → (∀ r ∈ acc, r.length = n ∧ ∀ c ∈ r, Sg c) →
    ∃ (t2 : List (List Nat)) (d2 : Dice) (y5 y6 : Sl), t2.length = acc.length + t.length ∧ (∀ r ∈ t2, r.length = n ∧ ∀ c ∈ r, Sg c) ∧ forS (evCall allDefs (k + 2)) (.tup (.cons (.var 5) (.cons (.var 6) (.nil)))) B36_1 (enumL i (t.map .str)) [.sh .die, x1, x2, x3, .ow (acc.map .str), x5, x6] d = .nx [.sh .die, x1, x2, x3, .ow (t2.map .str), y5, y6] d2
  | [], i, acc, d, x5, x6, _, _, _, hi, ha => ⟨acc, d, x5, x6, by simp, ha, by simp [enumL]⟩
  | r :: t, i, acc, d, x5, x6, h, hl, hn, hi, ha => by
    simp only [List.length_cons] at hl
    obtain ⟨hr, hs⟩ := h r List.mem_cons_self
    obtain ⟨c, hc, e⟩ : ∃ c, Sg c ∧ opIx (.str [43, 45]) (.int (roll d 2).1) = some (.str [c]) := by
      have := roll_bd (m := 2) (d := d) (by decide)
      rcases (show (roll d 2).1 = 0 ∨ (roll d 2).1 = 1 by omega) with h | h <;> rw [h]
      · exact ⟨43, .inl rfl, rfl⟩
      · exact ⟨45, .inr (.inl rfl), rfl⟩
    have hlen : (List.replicate i 48 ++ [c] ++ r.drop (i + 1)).length = n := by simp; omega
    have hsg : ∀ q ∈ List.replicate i 48 ++ [c] ++ r.drop (i + 1), Sg q := fun q hq => by
      rcases List.mem_append.mp hq with h1 | h1
      · rcases List.mem_append.mp h1 with h2 | h2
        · exact .inr (.inr (List.eq_of_mem_replicate h2))
        · rw [List.mem_singleton.mp h2]; exact hc
      · exact hs q (List.mem_of_mem_drop h1)
    obtain ⟨t2, d2, y5, y6, h1, h2, e2⟩ := tri_rows (k := k) (x1 := x1) (x2 := x2) (x3 := x3) (n := n) t (i + 1) (acc ++ [List.replicate i 48 ++ [c] ++ r.drop (i + 1)]) (roll d 2).2 (.sh (.int i)) (.sh (.str r)) (fun q hq => h q (List.mem_cons_of_mem _ hq)) (by omega) hn (by simp [hi]) (fun q hq => by
      rcases List.mem_append.mp hq with h1 | h1
      · exact ha q h1
      · rw [List.mem_singleton.mp h1]; exact ⟨hlen, hsg⟩)
    refine ⟨t2, d2, y5, y6, by simp at h1; simp; omega, h2, ?_⟩
    have ea : asg (.tup (.cons (.var 5) (.cons (.var 6) (.nil)))) (.tup [.int i, .str r]) [.sh .die, x1, x2, x3, .ow (acc.map .str), x5, x6] = some [.sh .die, x1, x2, x3, .ow (acc.map .str), .sh (.int i), .sh (.str r)] := rfl
    have sl : opSl (.str r) (some ((i : Int) + 1)) none = some (.str (r.drop (i + 1))) := by
      have hl2 : r.length ≤ lim := le_lim (by omega)
      have := cut_hi (xs := r) (j := i + 1) (by omega)
      simp only [opSl, hl2, if_true]
      rw [show ((i : Int) + 1) = ((i + 1 : Nat) : Int) by omega, this]
    have a1 : opBin .add (.str (List.replicate i 48)) (.str [c]) = some (.str (List.replicate i 48 ++ [c])) := by
      have hl3 : (List.replicate i 48 ++ [c]).length ≤ lim := le_lim (by simp; omega)
      simp only [opBin, mkS, hl3, if_true]
    have a2 : opBin .add (.str (List.replicate i 48 ++ [c])) (.str (r.drop (i + 1))) = some (.str (List.replicate i 48 ++ [c] ++ r.drop (i + 1))) := by
      have hl3 : (List.replicate i 48 ++ [c] ++ r.drop (i + 1)).length ≤ lim := le_lim (by omega)
      simp only [opBin, mkS, hl3, if_true]
    have hlim : acc.length < lim := lt_lim (by omega)
    simp only [List.map_cons, enumL]
    rw [forS_cons ea]
    unfold B36_1
    simp only [onB_some, onD_bl, onI_int, onO_some, r_bind, r_err, r_of, r_noerr, r_out, r_oute, o_er, o_rese, told_ok, told_0, told_1, told_2, told_3, told_4, told_5, told_6, told_7, told_8, told_9, told_10, o_nx, o_rt, o_res, o_resn, o_ofE, t_bl, t_int, tups_t, i_lst, i_tup, i_str, put0, putS, get0, getS, getO0, getOS, wipe_nil, wipe_cons, c_lt, c_gt, c_le, c_ge, c_eqI, c_neI, c_eqS, c_neS, c_eqB, c_neB, b_add, b_sub, x_len1, x_len2, x_tup1, x_tup2, x_lst1, x_abs, x_all, x_any, e_nil, e_cons, e_var, e_non, e_bl, e_int, e_str, e_tup, e_lst, e_bin, e_neg, e_cmp, e_chain, e_isn, e_and, e_or, e_and3, e_or3, e_not, e_ite, ifE_t, ifE_f, ifS_t, ifS_f, thenS_nx, thenS_er, thenS_rt, forS_nil, e_call, e_bi, e_isi, e_meth, e_ix, e_sl, e_rng1, e_enum, e_zip, e_lc, e_lcif, e_told, s_rse, s_nil', s_seq, s_set, s_own', s_par, s_parO, s_par3, s_frz, s_app, s_ret, s_ifs, s_fors, s_whl, s_ex, a_var, startE, List.map_cons, List.map_nil, List.length_cons, List.length_nil, List.cons_append, List.nil_append, List.append_nil, Nat.reduceAdd, Nat.reduceSub, Nat.zero_add, Nat.sub_self, List.replicate_zero, List.replicate_succ, Option.map_some, Option.bind_some, List.set_cons_zero, List.set_cons_succ, decide_true, decide_false, if_true, if_false, Bool.not_true, Bool.not_false, Bool.true_and, Bool.false_and, Bool.and_true, Bool.and_false, Bool.true_or, Bool.false_or, reduceIte, Bool.false_eq_true, eq_self, ne_eq, not_true_eq_false, not_false_eq_true, Bool.true_eq_false, List.length_map, List.length_range, List.length_append, e_rng2, e_trng, e_lenum, e_dget, e_dgets, e_rev, onS_str, a_tup, a_nil, a_cons, pt1, pt2, pt3, pt4, mul_str (show i < 900 by omega), c_roll (show (0 : Int) < 2 by decide) (show (2 : Int) < 1000 by decide), e, a1, sl, a2, hlim]
    rw [show (acc.map D.str ++ [.str (List.replicate i 48 ++ [c] ++ r.drop (i + 1))]) = (acc ++ [List.replicate i 48 ++ [c] ++ r.drop (i + 1)]).map .str by simp]
    exact e2
theorem c_square {k : Nat} {m : Nat} {d : Dice} (hm : 1 ≤ m ∧ m ≤ 4) : ∃ t n d1, Tab t n n ∧ (1 ≤ n ∧ n ≤ m) ∧ evCall allDefs (k + 4) 36 [.die, .int m] d = .ok (tabD t) d1 := by
  rw [call_eq (df := F_law_any_square) rfl rfl]
  unfold F_law_any_square
  have b1 := roll_bd (m := (m : Int)) (d := d) (by omega)
  obtain ⟨n, hn⟩ : ∃ n : Nat, (n : Int) = 1 + (roll d m).1 := ⟨(1 + (roll d m).1).toNat, by omega⟩
  obtain ⟨t, d1, T, e1⟩ := c_any_table (k := k) (m := n) (w := n) (d := (roll d m).2) (by omega) (by omega)
  rw [hn] at e1
  have hadd : opBin .add (.int 1) (.int (roll d m).1) = some (.int (1 + (roll d m).1)) := rfl
  have it : items (tabD t) = some (t.map .str) := rfl
  have tl := T.len
  obtain ⟨t2, d2, y5, y6, h1, h2, e2⟩ := tri_rows (k := k + 1) (x1 := .sh (.int m)) (x2 := .sh (.int (1 + (roll d m).1))) (x3 := .sh (tabD t)) (n := n) t 0 [] (roll d1 3).2 .no .no T.row (by omega) (by omega) rfl (by simp)
  simp only [List.map_nil] at e2
  by_cases h0 : (roll d1 3).1 = 0
  · refine ⟨t2, n, d2, ⟨by simp at h1; omega, h2⟩, by omega, ?_⟩
    simp only [onB_some, onD_bl, onI_int, onO_some, r_bind, r_err, r_of, r_noerr, r_out, r_oute, o_er, o_rese, told_ok, told_0, told_1, told_2, told_3, told_4, told_5, told_6, told_7, told_8, told_9, told_10, o_nx, o_rt, o_res, o_resn, o_ofE, t_bl, t_int, tups_t, i_lst, i_tup, i_str, put0, putS, get0, getS, getO0, getOS, wipe_nil, wipe_cons, c_lt, c_gt, c_le, c_ge, c_eqI, c_neI, c_eqS, c_neS, c_eqB, c_neB, b_add, b_sub, x_len1, x_len2, x_tup1, x_tup2, x_lst1, x_abs, x_all, x_any, e_nil, e_cons, e_var, e_non, e_bl, e_int, e_str, e_tup, e_lst, e_bin, e_neg, e_cmp, e_chain, e_isn, e_and, e_or, e_and3, e_or3, e_not, e_ite, ifE_t, ifE_f, ifS_t, ifS_f, thenS_nx, thenS_er, thenS_rt, forS_nil, e_call, e_bi, e_isi, e_meth, e_ix, e_sl, e_rng1, e_enum, e_zip, e_lc, e_lcif, e_told, s_rse, s_nil', s_seq, s_set, s_own', s_par, s_parO, s_par3, s_frz, s_app, s_ret, s_ifs, s_fors, s_whl, s_ex, a_var, startE, List.map_cons, List.map_nil, List.length_cons, List.length_nil, List.cons_append, List.nil_append, List.append_nil, Nat.reduceAdd, Nat.reduceSub, Nat.zero_add, Nat.sub_self, List.replicate_zero, List.replicate_succ, Option.map_some, Option.bind_some, List.set_cons_zero, List.set_cons_succ, decide_true, decide_false, if_true, if_false, Bool.not_true, Bool.not_false, Bool.true_and, Bool.false_and, Bool.and_true, Bool.and_false, Bool.true_or, Bool.false_or, reduceIte, Bool.false_eq_true, eq_self, ne_eq, not_true_eq_false, not_false_eq_true, Bool.true_eq_false, List.length_map, List.length_range, List.length_append, e_rng2, e_trng, e_lenum, e_dget, e_dgets, e_rev, onS_str, a_tup, a_nil, a_cons, pt1, pt2, pt3, pt4, c_roll (show (0 : Int) < (m : Int) by omega) (show (m : Int) < 1000 by omega), hadd, e1, c_roll (show (0 : Int) < 3 by decide) (show (3 : Int) < 1000 by decide), h0, it, e2]
    rfl
  · refine ⟨t, n, (roll d1 3).2, T, by omega, ?_⟩
    simp only [onB_some, onD_bl, onI_int, onO_some, r_bind, r_err, r_of, r_noerr, r_out, r_oute, o_er, o_rese, told_ok, told_0, told_1, told_2, told_3, told_4, told_5, told_6, told_7, told_8, told_9, told_10, o_nx, o_rt, o_res, o_resn, o_ofE, t_bl, t_int, tups_t, i_lst, i_tup, i_str, put0, putS, get0, getS, getO0, getOS, wipe_nil, wipe_cons, c_lt, c_gt, c_le, c_ge, c_eqI, c_neI, c_eqS, c_neS, c_eqB, c_neB, b_add, b_sub, x_len1, x_len2, x_tup1, x_tup2, x_lst1, x_abs, x_all, x_any, e_nil, e_cons, e_var, e_non, e_bl, e_int, e_str, e_tup, e_lst, e_bin, e_neg, e_cmp, e_chain, e_isn, e_and, e_or, e_and3, e_or3, e_not, e_ite, ifE_t, ifE_f, ifS_t, ifS_f, thenS_nx, thenS_er, thenS_rt, forS_nil, e_call, e_bi, e_isi, e_meth, e_ix, e_sl, e_rng1, e_enum, e_zip, e_lc, e_lcif, e_told, s_rse, s_nil', s_seq, s_set, s_own', s_par, s_parO, s_par3, s_frz, s_app, s_ret, s_ifs, s_fors, s_whl, s_ex, a_var, startE, List.map_cons, List.map_nil, List.length_cons, List.length_nil, List.cons_append, List.nil_append, List.append_nil, Nat.reduceAdd, Nat.reduceSub, Nat.zero_add, Nat.sub_self, List.replicate_zero, List.replicate_succ, Option.map_some, Option.bind_some, List.set_cons_zero, List.set_cons_succ, decide_true, decide_false, if_true, if_false, Bool.not_true, Bool.not_false, Bool.true_and, Bool.false_and, Bool.and_true, Bool.and_false, Bool.true_or, Bool.false_or, reduceIte, Bool.false_eq_true, eq_self, ne_eq, not_true_eq_false, not_false_eq_true, Bool.true_eq_false, List.length_map, List.length_range, List.length_append, e_rng2, e_trng, e_lenum, e_dget, e_dgets, e_rev, onS_str, a_tup, a_nil, a_cons, pt1, pt2, pt3, pt4, c_roll (show (0 : Int) < (m : Int) by omega) (show (m : Int) < 1000 by omega), hadd, e1, c_roll (show (0 : Int) < 3 by decide) (show (3 : Int) < 1000 by decide), h0]
end SG
namespace SG
theorem fmod_nat2 (a : Nat) : Int.fmod (a : Int) 2 = ((a % 2 : Nat) : Int) := fmod_nat a 2
theorem c_orders {k n : Nat} {d : Dice} (hn : n ≤ 4) : evCall allDefs (k + 1) 37 [.int n] d = .ok (.lst ((ords n).map oD)) d := by
  rw [call_eq (df := F_law_orders) rfl rfl]
  unfold F_law_orders
  simp only [onB_some, onD_bl, onI_int, onO_some, r_bind, r_err, r_of, r_noerr, r_out, r_oute, o_er, o_rese, told_ok, told_0, told_1, told_2, told_3, told_4, told_5, told_6, told_7, told_8, told_9, told_10, o_nx, o_rt, o_res, o_resn, o_ofE, t_bl, t_int, tups_t, i_lst, i_tup, i_str, put0, putS, get0, getS, getO0, getOS, wipe_nil, wipe_cons, c_lt, c_gt, c_le, c_ge, c_eqI, c_neI, c_eqS, c_neS, c_eqB, c_neB, b_add, b_sub, x_len1, x_len2, x_tup1, x_tup2, x_lst1, x_abs, x_all, x_any, e_nil, e_cons, e_var, e_non, e_bl, e_int, e_str, e_tup, e_lst, e_bin, e_neg, e_cmp, e_chain, e_isn, e_and, e_or, e_and3, e_or3, e_not, e_ite, ifE_t, ifE_f, ifS_t, ifS_f, thenS_nx, thenS_er, thenS_rt, forS_nil, e_call, e_bi, e_isi, e_meth, e_ix, e_sl, e_rng1, e_enum, e_zip, e_lc, e_lcif, e_told, s_rse, s_nil', s_seq, s_set, s_own', s_par, s_parO, s_par3, s_frz, s_app, s_ret, s_ifs, s_fors, s_whl, s_ex, a_var, startE, List.map_cons, List.map_nil, List.length_cons, List.length_nil, List.cons_append, List.nil_append, List.append_nil, Nat.reduceAdd, Nat.reduceSub, Nat.zero_add, Nat.sub_self, List.replicate_zero, List.replicate_succ, Option.map_some, Option.bind_some, List.set_cons_zero, List.set_cons_succ, decide_true, decide_false, if_true, if_false, Bool.not_true, Bool.not_false, Bool.true_and, Bool.false_and, Bool.and_true, Bool.and_false, Bool.true_or, Bool.false_or, reduceIte, Bool.false_eq_true, eq_self, ne_eq, not_true_eq_false, not_false_eq_true, Bool.true_eq_false, List.length_map, List.length_range, List.length_append, e_rng2, e_trng, e_lenum, e_dget, e_dgets, e_rev, onS_str, a_tup, a_nil, a_cons, pt1, pt2, pt3, pt4, smallR_nat (show n < 1000 by omega), range_map]
  have inner : ∀ (p : List Nat × Int) (found turn : D) (acc : List (List Nat × Int)) (x6 x7 x8 : Sl), p.1.length < 900 → acc.length < 800 → ∃ y6 y7 y8,
      evS (evCall allDefs k) B37_2 [.sh (.int n), .sh found, .sh turn, .ow (acc.map oD), .sh (nD p.1), .sh (.int p.2), x6, x7, x8] d = .nx [.sh (.int n), .sh found, .sh turn, .ow ((acc ++ ((List.range n).filter fun one => !p.1.contains one).map fun one => (p.1 ++ [one], if (p.1.filter fun o => decide (one < o)).length % 2 = 0 then p.2 else -p.2)).map oD), .sh (nD p.1), .sh (.int p.2), y6, y7, y8] d := by
    intro p found turn acc x6 x7 x8 hp ha
    unfold B37_2
    simp only [onB_some, onD_bl, onI_int, onO_some, r_bind, r_err, r_of, r_noerr, r_out, r_oute, o_er, o_rese, told_ok, told_0, told_1, told_2, told_3, told_4, told_5, told_6, told_7, told_8, told_9, told_10, o_nx, o_rt, o_res, o_resn, o_ofE, t_bl, t_int, tups_t, i_lst, i_tup, i_str, put0, putS, get0, getS, getO0, getOS, wipe_nil, wipe_cons, c_lt, c_gt, c_le, c_ge, c_eqI, c_neI, c_eqS, c_neS, c_eqB, c_neB, b_add, b_sub, x_len1, x_len2, x_tup1, x_tup2, x_lst1, x_abs, x_all, x_any, e_nil, e_cons, e_var, e_non, e_bl, e_int, e_str, e_tup, e_lst, e_bin, e_neg, e_cmp, e_chain, e_isn, e_and, e_or, e_and3, e_or3, e_not, e_ite, ifE_t, ifE_f, ifS_t, ifS_f, thenS_nx, thenS_er, thenS_rt, forS_nil, e_call, e_bi, e_isi, e_meth, e_ix, e_sl, e_rng1, e_enum, e_zip, e_lc, e_lcif, e_told, s_rse, s_nil', s_seq, s_set, s_own', s_par, s_parO, s_par3, s_frz, s_app, s_ret, s_ifs, s_fors, s_whl, s_ex, a_var, startE, List.map_cons, List.map_nil, List.length_cons, List.length_nil, List.cons_append, List.nil_append, List.append_nil, Nat.reduceAdd, Nat.reduceSub, Nat.zero_add, Nat.sub_self, List.replicate_zero, List.replicate_succ, Option.map_some, Option.bind_some, List.set_cons_zero, List.set_cons_succ, decide_true, decide_false, if_true, if_false, Bool.not_true, Bool.not_false, Bool.true_and, Bool.false_and, Bool.and_true, Bool.and_false, Bool.true_or, Bool.false_or, reduceIte, Bool.false_eq_true, eq_self, ne_eq, not_true_eq_false, not_false_eq_true, Bool.true_eq_false, List.length_map, List.length_range, List.length_append, e_rng2, e_trng, e_lenum, e_dget, e_dgets, e_rev, onS_str, a_tup, a_nil, a_cons, pt1, pt2, pt3, pt4, smallR_nat (show n < 1000 by omega), range_map]
    obtain ⟨⟨y6, y7, y8⟩, e, _⟩ := for_fold (cf := evCall allDefs k) (d := d) (tg := .var 6) (b := B37_3) (fun (acc : List (List Nat × Int)) (j : Sl × Sl × Sl) => [.sh (.int n), .sh found, .sh turn, .ow (acc.map oD), .sh (nD p.1), .sh (.int p.2), j.1, j.2.1, j.2.2]) (fun i : Nat => .int i)
      (fun acc one => if (!p.1.contains one) = true then acc ++ [(p.1 ++ [one], if (p.1.filter fun o => decide (one < o)).length % 2 = 0 then p.2 else -p.2)] else acc)
      (fun r acc => acc.length + r.length < 900) (by
        rintro one r acc ⟨x6, x7, x8⟩ hP
        simp only [List.length_cons] at hP
        refine ⟨_, by simp only [onB_some, onD_bl, onI_int, onO_some, r_bind, r_err, r_of, r_noerr, r_out, r_oute, o_er, o_rese, told_ok, told_0, told_1, told_2, told_3, told_4, told_5, told_6, told_7, told_8, told_9, told_10, o_nx, o_rt, o_res, o_resn, o_ofE, t_bl, t_int, tups_t, i_lst, i_tup, i_str, put0, putS, get0, getS, getO0, getOS, wipe_nil, wipe_cons, c_lt, c_gt, c_le, c_ge, c_eqI, c_neI, c_eqS, c_neS, c_eqB, c_neB, b_add, b_sub, x_len1, x_len2, x_tup1, x_tup2, x_lst1, x_abs, x_all, x_any, e_nil, e_cons, e_var, e_non, e_bl, e_int, e_str, e_tup, e_lst, e_bin, e_neg, e_cmp, e_chain, e_isn, e_and, e_or, e_and3, e_or3, e_not, e_ite, ifE_t, ifE_f, ifS_t, ifS_f, thenS_nx, thenS_er, thenS_rt, forS_nil, e_call, e_bi, e_isi, e_meth, e_ix, e_sl, e_rng1, e_enum, e_zip, e_lc, e_lcif, e_told, s_rse, s_nil', s_seq, s_set, s_own', s_par, s_parO, s_par3, s_frz, s_app, s_ret, s_ifs, s_fors, s_whl, s_ex, a_var, startE, List.map_cons, List.map_nil, List.length_cons, List.length_nil, List.cons_append, List.nil_append, List.append_nil, Nat.reduceAdd, Nat.reduceSub, Nat.zero_add, Nat.sub_self, List.replicate_zero, List.replicate_succ, Option.map_some, Option.bind_some, List.set_cons_zero, List.set_cons_succ, decide_true, decide_false, if_true, if_false, Bool.not_true, Bool.not_false, Bool.true_and, Bool.false_and, Bool.and_true, Bool.and_false, Bool.true_or, Bool.false_or, reduceIte, Bool.false_eq_true, eq_self, ne_eq, not_true_eq_false, not_false_eq_true, Bool.true_eq_false, List.length_map, List.length_range, List.length_append, e_rng2, e_trng, e_lenum, e_dget, e_dgets, e_rev, onS_str, a_tup, a_nil, a_cons, pt1, pt2, pt3, pt4]; rfl, ?_⟩
        unfold B37_3
        cases hc : p.1.contains one with
        | true => exact ⟨(.sh (.int one), x7, x8), by simp only [onB_some, onD_bl, onI_int, onO_some, r_bind, r_err, r_of, r_noerr, r_out, r_oute, o_er, o_rese, told_ok, told_0, told_1, told_2, told_3, told_4, told_5, told_6, told_7, told_8, told_9, told_10, o_nx, o_rt, o_res, o_resn, o_ofE, t_bl, t_int, tups_t, i_lst, i_tup, i_str, put0, putS, get0, getS, getO0, getOS, wipe_nil, wipe_cons, c_lt, c_gt, c_le, c_ge, c_eqI, c_neI, c_eqS, c_neS, c_eqB, c_neB, b_add, b_sub, x_len1, x_len2, x_tup1, x_tup2, x_lst1, x_abs, x_all, x_any, e_nil, e_cons, e_var, e_non, e_bl, e_int, e_str, e_tup, e_lst, e_bin, e_neg, e_cmp, e_chain, e_isn, e_and, e_or, e_and3, e_or3, e_not, e_ite, ifE_t, ifE_f, ifS_t, ifS_f, thenS_nx, thenS_er, thenS_rt, forS_nil, e_call, e_bi, e_isi, e_meth, e_ix, e_sl, e_rng1, e_enum, e_zip, e_lc, e_lcif, e_told, s_rse, s_nil', s_seq, s_set, s_own', s_par, s_parO, s_par3, s_frz, s_app, s_ret, s_ifs, s_fors, s_whl, s_ex, a_var, startE, List.map_cons, List.map_nil, List.length_cons, List.length_nil, List.cons_append, List.nil_append, List.append_nil, Nat.reduceAdd, Nat.reduceSub, Nat.zero_add, Nat.sub_self, List.replicate_zero, List.replicate_succ, Option.map_some, Option.bind_some, List.set_cons_zero, List.set_cons_succ, decide_true, decide_false, if_true, if_false, Bool.not_true, Bool.not_false, Bool.true_and, Bool.false_and, Bool.and_true, Bool.and_false, Bool.true_or, Bool.false_or, reduceIte, Bool.false_eq_true, eq_self, ne_eq, not_true_eq_false, not_false_eq_true, Bool.true_eq_false, List.length_map, List.length_range, List.length_append, e_rng2, e_trng, e_lenum, e_dget, e_dgets, e_rev, onS_str, a_tup, a_nil, a_cons, pt1, pt2, pt3, pt4, notin_nD, hc], by simp; omega⟩
        | false =>
          refine ⟨(.sh (.int one), .sh (.int (p.1.filter fun o => decide (one < o)).length), x8), ?_, by simp; omega⟩
          have lc : ∀ x7 x8, lcfS (evCall allDefs k) C37_1 (.var 8) T37_1 [8] (p.1.map fun i => .int (i : Nat)) [.sh (.int n), .sh found, .sh turn, .ow (acc.map oD), .sh (nD p.1), .sh (.int p.2), .sh (.int one), x7, x8] d = .ok ((p.1.filter fun o => decide (one < o)).map fun i => .int (i : Nat)) d := fun _ _ => lcf_mapG p.1 fun o ho => ⟨_, by simp only [onB_some, onD_bl, onI_int, onO_some, r_bind, r_err, r_of, r_noerr, r_out, r_oute, o_er, o_rese, told_ok, told_0, told_1, told_2, told_3, told_4, told_5, told_6, told_7, told_8, told_9, told_10, o_nx, o_rt, o_res, o_resn, o_ofE, t_bl, t_int, tups_t, i_lst, i_tup, i_str, put0, putS, get0, getS, getO0, getOS, wipe_nil, wipe_cons, c_lt, c_gt, c_le, c_ge, c_eqI, c_neI, c_eqS, c_neS, c_eqB, c_neB, b_add, b_sub, x_len1, x_len2, x_tup1, x_tup2, x_lst1, x_abs, x_all, x_any, e_nil, e_cons, e_var, e_non, e_bl, e_int, e_str, e_tup, e_lst, e_bin, e_neg, e_cmp, e_chain, e_isn, e_and, e_or, e_and3, e_or3, e_not, e_ite, ifE_t, ifE_f, ifS_t, ifS_f, thenS_nx, thenS_er, thenS_rt, forS_nil, e_call, e_bi, e_isi, e_meth, e_ix, e_sl, e_rng1, e_enum, e_zip, e_lc, e_lcif, e_told, s_rse, s_nil', s_seq, s_set, s_own', s_par, s_parO, s_par3, s_frz, s_app, s_ret, s_ifs, s_fors, s_whl, s_ex, a_var, startE, List.map_cons, List.map_nil, List.length_cons, List.length_nil, List.cons_append, List.nil_append, List.append_nil, Nat.reduceAdd, Nat.reduceSub, Nat.zero_add, Nat.sub_self, List.replicate_zero, List.replicate_succ, Option.map_some, Option.bind_some, List.set_cons_zero, List.set_cons_succ, decide_true, decide_false, if_true, if_false, Bool.not_true, Bool.not_false, Bool.true_and, Bool.false_and, Bool.and_true, Bool.and_false, Bool.true_or, Bool.false_or, reduceIte, Bool.false_eq_true, eq_self, ne_eq, not_true_eq_false, not_false_eq_true, Bool.true_eq_false, List.length_map, List.length_range, List.length_append, e_rng2, e_trng, e_lenum, e_dget, e_dgets, e_rev, onS_str, a_tup, a_nil, a_cons, pt1, pt2, pt3, pt4]; rfl, by unfold T37_1; simp only [onB_some, onD_bl, onI_int, onO_some, r_bind, r_err, r_of, r_noerr, r_out, r_oute, o_er, o_rese, told_ok, told_0, told_1, told_2, told_3, told_4, told_5, told_6, told_7, told_8, told_9, told_10, o_nx, o_rt, o_res, o_resn, o_ofE, t_bl, t_int, tups_t, i_lst, i_tup, i_str, put0, putS, get0, getS, getO0, getOS, wipe_nil, wipe_cons, c_lt, c_gt, c_le, c_ge, c_eqI, c_neI, c_eqS, c_neS, c_eqB, c_neB, b_add, b_sub, x_len1, x_len2, x_tup1, x_tup2, x_lst1, x_abs, x_all, x_any, e_nil, e_cons, e_var, e_non, e_bl, e_int, e_str, e_tup, e_lst, e_bin, e_neg, e_cmp, e_chain, e_isn, e_and, e_or, e_and3, e_or3, e_not, e_ite, ifE_t, ifE_f, ifS_t, ifS_f, thenS_nx, thenS_er, thenS_rt, forS_nil, e_call, e_bi, e_isi, e_meth, e_ix, e_sl, e_rng1, e_enum, e_zip, e_lc, e_lcif, e_told, s_rse, s_nil', s_seq, s_set, s_own', s_par, s_parO, s_par3, s_frz, s_app, s_ret, s_ifs, s_fors, s_whl, s_ex, a_var, startE, List.map_cons, List.map_nil, List.length_cons, List.length_nil, List.cons_append, List.nil_append, List.append_nil, Nat.reduceAdd, Nat.reduceSub, Nat.zero_add, Nat.sub_self, List.replicate_zero, List.replicate_succ, Option.map_some, Option.bind_some, List.set_cons_zero, List.set_cons_succ, decide_true, decide_false, if_true, if_false, Bool.not_true, Bool.not_false, Bool.true_and, Bool.false_and, Bool.and_true, Bool.and_false, Bool.true_or, Bool.false_or, reduceIte, Bool.false_eq_true, eq_self, ne_eq, not_true_eq_false, not_false_eq_true, Bool.true_eq_false, List.length_map, List.length_range, List.length_append, e_rng2, e_trng, e_lenum, e_dget, e_dgets, e_rev, onS_str, a_tup, a_nil, a_cons, pt1, pt2, pt3, pt4, Int.ofNat_lt], fun _ => by unfold C37_1; simp only [onB_some, onD_bl, onI_int, onO_some, r_bind, r_err, r_of, r_noerr, r_out, r_oute, o_er, o_rese, told_ok, told_0, told_1, told_2, told_3, told_4, told_5, told_6, told_7, told_8, told_9, told_10, o_nx, o_rt, o_res, o_resn, o_ofE, t_bl, t_int, tups_t, i_lst, i_tup, i_str, put0, putS, get0, getS, getO0, getOS, wipe_nil, wipe_cons, c_lt, c_gt, c_le, c_ge, c_eqI, c_neI, c_eqS, c_neS, c_eqB, c_neB, b_add, b_sub, x_len1, x_len2, x_tup1, x_tup2, x_lst1, x_abs, x_all, x_any, e_nil, e_cons, e_var, e_non, e_bl, e_int, e_str, e_tup, e_lst, e_bin, e_neg, e_cmp, e_chain, e_isn, e_and, e_or, e_and3, e_or3, e_not, e_ite, ifE_t, ifE_f, ifS_t, ifS_f, thenS_nx, thenS_er, thenS_rt, forS_nil, e_call, e_bi, e_isi, e_meth, e_ix, e_sl, e_rng1, e_enum, e_zip, e_lc, e_lcif, e_told, s_rse, s_nil', s_seq, s_set, s_own', s_par, s_parO, s_par3, s_frz, s_app, s_ret, s_ifs, s_fors, s_whl, s_ex, a_var, startE, List.map_cons, List.map_nil, List.length_cons, List.length_nil, List.cons_append, List.nil_append, List.append_nil, Nat.reduceAdd, Nat.reduceSub, Nat.zero_add, Nat.sub_self, List.replicate_zero, List.replicate_succ, Option.map_some, Option.bind_some, List.set_cons_zero, List.set_cons_succ, decide_true, decide_false, if_true, if_false, Bool.not_true, Bool.not_false, Bool.true_and, Bool.false_and, Bool.and_true, Bool.and_false, Bool.true_or, Bool.false_or, reduceIte, Bool.false_eq_true, eq_self, ne_eq, not_true_eq_false, not_false_eq_true, Bool.true_eq_false, List.length_map, List.length_range, List.length_append, e_rng2, e_trng, e_lenum, e_dget, e_dgets, e_rev, onS_str, a_tup, a_nil, a_cons, pt1, pt2, pt3, pt4]⟩
          have hlim : p.1.length ≤ lim := le_lim (by omega)
          have hl2 : acc.length < lim := lt_lim (by omega)
          have hadd : opBin .add (nD p.1) (.tup [.int one]) = some (nD (p.1 ++ [one])) := by
            unfold nD
            rw [add_tup (by simp; omega)]; simp
          have it : items (nD p.1) = some (p.1.map fun i => .int (i : Nat)) := rfl
          by_cases hm : (p.1.filter fun o => decide (one < o)).length % 2 = 0
          · have hm2 : ((p.1.filter fun o => decide (one < o)).length : Int).fmod 2 = 0 := by rw [fmod_nat2]; omega
            simp only [onB_some, onD_bl, onI_int, onO_some, r_bind, r_err, r_of, r_noerr, r_out, r_oute, o_er, o_rese, told_ok, told_0, told_1, told_2, told_3, told_4, told_5, told_6, told_7, told_8, told_9, told_10, o_nx, o_rt, o_res, o_resn, o_ofE, t_bl, t_int, tups_t, i_lst, i_tup, i_str, put0, putS, get0, getS, getO0, getOS, wipe_nil, wipe_cons, c_lt, c_gt, c_le, c_ge, c_eqI, c_neI, c_eqS, c_neS, c_eqB, c_neB, b_add, b_sub, x_len1, x_len2, x_tup1, x_tup2, x_lst1, x_abs, x_all, x_any, e_nil, e_cons, e_var, e_non, e_bl, e_int, e_str, e_tup, e_lst, e_bin, e_neg, e_cmp, e_chain, e_isn, e_and, e_or, e_and3, e_or3, e_not, e_ite, ifE_t, ifE_f, ifS_t, ifS_f, thenS_nx, thenS_er, thenS_rt, forS_nil, e_call, e_bi, e_isi, e_meth, e_ix, e_sl, e_rng1, e_enum, e_zip, e_lc, e_lcif, e_told, s_rse, s_nil', s_seq, s_set, s_own', s_par, s_parO, s_par3, s_frz, s_app, s_ret, s_ifs, s_fors, s_whl, s_ex, a_var, startE, List.map_cons, List.map_nil, List.length_cons, List.length_nil, List.cons_append, List.nil_append, List.append_nil, Nat.reduceAdd, Nat.reduceSub, Nat.zero_add, Nat.sub_self, List.replicate_zero, List.replicate_succ, Option.map_some, Option.bind_some, List.set_cons_zero, List.set_cons_succ, decide_true, decide_false, if_true, if_false, Bool.not_true, Bool.not_false, Bool.true_and, Bool.false_and, Bool.and_true, Bool.and_false, Bool.true_or, Bool.false_or, reduceIte, Bool.false_eq_true, eq_self, ne_eq, not_true_eq_false, not_false_eq_true, Bool.true_eq_false, List.length_map, List.length_range, List.length_append, e_rng2, e_trng, e_lenum, e_dget, e_dgets, e_rev, onS_str, a_tup, a_nil, a_cons, pt1, pt2, pt3, pt4, notin_nD, hc, it, hlim, lc, hadd, hl2, modB (show (2 : Int) ≠ 0 by decide), hm2, hm]
            simp [oD]
          · have hm2 : ¬ (((p.1.filter fun o => decide (one < o)).length : Int).fmod 2 = 0) := by rw [fmod_nat2]; omega
            simp only [onB_some, onD_bl, onI_int, onO_some, r_bind, r_err, r_of, r_noerr, r_out, r_oute, o_er, o_rese, told_ok, told_0, told_1, told_2, told_3, told_4, told_5, told_6, told_7, told_8, told_9, told_10, o_nx, o_rt, o_res, o_resn, o_ofE, t_bl, t_int, tups_t, i_lst, i_tup, i_str, put0, putS, get0, getS, getO0, getOS, wipe_nil, wipe_cons, c_lt, c_gt, c_le, c_ge, c_eqI, c_neI, c_eqS, c_neS, c_eqB, c_neB, b_add, b_sub, x_len1, x_len2, x_tup1, x_tup2, x_lst1, x_abs, x_all, x_any, e_nil, e_cons, e_var, e_non, e_bl, e_int, e_str, e_tup, e_lst, e_bin, e_neg, e_cmp, e_chain, e_isn, e_and, e_or, e_and3, e_or3, e_not, e_ite, ifE_t, ifE_f, ifS_t, ifS_f, thenS_nx, thenS_er, thenS_rt, forS_nil, e_call, e_bi, e_isi, e_meth, e_ix, e_sl, e_rng1, e_enum, e_zip, e_lc, e_lcif, e_told, s_rse, s_nil', s_seq, s_set, s_own', s_par, s_parO, s_par3, s_frz, s_app, s_ret, s_ifs, s_fors, s_whl, s_ex, a_var, startE, List.map_cons, List.map_nil, List.length_cons, List.length_nil, List.cons_append, List.nil_append, List.append_nil, Nat.reduceAdd, Nat.reduceSub, Nat.zero_add, Nat.sub_self, List.replicate_zero, List.replicate_succ, Option.map_some, Option.bind_some, List.set_cons_zero, List.set_cons_succ, decide_true, decide_false, if_true, if_false, Bool.not_true, Bool.not_false, Bool.true_and, Bool.false_and, Bool.and_true, Bool.and_false, Bool.true_or, Bool.false_or, reduceIte, Bool.false_eq_true, eq_self, ne_eq, not_true_eq_false, not_false_eq_true, Bool.true_eq_false, List.length_map, List.length_range, List.length_append, e_rng2, e_trng, e_lenum, e_dget, e_dgets, e_rev, onS_str, a_tup, a_nil, a_cons, pt1, pt2, pt3, pt4, notin_nD, hc, it, hlim, lc, hadd, hl2, modB (show (2 : Int) ≠ 0 by decide), hm2, hm]
            simp [oD])
      (List.range n) acc (x6, x7, x8) (by rw [List.length_range]; omega)
    rw [e]
    rw [foldl_if]
    exact ⟨y6, y7, y8, by simp only [onB_some, onD_bl, onI_int, onO_some, r_bind, r_err, r_of, r_noerr, r_out, r_oute, o_er, o_rese, told_ok, told_0, told_1, told_2, told_3, told_4, told_5, told_6, told_7, told_8, told_9, told_10, o_nx, o_rt, o_res, o_resn, o_ofE, t_bl, t_int, tups_t, i_lst, i_tup, i_str, put0, putS, get0, getS, getO0, getOS, wipe_nil, wipe_cons, c_lt, c_gt, c_le, c_ge, c_eqI, c_neI, c_eqS, c_neS, c_eqB, c_neB, b_add, b_sub, x_len1, x_len2, x_tup1, x_tup2, x_lst1, x_abs, x_all, x_any, e_nil, e_cons, e_var, e_non, e_bl, e_int, e_str, e_tup, e_lst, e_bin, e_neg, e_cmp, e_chain, e_isn, e_and, e_or, e_and3, e_or3, e_not, e_ite, ifE_t, ifE_f, ifS_t, ifS_f, thenS_nx, thenS_er, thenS_rt, forS_nil, e_call, e_bi, e_isi, e_meth, e_ix, e_sl, e_rng1, e_enum, e_zip, e_lc, e_lcif, e_told, s_rse, s_nil', s_seq, s_set, s_own', s_par, s_parO, s_par3, s_frz, s_app, s_ret, s_ifs, s_fors, s_whl, s_ex, a_var, startE, List.map_cons, List.map_nil, List.length_cons, List.length_nil, List.cons_append, List.nil_append, List.append_nil, Nat.reduceAdd, Nat.reduceSub, Nat.zero_add, Nat.sub_self, List.replicate_zero, List.replicate_succ, Option.map_some, Option.bind_some, List.set_cons_zero, List.set_cons_succ, decide_true, decide_false, if_true, if_false, Bool.not_true, Bool.not_false, Bool.true_and, Bool.false_and, Bool.and_true, Bool.and_false, Bool.true_or, Bool.false_or, reduceIte, Bool.false_eq_true, eq_self, ne_eq, not_true_eq_false, not_false_eq_true, Bool.true_eq_false, List.length_map, List.length_range, List.length_append, e_rng2, e_trng, e_lenum, e_dget, e_dgets, e_rev, onS_str, a_tup, a_nil, a_cons, pt1, pt2, pt3, pt4]⟩
  have middle : ∀ (found : List (List Nat × Int)) (turn : D) (fo : D) (x4 x5 x6 x7 x8 : Sl), (∀ p ∈ found, p.1.length < 900) → found.length * n < 700 → ∃ y4 y5 y6 y7 y8,
      forS (evCall allDefs k) (.tup (.cons (.var 4) (.cons (.var 5) .nil))) B37_2 (found.map oD) [.sh (.int n), .sh fo, .sh turn, .ow [], x4, x5, x6, x7, x8] d = .nx [.sh (.int n), .sh fo, .sh turn, .ow ((ordsStep n found).map oD), y4, y5, y6, y7, y8] d := by
    intro found turn fo x4 x5 x6 x7 x8 h1 h2
    obtain ⟨⟨y4, y5, y6, y7, y8⟩, e, _⟩ := for_fold (cf := evCall allDefs k) (d := d) (tg := .tup (.cons (.var 4) (.cons (.var 5) .nil))) (b := B37_2) (fun (acc : List (List Nat × Int)) (j : Sl × Sl × Sl × Sl × Sl) => [.sh (.int n), .sh fo, .sh turn, .ow (acc.map oD), j.1, j.2.1, j.2.2.1, j.2.2.2.1, j.2.2.2.2]) oD
      (fun acc p => acc ++ ((List.range n).filter fun one => !p.1.contains one).map fun one => (p.1 ++ [one], if (p.1.filter fun o => decide (one < o)).length % 2 = 0 then p.2 else -p.2))
      (fun r acc => acc.length + r.length * n < 750 ∧ ∀ p ∈ r, p.1.length < 900) (by
        rintro p r acc ⟨x4, x5, x6, x7, x8⟩ ⟨hP, hq⟩
        simp only [List.length_cons, Nat.succ_mul] at hP
        refine ⟨_, rfl, ?_⟩
        obtain ⟨y6, y7, y8, e⟩ := inner p fo turn acc x6 x7 x8 (hq p List.mem_cons_self) (by omega)
        refine ⟨(.sh (nD p.1), .sh (.int p.2), y6, y7, y8), e, ?_, fun q hq' => hq q (List.mem_cons_of_mem _ hq')⟩
        have := List.length_filter_le (fun one => !p.1.contains one) (List.range n)
        rw [List.length_range] at this
        rw [List.length_append, List.length_map]
        omega) found [] (x4, x5, x6, x7, x8) ⟨by simp; omega, h1⟩
    rw [foldl_app, List.nil_append] at e
    exact ⟨y4, y5, y6, y7, y8, e⟩
  have outer : ∀ (r : List Nat) (found : List (List Nat × Int)) (x2 x3 x4 x5 x6 x7 x8 : Sl), (∀ p ∈ found, p.1.length + r.length ≤ 4) → found.length * 4 ^ r.length ≤ 256 → ∃ y2 y3 y4 y5 y6 y7 y8,
      forS (evCall allDefs k) (.var 2) B37_1 (r.map fun i => .int (i : Nat)) [.sh (.int n), .sh (.lst (found.map oD)), x2, x3, x4, x5, x6, x7, x8] d = .nx [.sh (.int n), .sh (.lst ((r.foldl (fun f _ => ordsStep n f) found).map oD)), y2, y3, y4, y5, y6, y7, y8] d := by
    intro r
    induction r with
    | nil => intro found x2 x3 x4 x5 x6 x7 x8 _ _; exact ⟨x2, x3, x4, x5, x6, x7, x8, rfl⟩
    | cons i r ih =>
      intro found x2 x3 x4 x5 x6 x7 x8 h1 h2
      rw [List.length_cons, Nat.pow_succ] at h2
      have hp : 1 ≤ 4 ^ r.length := Nat.one_le_pow _ _ (by decide)
      have h3 : found.length * 4 ≤ found.length * (4 ^ r.length * 4) := Nat.mul_le_mul_left _ (by omega)
      have h4 : found.length * n ≤ found.length * 4 := Nat.mul_le_mul_left _ hn
      obtain ⟨y4, y5, y6, y7, y8, e⟩ := middle found (.int i) (.lst (found.map oD)) x4 x5 x6 x7 x8 (fun p hp => by have := h1 p hp; omega) (by omega)
      have hl := ordsStep_len (n := n) found
      obtain ⟨z2, z3, z4, z5, z6, z7, z8, e2⟩ := ih (ordsStep n found) (.sh (.int i)) (.sh (.lst ((ordsStep n found).map oD))) y4 y5 y6 y7 y8 (fun q hq => by
        unfold ordsStep at hq
        obtain ⟨p, hp, hq⟩ := List.mem_flatMap.mp hq
        obtain ⟨one, _, rfl⟩ := List.mem_map.mp hq
        have := h1 p hp
        simp only [List.length_cons, List.length_append, List.length_nil] at this ⊢
        omega) (by
          refine Nat.le_trans (Nat.mul_le_mul_right _ (Nat.le_trans hl h4)) ?_
          rw [Nat.mul_assoc, Nat.mul_comm 4]; exact h2)
      refine ⟨z2, z3, z4, z5, z6, z7, z8, ?_⟩
      rw [List.map_cons, forS_cons (env' := [.sh (.int n), .sh (.lst (found.map oD)), .sh (.int i), x3, x4, x5, x6, x7, x8]) rfl]
      have e3 : evS (evCall allDefs k) B37_1 [.sh (.int n), .sh (.lst (found.map oD)), .sh (.int i), x3, x4, x5, x6, x7, x8] d = .nx [.sh (.int n), .sh (.lst ((ordsStep n found).map oD)), .sh (.int i), .sh (.lst ((ordsStep n found).map oD)), y4, y5, y6, y7, y8] d := by
        unfold B37_1
        simp only [onB_some, onD_bl, onI_int, onO_some, r_bind, r_err, r_of, r_noerr, r_out, r_oute, o_er, o_rese, told_ok, told_0, told_1, told_2, told_3, told_4, told_5, told_6, told_7, told_8, told_9, told_10, o_nx, o_rt, o_res, o_resn, o_ofE, t_bl, t_int, tups_t, i_lst, i_tup, i_str, put0, putS, get0, getS, getO0, getOS, wipe_nil, wipe_cons, c_lt, c_gt, c_le, c_ge, c_eqI, c_neI, c_eqS, c_neS, c_eqB, c_neB, b_add, b_sub, x_len1, x_len2, x_tup1, x_tup2, x_lst1, x_abs, x_all, x_any, e_nil, e_cons, e_var, e_non, e_bl, e_int, e_str, e_tup, e_lst, e_bin, e_neg, e_cmp, e_chain, e_isn, e_and, e_or, e_and3, e_or3, e_not, e_ite, ifE_t, ifE_f, ifS_t, ifS_f, thenS_nx, thenS_er, thenS_rt, forS_nil, e_call, e_bi, e_isi, e_meth, e_ix, e_sl, e_rng1, e_enum, e_zip, e_lc, e_lcif, e_told, s_rse, s_nil', s_seq, s_set, s_own', s_par, s_parO, s_par3, s_frz, s_app, s_ret, s_ifs, s_fors, s_whl, s_ex, a_var, startE, List.map_cons, List.map_nil, List.length_cons, List.length_nil, List.cons_append, List.nil_append, List.append_nil, Nat.reduceAdd, Nat.reduceSub, Nat.zero_add, Nat.sub_self, List.replicate_zero, List.replicate_succ, Option.map_some, Option.bind_some, List.set_cons_zero, List.set_cons_succ, decide_true, decide_false, if_true, if_false, Bool.not_true, Bool.not_false, Bool.true_and, Bool.false_and, Bool.and_true, Bool.and_false, Bool.true_or, Bool.false_or, reduceIte, Bool.false_eq_true, eq_self, ne_eq, not_true_eq_false, not_false_eq_true, Bool.true_eq_false, List.length_map, List.length_range, List.length_append, e_rng2, e_trng, e_lenum, e_dget, e_dgets, e_rev, onS_str, a_tup, a_nil, a_cons, pt1, pt2, pt3, pt4]
        rw [e]
        simp only [onB_some, onD_bl, onI_int, onO_some, r_bind, r_err, r_of, r_noerr, r_out, r_oute, o_er, o_rese, told_ok, told_0, told_1, told_2, told_3, told_4, told_5, told_6, told_7, told_8, told_9, told_10, o_nx, o_rt, o_res, o_resn, o_ofE, t_bl, t_int, tups_t, i_lst, i_tup, i_str, put0, putS, get0, getS, getO0, getOS, wipe_nil, wipe_cons, c_lt, c_gt, c_le, c_ge, c_eqI, c_neI, c_eqS, c_neS, c_eqB, c_neB, b_add, b_sub, x_len1, x_len2, x_tup1, x_tup2, x_lst1, x_abs, x_all, x_any, e_nil, e_cons, e_var, e_non, e_bl, e_int, e_str, e_tup, e_lst, e_bin, e_neg, e_cmp, e_chain, e_isn, e_and, e_or, e_and3, e_or3, e_not, e_ite, ifE_t, ifE_f, ifS_t, ifS_f, thenS_nx, thenS_er, thenS_rt, forS_nil, e_call, e_bi, e_isi, e_meth, e_ix, e_sl, e_rng1, e_enum, e_zip, e_lc, e_lcif, e_told, s_rse, s_nil', s_seq, s_set, s_own', s_par, s_parO, s_par3, s_frz, s_app, s_ret, s_ifs, s_fors, s_whl, s_ex, a_var, startE, List.map_cons, List.map_nil, List.length_cons, List.length_nil, List.cons_append, List.nil_append, List.append_nil, Nat.reduceAdd, Nat.reduceSub, Nat.zero_add, Nat.sub_self, List.replicate_zero, List.replicate_succ, Option.map_some, Option.bind_some, List.set_cons_zero, List.set_cons_succ, decide_true, decide_false, if_true, if_false, Bool.not_true, Bool.not_false, Bool.true_and, Bool.false_and, Bool.and_true, Bool.and_false, Bool.true_or, Bool.false_or, reduceIte, Bool.false_eq_true, eq_self, ne_eq, not_true_eq_false, not_false_eq_true, Bool.true_eq_false, List.length_map, List.length_range, List.length_append, e_rng2, e_trng, e_lenum, e_dget, e_dgets, e_rev, onS_str, a_tup, a_nil, a_cons, pt1, pt2, pt3, pt4]
      rw [e3, o_nx, e2]
      rfl
  obtain ⟨y2, y3, y4, y5, y6, y7, y8, e⟩ := outer (List.range n) [([], 1)] .no .no .no .no .no .no .no (by simp; omega) (by
    rw [List.length_range]
    exact Nat.le_trans (Nat.mul_le_mul_left _ (Nat.pow_le_pow_right (by decide) hn)) (by decide))
  have e0 : ([([], 1)] : List (List Nat × Int)).map oD = [.tup [.tup [], .int 1]] := rfl
  rw [e0] at e
  rw [e]
  have hs := sort_self (ords_sorted' hn)
  unfold ords at hs ⊢
  simp only [onB_some, onD_bl, onI_int, onO_some, r_bind, r_err, r_of, r_noerr, r_out, r_oute, o_er, o_rese, told_ok, told_0, told_1, told_2, told_3, told_4, told_5, told_6, told_7, told_8, told_9, told_10, o_nx, o_rt, o_res, o_resn, o_ofE, t_bl, t_int, tups_t, i_lst, i_tup, i_str, put0, putS, get0, getS, getO0, getOS, wipe_nil, wipe_cons, c_lt, c_gt, c_le, c_ge, c_eqI, c_neI, c_eqS, c_neS, c_eqB, c_neB, b_add, b_sub, x_len1, x_len2, x_tup1, x_tup2, x_lst1, x_abs, x_all, x_any, e_nil, e_cons, e_var, e_non, e_bl, e_int, e_str, e_tup, e_lst, e_bin, e_neg, e_cmp, e_chain, e_isn, e_and, e_or, e_and3, e_or3, e_not, e_ite, ifE_t, ifE_f, ifS_t, ifS_f, thenS_nx, thenS_er, thenS_rt, forS_nil, e_call, e_bi, e_isi, e_meth, e_ix, e_sl, e_rng1, e_enum, e_zip, e_lc, e_lcif, e_told, s_rse, s_nil', s_seq, s_set, s_own', s_par, s_parO, s_par3, s_frz, s_app, s_ret, s_ifs, s_fors, s_whl, s_ex, a_var, startE, List.map_cons, List.map_nil, List.length_cons, List.length_nil, List.cons_append, List.nil_append, List.append_nil, Nat.reduceAdd, Nat.reduceSub, Nat.zero_add, Nat.sub_self, List.replicate_zero, List.replicate_succ, Option.map_some, Option.bind_some, List.set_cons_zero, List.set_cons_succ, decide_true, decide_false, if_true, if_false, Bool.not_true, Bool.not_false, Bool.true_and, Bool.false_and, Bool.and_true, Bool.and_false, Bool.true_or, Bool.false_or, reduceIte, Bool.false_eq_true, eq_self, ne_eq, not_true_eq_false, not_false_eq_true, Bool.true_eq_false, List.length_map, List.length_range, List.length_append, e_rng2, e_trng, e_lenum, e_dget, e_dgets, e_rev, onS_str, a_tup, a_nil, a_cons, pt1, pt2, pt3, pt4, hs]
end SG
namespace SG
theorem c_terms {k n : Nat} {d : Dice} {T : D} {c : Nat → Nat → Nat} (hn : n ≤ 4) (A : TabAt T n c) : evCall allDefs (k + 2) 38 [T] d = .ok (.lst ((terms n c).map oD)) d := by
  rw [call_eq (df := F_law_terms) rfl rfl]
  unfold F_law_terms
  simp only [onB_some, onD_bl, onI_int, onO_some, r_bind, r_err, r_of, r_noerr, r_out, r_oute, o_er, o_rese, told_ok, told_0, told_1, told_2, told_3, told_4, told_5, told_6, told_7, told_8, told_9, told_10, o_nx, o_rt, o_res, o_resn, o_ofE, t_bl, t_int, tups_t, i_lst, i_tup, i_str, put0, putS, get0, getS, getO0, getOS, wipe_nil, wipe_cons, c_lt, c_gt, c_le, c_ge, c_eqI, c_neI, c_eqS, c_neS, c_eqB, c_neB, b_add, b_sub, x_len1, x_len2, x_tup1, x_tup2, x_lst1, x_abs, x_all, x_any, e_nil, e_cons, e_var, e_non, e_bl, e_int, e_str, e_tup, e_lst, e_bin, e_neg, e_cmp, e_chain, e_isn, e_and, e_or, e_and3, e_or3, e_not, e_ite, ifE_t, ifE_f, ifS_t, ifS_f, thenS_nx, thenS_er, thenS_rt, forS_nil, e_call, e_bi, e_isi, e_meth, e_ix, e_sl, e_rng1, e_enum, e_zip, e_lc, e_lcif, e_told, s_rse, s_nil', s_seq, s_set, s_own', s_par, s_parO, s_par3, s_frz, s_app, s_ret, s_ifs, s_fors, s_whl, s_ex, a_var, startE, List.map_cons, List.map_nil, List.length_cons, List.length_nil, List.cons_append, List.nil_append, List.append_nil, Nat.reduceAdd, Nat.reduceSub, Nat.zero_add, Nat.sub_self, List.replicate_zero, List.replicate_succ, Option.map_some, Option.bind_some, List.set_cons_zero, List.set_cons_succ, decide_true, decide_false, if_true, if_false, Bool.not_true, Bool.not_false, Bool.true_and, Bool.false_and, Bool.and_true, Bool.and_false, Bool.true_or, Bool.false_or, reduceIte, Bool.false_eq_true, eq_self, ne_eq, not_true_eq_false, not_false_eq_true, Bool.true_eq_false, List.length_map, List.length_range, List.length_append, e_rng2, e_trng, e_lenum, e_dget, e_dgets, e_rev, onS_str, a_tup, a_nil, a_cons, pt1, pt2, pt3, pt4, A.len, c_orders hn]
  have turn : ∀ (p : List Nat × Int) (acc : List (List Nat × Int)) (x4 x5 : Sl), p ∈ ords n → acc.length < 800 → ∃ y4 y5,
      evS (evCall allDefs (k + 1)) B38_1 [.sh T, .ow (acc.map oD), .sh (nD p.1), .sh (.int p.2), x4, x5] d = .nx [.sh T, .ow ((if decide (p.2 * along (fun i j => val (c i j)) 0 p.1 ≠ 0) = true then acc ++ [(p.1, p.2 * along (fun i j => val (c i j)) 0 p.1)] else acc).map oD), .sh (nD p.1), .sh (.int (p.2 * along (fun i j => val (c i j)) 0 p.1)), y4, y5] d := by
    intro p acc x4 x5 hp ha
    have o := ords_mem hn hp
    unfold B38_1
    have it : items (nD p.1) = some (p.1.map fun i => .int (i : Nat)) := rfl
    obtain ⟨⟨y4, y5⟩, e, _⟩ := for_fold (cf := evCall allDefs (k + 1)) (d := d) (tg := .tup (.cons (.var 4) (.cons (.var 5) .nil))) (b := B38_2) (fun (s : Int) (j : Sl × Sl) => [.sh T, .ow (acc.map oD), .sh (nD p.1), .sh (.int s), j.1, j.2]) (fun q : Nat × Nat => .tup [.int (q.2 : Nat), .int (q.1 : Nat)])
      (fun s q => s * val (c q.2 q.1)) (fun r _ => ∀ q ∈ r, q.2 < n ∧ q.1 < n) (by
        rintro ⟨j, i⟩ r s ⟨x4, x5⟩ hq
        obtain ⟨hi, hj⟩ := hq _ List.mem_cons_self
        obtain ⟨R, e1, e2⟩ := A.at' i j hi hj
        refine ⟨_, rfl, (.sh (.int i), .sh (.int j)), ?_, fun q hq' => hq q (List.mem_cons_of_mem _ hq')⟩
        unfold B38_2
        simp only [onB_some, onD_bl, onI_int, onO_some, r_bind, r_err, r_of, r_noerr, r_out, r_oute, o_er, o_rese, told_ok, told_0, told_1, told_2, told_3, told_4, told_5, told_6, told_7, told_8, told_9, told_10, o_nx, o_rt, o_res, o_resn, o_ofE, t_bl, t_int, tups_t, i_lst, i_tup, i_str, put0, putS, get0, getS, getO0, getOS, wipe_nil, wipe_cons, c_lt, c_gt, c_le, c_ge, c_eqI, c_neI, c_eqS, c_neS, c_eqB, c_neB, b_add, b_sub, x_len1, x_len2, x_tup1, x_tup2, x_lst1, x_abs, x_all, x_any, e_nil, e_cons, e_var, e_non, e_bl, e_int, e_str, e_tup, e_lst, e_bin, e_neg, e_cmp, e_chain, e_isn, e_and, e_or, e_and3, e_or3, e_not, e_ite, ifE_t, ifE_f, ifS_t, ifS_f, thenS_nx, thenS_er, thenS_rt, forS_nil, e_call, e_bi, e_isi, e_meth, e_ix, e_sl, e_rng1, e_enum, e_zip, e_lc, e_lcif, e_told, s_rse, s_nil', s_seq, s_set, s_own', s_par, s_parO, s_par3, s_frz, s_app, s_ret, s_ifs, s_fors, s_whl, s_ex, a_var, startE, List.map_cons, List.map_nil, List.length_cons, List.length_nil, List.cons_append, List.nil_append, List.append_nil, Nat.reduceAdd, Nat.reduceSub, Nat.zero_add, Nat.sub_self, List.replicate_zero, List.replicate_succ, Option.map_some, Option.bind_some, List.set_cons_zero, List.set_cons_succ, decide_true, decide_false, if_true, if_false, Bool.not_true, Bool.not_false, Bool.true_and, Bool.false_and, Bool.and_true, Bool.and_false, Bool.true_or, Bool.false_or, reduceIte, Bool.false_eq_true, eq_self, ne_eq, not_true_eq_false, not_false_eq_true, Bool.true_eq_false, List.length_map, List.length_range, List.length_append, e_rng2, e_trng, e_lenum, e_dget, e_dgets, e_rev, onS_str, a_tup, a_nil, a_cons, pt1, pt2, pt3, pt4, e1, e2, c_value (A.sg i j hi hj), mulR val_s64])
      p.1.zipIdx p.2 (x4, x5) (fun q hq => by
        have h := zipIdx_mem hq
        exact ⟨by rw [← o.len]; exact (List.getElem?_eq_some_iff.mp h).1, o.lt _ (List.mem_of_getElem? h)⟩)
    have ez : (p.1.zipIdx).foldl (fun s q => s * val (c q.2 q.1)) p.2 = p.2 * along (fun i j => val (c i j)) 0 p.1 := along_fold (fun i j => val (c i j)) p.1 0 p.2
    rw [ez] at e
    refine ⟨y4, y5, ?_⟩
    simp only [onB_some, onD_bl, onI_int, onO_some, r_bind, r_err, r_of, r_noerr, r_out, r_oute, o_er, o_rese, told_ok, told_0, told_1, told_2, told_3, told_4, told_5, told_6, told_7, told_8, told_9, told_10, o_nx, o_rt, o_res, o_resn, o_ofE, t_bl, t_int, tups_t, i_lst, i_tup, i_str, put0, putS, get0, getS, getO0, getOS, wipe_nil, wipe_cons, c_lt, c_gt, c_le, c_ge, c_eqI, c_neI, c_eqS, c_neS, c_eqB, c_neB, b_add, b_sub, x_len1, x_len2, x_tup1, x_tup2, x_lst1, x_abs, x_all, x_any, e_nil, e_cons, e_var, e_non, e_bl, e_int, e_str, e_tup, e_lst, e_bin, e_neg, e_cmp, e_chain, e_isn, e_and, e_or, e_and3, e_or3, e_not, e_ite, ifE_t, ifE_f, ifS_t, ifS_f, thenS_nx, thenS_er, thenS_rt, forS_nil, e_call, e_bi, e_isi, e_meth, e_ix, e_sl, e_rng1, e_enum, e_zip, e_lc, e_lcif, e_told, s_rse, s_nil', s_seq, s_set, s_own', s_par, s_parO, s_par3, s_frz, s_app, s_ret, s_ifs, s_fors, s_whl, s_ex, a_var, startE, List.map_cons, List.map_nil, List.length_cons, List.length_nil, List.cons_append, List.nil_append, List.append_nil, Nat.reduceAdd, Nat.reduceSub, Nat.zero_add, Nat.sub_self, List.replicate_zero, List.replicate_succ, Option.map_some, Option.bind_some, List.set_cons_zero, List.set_cons_succ, decide_true, decide_false, if_true, if_false, Bool.not_true, Bool.not_false, Bool.true_and, Bool.false_and, Bool.and_true, Bool.and_false, Bool.true_or, Bool.false_or, reduceIte, Bool.false_eq_true, eq_self, ne_eq, not_true_eq_false, not_false_eq_true, Bool.true_eq_false, List.length_map, List.length_range, List.length_append, e_rng2, e_trng, e_lenum, e_dget, e_dgets, e_rev, onS_str, a_tup, a_nil, a_cons, pt1, pt2, pt3, pt4, it, enum_map]
    rw [e]
    have hl : acc.length < lim := lt_lim (by omega)
    by_cases h0 : p.2 * along (fun i j => val (c i j)) 0 p.1 = 0
    · simp only [onB_some, onD_bl, onI_int, onO_some, r_bind, r_err, r_of, r_noerr, r_out, r_oute, o_er, o_rese, told_ok, told_0, told_1, told_2, told_3, told_4, told_5, told_6, told_7, told_8, told_9, told_10, o_nx, o_rt, o_res, o_resn, o_ofE, t_bl, t_int, tups_t, i_lst, i_tup, i_str, put0, putS, get0, getS, getO0, getOS, wipe_nil, wipe_cons, c_lt, c_gt, c_le, c_ge, c_eqI, c_neI, c_eqS, c_neS, c_eqB, c_neB, b_add, b_sub, x_len1, x_len2, x_tup1, x_tup2, x_lst1, x_abs, x_all, x_any, e_nil, e_cons, e_var, e_non, e_bl, e_int, e_str, e_tup, e_lst, e_bin, e_neg, e_cmp, e_chain, e_isn, e_and, e_or, e_and3, e_or3, e_not, e_ite, ifE_t, ifE_f, ifS_t, ifS_f, thenS_nx, thenS_er, thenS_rt, forS_nil, e_call, e_bi, e_isi, e_meth, e_ix, e_sl, e_rng1, e_enum, e_zip, e_lc, e_lcif, e_told, s_rse, s_nil', s_seq, s_set, s_own', s_par, s_parO, s_par3, s_frz, s_app, s_ret, s_ifs, s_fors, s_whl, s_ex, a_var, startE, List.map_cons, List.map_nil, List.length_cons, List.length_nil, List.cons_append, List.nil_append, List.append_nil, Nat.reduceAdd, Nat.reduceSub, Nat.zero_add, Nat.sub_self, List.replicate_zero, List.replicate_succ, Option.map_some, Option.bind_some, List.set_cons_zero, List.set_cons_succ, decide_true, decide_false, if_true, if_false, Bool.not_true, Bool.not_false, Bool.true_and, Bool.false_and, Bool.and_true, Bool.and_false, Bool.true_or, Bool.false_or, reduceIte, Bool.false_eq_true, eq_self, ne_eq, not_true_eq_false, not_false_eq_true, Bool.true_eq_false, List.length_map, List.length_range, List.length_append, e_rng2, e_trng, e_lenum, e_dget, e_dgets, e_rev, onS_str, a_tup, a_nil, a_cons, pt1, pt2, pt3, pt4, h0]
    · simp only [onB_some, onD_bl, onI_int, onO_some, r_bind, r_err, r_of, r_noerr, r_out, r_oute, o_er, o_rese, told_ok, told_0, told_1, told_2, told_3, told_4, told_5, told_6, told_7, told_8, told_9, told_10, o_nx, o_rt, o_res, o_resn, o_ofE, t_bl, t_int, tups_t, i_lst, i_tup, i_str, put0, putS, get0, getS, getO0, getOS, wipe_nil, wipe_cons, c_lt, c_gt, c_le, c_ge, c_eqI, c_neI, c_eqS, c_neS, c_eqB, c_neB, b_add, b_sub, x_len1, x_len2, x_tup1, x_tup2, x_lst1, x_abs, x_all, x_any, e_nil, e_cons, e_var, e_non, e_bl, e_int, e_str, e_tup, e_lst, e_bin, e_neg, e_cmp, e_chain, e_isn, e_and, e_or, e_and3, e_or3, e_not, e_ite, ifE_t, ifE_f, ifS_t, ifS_f, thenS_nx, thenS_er, thenS_rt, forS_nil, e_call, e_bi, e_isi, e_meth, e_ix, e_sl, e_rng1, e_enum, e_zip, e_lc, e_lcif, e_told, s_rse, s_nil', s_seq, s_set, s_own', s_par, s_parO, s_par3, s_frz, s_app, s_ret, s_ifs, s_fors, s_whl, s_ex, a_var, startE, List.map_cons, List.map_nil, List.length_cons, List.length_nil, List.cons_append, List.nil_append, List.append_nil, Nat.reduceAdd, Nat.reduceSub, Nat.zero_add, Nat.sub_self, List.replicate_zero, List.replicate_succ, Option.map_some, Option.bind_some, List.set_cons_zero, List.set_cons_succ, decide_true, decide_false, if_true, if_false, Bool.not_true, Bool.not_false, Bool.true_and, Bool.false_and, Bool.and_true, Bool.and_false, Bool.true_or, Bool.false_or, reduceIte, Bool.false_eq_true, eq_self, ne_eq, not_true_eq_false, not_false_eq_true, Bool.true_eq_false, List.length_map, List.length_range, List.length_append, e_rng2, e_trng, e_lenum, e_dget, e_dgets, e_rev, onS_str, a_tup, a_nil, a_cons, pt1, pt2, pt3, pt4, h0, hl]
      simp [oD]
  obtain ⟨⟨y2, y3, y4, y5⟩, e, _⟩ := for_fold (cf := evCall allDefs (k + 1)) (d := d) (tg := .tup (.cons (.var 2) (.cons (.var 3) .nil))) (b := B38_1) (fun (acc : List (List Nat × Int)) (j : Sl × Sl × Sl × Sl) => [.sh T, .ow (acc.map oD), j.1, j.2.1, j.2.2.1, j.2.2.2]) oD
    (fun acc p => if decide (p.2 * along (fun i j => val (c i j)) 0 p.1 ≠ 0) = true then acc ++ [(p.1, p.2 * along (fun i j => val (c i j)) 0 p.1)] else acc)
    (fun r acc => acc.length + r.length < 100 ∧ ∀ p ∈ r, p ∈ ords n) (by
      rintro p r acc ⟨x2, x3, x4, x5⟩ ⟨h1, h2⟩
      simp only [List.length_cons] at h1
      obtain ⟨y4, y5, e⟩ := turn p acc x4 x5 (h2 p List.mem_cons_self) (by omega)
      refine ⟨_, rfl, (_, _, y4, y5), e, ?_, fun q hq => h2 q (List.mem_cons_of_mem _ hq)⟩
      split
      · simp; omega
      · omega) (ords n) [] (.no, .no, .no, .no) ⟨by have := ords_len' hn; simp; omega, fun p hp => hp⟩
  rw [foldl_if, List.nil_append] at e
  simp only [List.map_nil] at e
  rw [e]
  simp only [onB_some, onD_bl, onI_int, onO_some, r_bind, r_err, r_of, r_noerr, r_out, r_oute, o_er, o_rese, told_ok, told_0, told_1, told_2, told_3, told_4, told_5, told_6, told_7, told_8, told_9, told_10, o_nx, o_rt, o_res, o_resn, o_ofE, t_bl, t_int, tups_t, i_lst, i_tup, i_str, put0, putS, get0, getS, getO0, getOS, wipe_nil, wipe_cons, c_lt, c_gt, c_le, c_ge, c_eqI, c_neI, c_eqS, c_neS, c_eqB, c_neB, b_add, b_sub, x_len1, x_len2, x_tup1, x_tup2, x_lst1, x_abs, x_all, x_any, e_nil, e_cons, e_var, e_non, e_bl, e_int, e_str, e_tup, e_lst, e_bin, e_neg, e_cmp, e_chain, e_isn, e_and, e_or, e_and3, e_or3, e_not, e_ite, ifE_t, ifE_f, ifS_t, ifS_f, thenS_nx, thenS_er, thenS_rt, forS_nil, e_call, e_bi, e_isi, e_meth, e_ix, e_sl, e_rng1, e_enum, e_zip, e_lc, e_lcif, e_told, s_rse, s_nil', s_seq, s_set, s_own', s_par, s_parO, s_par3, s_frz, s_app, s_ret, s_ifs, s_fors, s_whl, s_ex, a_var, startE, List.map_cons, List.map_nil, List.length_cons, List.length_nil, List.cons_append, List.nil_append, List.append_nil, Nat.reduceAdd, Nat.reduceSub, Nat.zero_add, Nat.sub_self, List.replicate_zero, List.replicate_succ, Option.map_some, Option.bind_some, List.set_cons_zero, List.set_cons_succ, decide_true, decide_false, if_true, if_false, Bool.not_true, Bool.not_false, Bool.true_and, Bool.false_and, Bool.and_true, Bool.and_false, Bool.true_or, Bool.false_or, reduceIte, Bool.false_eq_true, eq_self, ne_eq, not_true_eq_false, not_false_eq_true, Bool.true_eq_false, List.length_map, List.length_range, List.length_append, e_rng2, e_trng, e_lenum, e_dget, e_dgets, e_rev, onS_str, a_tup, a_nil, a_cons, pt1, pt2, pt3, pt4]
  congr 3
  unfold terms prods
  rw [List.filter_map]
  rfl
end SG
namespace SG
theorem c_kind39 {k n : Nat} {d : Dice} {T : D} {c : Nat → Nat → Nat} (hn : n ≤ 4) (A : TabAt T n c) : evCall allDefs (k + 3) 39 [T] d = .ok (.str (kindS n c)) d := by
  rw [call_eq (df := F_law_kind) rfl rfl]
  unfold F_law_kind
  have lc : ∀ (x1 x2 x3 : Sl), lcS (evCall allDefs (k + 2)) C39_1 (.tup (.cons (.var 2) (.cons (.var 3) .nil))) [2, 3] ((terms n c).map oD) [.sh T, x1, x2, x3] d = .ok ((terms n c).map fun p => .int p.2) d := fun x1 x2 x3 => lc_mapG (terms n c) fun p hp => ⟨_, by simp only [onB_some, onD_bl, onI_int, onO_some, r_bind, r_err, r_of, r_noerr, r_out, r_oute, o_er, o_rese, told_ok, told_0, told_1, told_2, told_3, told_4, told_5, told_6, told_7, told_8, told_9, told_10, o_nx, o_rt, o_res, o_resn, o_ofE, t_bl, t_int, tups_t, i_lst, i_tup, i_str, put0, putS, get0, getS, getO0, getOS, wipe_nil, wipe_cons, c_lt, c_gt, c_le, c_ge, c_eqI, c_neI, c_eqS, c_neS, c_eqB, c_neB, b_add, b_sub, x_len1, x_len2, x_tup1, x_tup2, x_lst1, x_abs, x_all, x_any, e_nil, e_cons, e_var, e_non, e_bl, e_int, e_str, e_tup, e_lst, e_bin, e_neg, e_cmp, e_chain, e_isn, e_and, e_or, e_and3, e_or3, e_not, e_ite, ifE_t, ifE_f, ifS_t, ifS_f, thenS_nx, thenS_er, thenS_rt, forS_nil, e_call, e_bi, e_isi, e_meth, e_ix, e_sl, e_rng1, e_enum, e_zip, e_lc, e_lcif, e_told, s_rse, s_nil', s_seq, s_set, s_own', s_par, s_parO, s_par3, s_frz, s_app, s_ret, s_ifs, s_fors, s_whl, s_ex, a_var, startE, List.map_cons, List.map_nil, List.length_cons, List.length_nil, List.cons_append, List.nil_append, List.append_nil, Nat.reduceAdd, Nat.reduceSub, Nat.zero_add, Nat.sub_self, List.replicate_zero, List.replicate_succ, Option.map_some, Option.bind_some, List.set_cons_zero, List.set_cons_succ, decide_true, decide_false, if_true, if_false, Bool.not_true, Bool.not_false, Bool.true_and, Bool.false_and, Bool.and_true, Bool.and_false, Bool.true_or, Bool.false_or, reduceIte, Bool.false_eq_true, eq_self, ne_eq, not_true_eq_false, not_false_eq_true, Bool.true_eq_false, List.length_map, List.length_range, List.length_append, e_rng2, e_trng, e_lenum, e_dget, e_dgets, e_rev, onS_str, a_tup, a_nil, a_cons, pt1, pt2, pt3, pt4, oD]; rfl, by unfold C39_1; simp only [onB_some, onD_bl, onI_int, onO_some, r_bind, r_err, r_of, r_noerr, r_out, r_oute, o_er, o_rese, told_ok, told_0, told_1, told_2, told_3, told_4, told_5, told_6, told_7, told_8, told_9, told_10, o_nx, o_rt, o_res, o_resn, o_ofE, t_bl, t_int, tups_t, i_lst, i_tup, i_str, put0, putS, get0, getS, getO0, getOS, wipe_nil, wipe_cons, c_lt, c_gt, c_le, c_ge, c_eqI, c_neI, c_eqS, c_neS, c_eqB, c_neB, b_add, b_sub, x_len1, x_len2, x_tup1, x_tup2, x_lst1, x_abs, x_all, x_any, e_nil, e_cons, e_var, e_non, e_bl, e_int, e_str, e_tup, e_lst, e_bin, e_neg, e_cmp, e_chain, e_isn, e_and, e_or, e_and3, e_or3, e_not, e_ite, ifE_t, ifE_f, ifS_t, ifS_f, thenS_nx, thenS_er, thenS_rt, forS_nil, e_call, e_bi, e_isi, e_meth, e_ix, e_sl, e_rng1, e_enum, e_zip, e_lc, e_lcif, e_told, s_rse, s_nil', s_seq, s_set, s_own', s_par, s_parO, s_par3, s_frz, s_app, s_ret, s_ifs, s_fors, s_whl, s_ex, a_var, startE, List.map_cons, List.map_nil, List.length_cons, List.length_nil, List.cons_append, List.nil_append, List.append_nil, Nat.reduceAdd, Nat.reduceSub, Nat.zero_add, Nat.sub_self, List.replicate_zero, List.replicate_succ, Option.map_some, Option.bind_some, List.set_cons_zero, List.set_cons_succ, decide_true, decide_false, if_true, if_false, Bool.not_true, Bool.not_false, Bool.true_and, Bool.false_and, Bool.and_true, Bool.and_false, Bool.true_or, Bool.false_or, reduceIte, Bool.false_eq_true, eq_self, ne_eq, not_true_eq_false, not_false_eq_true, Bool.true_eq_false, List.length_map, List.length_range, List.length_append, e_rng2, e_trng, e_lenum, e_dget, e_dgets, e_rev, onS_str, a_tup, a_nil, a_cons, pt1, pt2, pt3, pt4]⟩
  have hl := terms_len hn c
  have hlim : (terms n c).length ≤ lim := le_lim (by omega)
  have hs : ssortO ((terms n c).map fun p => .int p.2) = some (.lst ((sset (tsg n c)).map .int)) := ssort_map (by omega)
  have h2 := sset_len (l := tsg n c) fun x hx => tsg_vals hn hx
  have hix : opIx (.lst [.str [110, 101, 118, 101, 114], .str [97, 108, 119, 97, 121, 115], .str [115, 111, 109, 101, 116, 105, 109, 101, 115]]) (.int ((sset (tsg n c)).length : Nat)) = some (.str (kindS n c)) := by
    unfold kindS
    generalize (sset (tsg n c)).length = q at h2
    rcases (show q = 0 ∨ q = 1 ∨ q = 2 by omega) with z | z | z <;> subst z <;> rfl
  simp only [onB_some, onD_bl, onI_int, onO_some, r_bind, r_err, r_of, r_noerr, r_out, r_oute, o_er, o_rese, told_ok, told_0, told_1, told_2, told_3, told_4, told_5, told_6, told_7, told_8, told_9, told_10, o_nx, o_rt, o_res, o_resn, o_ofE, t_bl, t_int, tups_t, i_lst, i_tup, i_str, put0, putS, get0, getS, getO0, getOS, wipe_nil, wipe_cons, c_lt, c_gt, c_le, c_ge, c_eqI, c_neI, c_eqS, c_neS, c_eqB, c_neB, b_add, b_sub, x_len1, x_len2, x_tup1, x_tup2, x_lst1, x_abs, x_all, x_any, e_nil, e_cons, e_var, e_non, e_bl, e_int, e_str, e_tup, e_lst, e_bin, e_neg, e_cmp, e_chain, e_isn, e_and, e_or, e_and3, e_or3, e_not, e_ite, ifE_t, ifE_f, ifS_t, ifS_f, thenS_nx, thenS_er, thenS_rt, forS_nil, e_call, e_bi, e_isi, e_meth, e_ix, e_sl, e_rng1, e_enum, e_zip, e_lc, e_lcif, e_told, s_rse, s_nil', s_seq, s_set, s_own', s_par, s_parO, s_par3, s_frz, s_app, s_ret, s_ifs, s_fors, s_whl, s_ex, a_var, startE, List.map_cons, List.map_nil, List.length_cons, List.length_nil, List.cons_append, List.nil_append, List.append_nil, Nat.reduceAdd, Nat.reduceSub, Nat.zero_add, Nat.sub_self, List.replicate_zero, List.replicate_succ, Option.map_some, Option.bind_some, List.set_cons_zero, List.set_cons_succ, decide_true, decide_false, if_true, if_false, Bool.not_true, Bool.not_false, Bool.true_and, Bool.false_and, Bool.and_true, Bool.and_false, Bool.true_or, Bool.false_or, reduceIte, Bool.false_eq_true, eq_self, ne_eq, not_true_eq_false, not_false_eq_true, Bool.true_eq_false, List.length_map, List.length_range, List.length_append, e_rng2, e_trng, e_lenum, e_dget, e_dgets, e_rev, onS_str, a_tup, a_nil, a_cons, pt1, pt2, pt3, pt4, c_terms hn A, hlim, lc, e_ssort, onLs_lst, hs, hix]
end SG
namespace SG
theorem enum_range {γ : Type} (e : γ → D) (x : γ) (l : List γ) : enumL 0 (l.map e) = (List.range l.length).map fun i => .tup [.int (i : Nat), e (l.getD i x)] := by
  rw [enum_map]
  apply List.ext_getElem?
  intro i
  rw [List.getElem?_map, List.getElem?_map, List.getElem?_zipIdx]
  by_cases h : i < l.length
  · rw [List.getElem?_range h, List.getElem?_eq_getElem h]
    simp [List.getD, h]
  · rw [List.getElem?_eq_none (show l.length ≤ i by omega), List.getElem?_eq_none (by simp; omega)]; rfl
def putT (t : List (List Nat)) (i j s : Nat) : List (List Nat) := setL t i (setL (t.getD i []) j s)
theorem setL_getD {α : Type} {l : List α} {i k : Nat} {x d : α} (hi : i < l.length) : (setL l i x).getD k d = if k = i then x else l.getD k d := by
  unfold setL
  simp only [List.getD]
  by_cases h1 : k < i
  · rw [if_neg (by omega), List.append_assoc, List.getElem?_append_left (by simp; omega), List.getElem?_take_of_lt h1]
  · by_cases h2 : k = i
    · subst h2
      rw [if_pos rfl, List.append_assoc, List.getElem?_append_right (by simp; omega)]
      simp [show min k l.length = k by omega]
    · rw [if_neg h2, List.getElem?_append_right (by simp; omega)]
      have e : (l.take i ++ [x]).length = i + 1 := by simp; omega
      rw [e, List.getElem?_drop]
      congr 2
      omega
theorem putT_tab {t : List (List Nat)} {m w i j s : Nat} (T : Tab t m w) (hi : i < m) (hj : j < w) (hs : Sg s) : Tab (putT t i j s) m w := by
  have tl := T.len
  have hg : t.getD i [] ∈ t := by rw [show t.getD i [] = t[i]'(by omega) by simp [List.getD, show i < t.length by omega]]; exact List.getElem_mem _
  have hr := T.row _ hg
  refine ⟨by unfold putT; rw [setL_len (by omega), tl], fun r h => ?_⟩
  rcases setL_mem h with e | e
  · subst e
    refine ⟨by rw [setL_len (by omega), hr.1], fun c hc => ?_⟩
    rcases setL_mem hc with z | z
    · subst z; exact hs
    · exact hr.2 c z
  · exact T.row r e
theorem putT_at {t : List (List Nat)} {m w i j s a b : Nat} (T : Tab t m w) (hi : i < m) (hj : j < w) : sgAt (putT t i j s) a b = if a = i ∧ b = j then s else sgAt t a b := by
  have tl := T.len
  have hg : t.getD i [] ∈ t := by rw [show t.getD i [] = t[i]'(by omega) by simp [List.getD, show i < t.length by omega]]; exact List.getElem_mem _
  have hr := T.row _ hg
  unfold sgAt putT
  rw [setL_getD (by omega)]
  by_cases h : a = i
  · subst h
    rw [if_pos rfl, setL_getD (by omega)]
    by_cases h2 : b = j
    · subst h2; simp
    · simp [h2]
  · simp [h]
theorem sl_hi1 {xs : List D} {j : Nat} (h : j < xs.length) : opSl (.tup xs) (some ((j : Int) + 1)) none = some (.tup (xs.drop (j + 1))) := by
  have := sl_hi (xs := xs) (j := j + 1) (by omega)
  rw [show ((j : Int) + 1) = ((j + 1 : Nat) : Int) by omega, this]
theorem sl_strlo {s : List Nat} {j : Nat} (h : j ≤ s.length) (hl : s.length < 1000) : opSl (.str s) none (some (j : Int)) = some (.str (s.take j)) := by
  have hl2 : s.length ≤ lim := le_lim hl
  simp only [opSl, hl2, if_true, cut_lo h]
theorem sl_strhi {s : List Nat} {j : Nat} (h : j < s.length) (hl : s.length < 1000) : opSl (.str s) (some ((j : Int) + 1)) none = some (.str (s.drop (j + 1))) := by
  have hl2 : s.length ≤ lim := le_lim hl
  have := cut_hi (xs := s) (j := j + 1) (by omega)
  simp only [opSl, hl2, if_true]
  rw [show ((j : Int) + 1) = ((j + 1 : Nat) : Int) by omega, this]
theorem add_strs {a b : List Nat} (h : a.length + b.length < 1000) : opBin .add (.str a) (.str b) = some (.str (a ++ b)) := by
  have : (a ++ b).length ≤ lim := le_lim (by simp; omega)
  simp only [opBin, mkS, this, if_true]
theorem put_facts {t : List (List Nat)} {m w i j s : Nat} (T : Tab t m w) (hm : m < 500) (hw : w < 500) (hi : i < m) (hj : j < w) :
    opIx (tabD t) (.int i) = some (.str (t.getD i [])) ∧ opSl (.str (t.getD i [])) none (some (j : Int)) = some (.str ((t.getD i []).take j)) ∧ opSl (.str (t.getD i [])) (some ((j : Int) + 1)) none = some (.str ((t.getD i []).drop (j + 1))) ∧
      opBin .add (.str ((t.getD i []).take j)) (.str [s]) = some (.str ((t.getD i []).take j ++ [s])) ∧ opBin .add (.str ((t.getD i []).take j ++ [s])) (.str ((t.getD i []).drop (j + 1))) = some (.str (setL (t.getD i []) j s)) ∧
      opSl (tabD t) none (some (i : Int)) = some (.tup ((t.take i).map .str)) ∧ opSl (tabD t) (some ((i : Int) + 1)) none = some (.tup ((t.drop (i + 1)).map .str)) ∧
      (∀ r, opBin .add (.tup ((t.take i).map .str)) (.tup [.str r]) = some (.tup ((t.take i ++ [r]).map .str))) ∧ ∀ r, opBin .add (.tup ((t.take i ++ [r]).map .str)) (.tup ((t.drop (i + 1)).map .str)) = some (tabD (setL t i r)) := by
  have tl := T.len
  obtain ⟨e1, hrl, _⟩ := tab_at T hi (by omega)
  generalize t.getD i [] = R at *
  refine ⟨e1, sl_strlo (by omega) (by omega), sl_strhi (by omega) (by omega), add_strs (by simp; omega), ?_, ?_, ?_, fun r => ?_, fun r => ?_⟩
  · rw [add_strs (by simp; omega)]; rfl
  · unfold tabD; rw [sl_lo (by simp; omega), ← List.map_take]
  · unfold tabD; rw [sl_hi1 (by simp; omega), ← List.map_drop]
  · rw [add_tup (by simp; omega)]; simp
  · rw [add_tup (by simp; omega)]; simp [tabD, setL]
end SG
namespace SG
section
variable {k n m w : Nat} {t : List (List Nat)} {d : Dice}
theorem n26 (T : Tab t n n) (hn : 1 ≤ n ∧ n ≤ 4) : evCall allDefs (k + 1) 26 [tabD t] d = .ok .non d := by
  rw [call_eq (df := Fneed_square) rfl rfl]
  unfold Fneed_square
  obtain ⟨r0, i0, l0⟩ := tab_head T hn.1 (by omega)
  simp only [onB_some, onD_bl, onI_int, onO_some, r_bind, r_err, r_of, r_noerr, r_out, r_oute, o_er, o_rese, told_ok, told_0, told_1, told_2, told_3, told_4, told_5, told_6, told_7, told_8, told_9, told_10, o_nx, o_rt, o_res, o_resn, o_ofE, t_bl, t_int, tups_t, i_lst, i_tup, i_str, put0, putS, get0, getS, getO0, getOS, wipe_nil, wipe_cons, c_lt, c_gt, c_le, c_ge, c_eqI, c_neI, c_eqS, c_neS, c_eqB, c_neB, b_add, b_sub, x_len1, x_len2, x_tup1, x_tup2, x_lst1, x_abs, x_all, x_any, e_nil, e_cons, e_var, e_non, e_bl, e_int, e_str, e_tup, e_lst, e_bin, e_neg, e_cmp, e_chain, e_isn, e_and, e_or, e_and3, e_or3, e_not, e_ite, ifE_t, ifE_f, ifS_t, ifS_f, thenS_nx, thenS_er, thenS_rt, forS_nil, e_call, e_bi, e_isi, e_meth, e_ix, e_sl, e_rng1, e_enum, e_zip, e_lc, e_lcif, e_told, s_rse, s_nil', s_seq, s_set, s_own', s_par, s_parO, s_par3, s_frz, s_app, s_ret, s_ifs, s_fors, s_whl, s_ex, a_var, startE, List.map_cons, List.map_nil, List.length_cons, List.length_nil, List.cons_append, List.nil_append, List.append_nil, Nat.reduceAdd, Nat.reduceSub, Nat.zero_add, Nat.sub_self, List.replicate_zero, List.replicate_succ, Option.map_some, Option.bind_some, List.set_cons_zero, List.set_cons_succ, decide_true, decide_false, if_true, if_false, Bool.not_true, Bool.not_false, Bool.true_and, Bool.false_and, Bool.and_true, Bool.and_false, Bool.true_or, Bool.false_or, reduceIte, Bool.false_eq_true, eq_self, ne_eq, not_true_eq_false, not_false_eq_true, Bool.true_eq_false, List.length_map, List.length_range, List.length_append, e_rng2, e_trng, e_lenum, e_dget, e_dgets, e_rev, onS_str, a_tup, a_nil, a_cons, pt1, pt2, pt3, pt4, tab_len T, i0, l0]
theorem e26 (T : Tab t m w) (hm : 1 ≤ m ∧ m ≤ 4) (hw : 1 ≤ w ∧ w ≤ 4) (h : m ≠ w) : evCall allDefs (k + 1) 26 [tabD t] d = .err 5 d := by
  rw [call_eq (df := Fneed_square) rfl rfl]
  unfold Fneed_square
  obtain ⟨r0, i0, l0⟩ := tab_head T hm.1 (by omega)
  have h' : ¬ ((m : Int) = (w : Int)) := by omega
  simp only [onB_some, onD_bl, onI_int, onO_some, r_bind, r_err, r_of, r_noerr, r_out, r_oute, o_er, o_rese, told_ok, told_0, told_1, told_2, told_3, told_4, told_5, told_6, told_7, told_8, told_9, told_10, o_nx, o_rt, o_res, o_resn, o_ofE, t_bl, t_int, tups_t, i_lst, i_tup, i_str, put0, putS, get0, getS, getO0, getOS, wipe_nil, wipe_cons, c_lt, c_gt, c_le, c_ge, c_eqI, c_neI, c_eqS, c_neS, c_eqB, c_neB, b_add, b_sub, x_len1, x_len2, x_tup1, x_tup2, x_lst1, x_abs, x_all, x_any, e_nil, e_cons, e_var, e_non, e_bl, e_int, e_str, e_tup, e_lst, e_bin, e_neg, e_cmp, e_chain, e_isn, e_and, e_or, e_and3, e_or3, e_not, e_ite, ifE_t, ifE_f, ifS_t, ifS_f, thenS_nx, thenS_er, thenS_rt, forS_nil, e_call, e_bi, e_isi, e_meth, e_ix, e_sl, e_rng1, e_enum, e_zip, e_lc, e_lcif, e_told, s_rse, s_nil', s_seq, s_set, s_own', s_par, s_parO, s_par3, s_frz, s_app, s_ret, s_ifs, s_fors, s_whl, s_ex, a_var, startE, List.map_cons, List.map_nil, List.length_cons, List.length_nil, List.cons_append, List.nil_append, List.append_nil, Nat.reduceAdd, Nat.reduceSub, Nat.zero_add, Nat.sub_self, List.replicate_zero, List.replicate_succ, Option.map_some, Option.bind_some, List.set_cons_zero, List.set_cons_succ, decide_true, decide_false, if_true, if_false, Bool.not_true, Bool.not_false, Bool.true_and, Bool.false_and, Bool.and_true, Bool.and_false, Bool.true_or, Bool.false_or, reduceIte, Bool.false_eq_true, eq_self, ne_eq, not_true_eq_false, not_false_eq_true, Bool.true_eq_false, List.length_map, List.length_range, List.length_append, e_rng2, e_trng, e_lenum, e_dget, e_dgets, e_rev, onS_str, a_tup, a_nil, a_cons, pt1, pt2, pt3, pt4, tab_len T, i0, l0, h']
theorem kindA {c : Nat → Nat → Nat} (hn : n ≤ 4) : (Alw n c → opCmp .eq (.str (kindS n c)) (.str [97, 108, 119, 97, 121, 115]) = some true) ∧ (¬ Alw n c → opCmp .eq (.str (kindS n c)) (.str [97, 108, 119, 97, 121, 115]) = some false) := by
  have e : opCmp .eq (.str (kindS n c)) (.str [97, 108, 119, 97, 121, 115]) = some (kindS n c == [97, 108, 119, 97, 121, 115]) := by simp [opCmp, D.dep, D.eq]
  rw [e]
  constructor
  · intro h
    rw [beq_iff_eq.mpr (show kindS n c = [97, 108, 119, 97, 121, 115] from (kindS_alw hn).mpr h)]
  · intro h
    rw [beq_eq_false_iff_ne.mpr (show kindS n c ≠ [97, 108, 119, 97, 121, 115] from fun z => h ((kindS_alw hn).mp z))]
def wsD (p : List Nat × Int) : D := .tup [nD p.1, .str [sgOf (decide (0 < p.2))]]
theorem nD_dep (l : List Nat) : (nD l).dep ≤ 1 := dep_tup (c := 0) fun x hx => by obtain ⟨i, _, rfl⟩ := List.mem_map.mp hx; exact Nat.le_refl 0
theorem wsD_dep (l : List (List Nat × Int)) : (D.tup (l.map wsD)).dep ≤ 64 := Nat.le_trans (dep_tup (c := 2) fun y hy => by
  obtain ⟨p, _, rfl⟩ := List.mem_map.mp hy
  refine dep_tup (c := 1) fun z hz => ?_
  simp only [List.mem_cons, List.not_mem_nil, or_false] at hz
  rcases hz with rfl | rfl
  · exact nD_dep p.1
  · exact Nat.zero_le _) (by decide)
theorem c_cyc103 (T : Tab t n n) (hn : 1 ≤ n ∧ n ≤ 4) : evCall allDefs (k + 7) 103 [tabD t] d = .ok (.tup ((sel (sgAt t) (cand n)).map wsD)) d := by
  have f2 : evCall allDefs (k + 6) 2 [tabD t] d = .ok .non d := c_need (k := k + 3) T hn hn
  have f26 : evCall allDefs (k + 6) 26 [tabD t] d = .ok .non d := n26 (k := k + 5) T hn
  have f102 : evCall allDefs (k + 6) 102 [tabD t] d = .ok (.lst ((sel (sgAt t) (cand n)).map oD)) d := c_cyc102 (k := k) T hn
  have hl := sel_len (sgAt t) (cand n)
  have hc := (cand_ok hn.2).1
  generalize sel (sgAt t) (cand n) = F at *
  have hlim : F.length ≤ lim := le_lim (by omega)
  have lc : ∀ x1 x2, lcS (evCall allDefs (k + 6)) C103_1 (.tup (.cons (.var 1) (.cons (.var 2) .nil))) [1, 2] (F.map oD) [.sh (tabD t), x1, x2] d = .ok (F.map wsD) d := fun x1 x2 => lc_mapG F fun p hp => ⟨_, by simp only [onB_some, onD_bl, onI_int, onO_some, r_bind, r_err, r_of, r_noerr, r_out, r_oute, o_er, o_rese, told_ok, told_0, told_1, told_2, told_3, told_4, told_5, told_6, told_7, told_8, told_9, told_10, o_nx, o_rt, o_res, o_resn, o_ofE, t_bl, t_int, tups_t, i_lst, i_tup, i_str, put0, putS, get0, getS, getO0, getOS, wipe_nil, wipe_cons, c_lt, c_gt, c_le, c_ge, c_eqI, c_neI, c_eqS, c_neS, c_eqB, c_neB, b_add, b_sub, x_len1, x_len2, x_tup1, x_tup2, x_lst1, x_abs, x_all, x_any, e_nil, e_cons, e_var, e_non, e_bl, e_int, e_str, e_tup, e_lst, e_bin, e_neg, e_cmp, e_chain, e_isn, e_and, e_or, e_and3, e_or3, e_not, e_ite, ifE_t, ifE_f, ifS_t, ifS_f, thenS_nx, thenS_er, thenS_rt, forS_nil, e_call, e_bi, e_isi, e_meth, e_ix, e_sl, e_rng1, e_enum, e_zip, e_lc, e_lcif, e_told, s_rse, s_nil', s_seq, s_set, s_own', s_par, s_parO, s_par3, s_frz, s_app, s_ret, s_ifs, s_fors, s_whl, s_ex, a_var, startE, List.map_cons, List.map_nil, List.length_cons, List.length_nil, List.cons_append, List.nil_append, List.append_nil, Nat.reduceAdd, Nat.reduceSub, Nat.zero_add, Nat.sub_self, List.replicate_zero, List.replicate_succ, Option.map_some, Option.bind_some, List.set_cons_zero, List.set_cons_succ, decide_true, decide_false, if_true, if_false, Bool.not_true, Bool.not_false, Bool.true_and, Bool.false_and, Bool.and_true, Bool.and_false, Bool.true_or, Bool.false_or, reduceIte, Bool.false_eq_true, eq_self, ne_eq, not_true_eq_false, not_false_eq_true, Bool.true_eq_false, List.length_map, List.length_range, List.length_append, e_rng2, e_trng, e_lenum, e_dget, e_dgets, e_rev, onS_str, a_tup, a_nil, a_cons, pt1, pt2, pt3, pt4, oD]; rfl, by
    unfold C103_1 wsD
    by_cases h0 : 0 < p.2
    · simp only [onB_some, onD_bl, onI_int, onO_some, r_bind, r_err, r_of, r_noerr, r_out, r_oute, o_er, o_rese, told_ok, told_0, told_1, told_2, told_3, told_4, told_5, told_6, told_7, told_8, told_9, told_10, o_nx, o_rt, o_res, o_resn, o_ofE, t_bl, t_int, tups_t, i_lst, i_tup, i_str, put0, putS, get0, getS, getO0, getOS, wipe_nil, wipe_cons, c_lt, c_gt, c_le, c_ge, c_eqI, c_neI, c_eqS, c_neS, c_eqB, c_neB, b_add, b_sub, x_len1, x_len2, x_tup1, x_tup2, x_lst1, x_abs, x_all, x_any, e_nil, e_cons, e_var, e_non, e_bl, e_int, e_str, e_tup, e_lst, e_bin, e_neg, e_cmp, e_chain, e_isn, e_and, e_or, e_and3, e_or3, e_not, e_ite, ifE_t, ifE_f, ifS_t, ifS_f, thenS_nx, thenS_er, thenS_rt, forS_nil, e_call, e_bi, e_isi, e_meth, e_ix, e_sl, e_rng1, e_enum, e_zip, e_lc, e_lcif, e_told, s_rse, s_nil', s_seq, s_set, s_own', s_par, s_parO, s_par3, s_frz, s_app, s_ret, s_ifs, s_fors, s_whl, s_ex, a_var, startE, List.map_cons, List.map_nil, List.length_cons, List.length_nil, List.cons_append, List.nil_append, List.append_nil, Nat.reduceAdd, Nat.reduceSub, Nat.zero_add, Nat.sub_self, List.replicate_zero, List.replicate_succ, Option.map_some, Option.bind_some, List.set_cons_zero, List.set_cons_succ, decide_true, decide_false, if_true, if_false, Bool.not_true, Bool.not_false, Bool.true_and, Bool.false_and, Bool.and_true, Bool.and_false, Bool.true_or, Bool.false_or, reduceIte, Bool.false_eq_true, eq_self, ne_eq, not_true_eq_false, not_false_eq_true, Bool.true_eq_false, List.length_map, List.length_range, List.length_append, e_rng2, e_trng, e_lenum, e_dget, e_dgets, e_rev, onS_str, a_tup, a_nil, a_cons, pt1, pt2, pt3, pt4, h0, sgOf]
    · simp only [onB_some, onD_bl, onI_int, onO_some, r_bind, r_err, r_of, r_noerr, r_out, r_oute, o_er, o_rese, told_ok, told_0, told_1, told_2, told_3, told_4, told_5, told_6, told_7, told_8, told_9, told_10, o_nx, o_rt, o_res, o_resn, o_ofE, t_bl, t_int, tups_t, i_lst, i_tup, i_str, put0, putS, get0, getS, getO0, getOS, wipe_nil, wipe_cons, c_lt, c_gt, c_le, c_ge, c_eqI, c_neI, c_eqS, c_neS, c_eqB, c_neB, b_add, b_sub, x_len1, x_len2, x_tup1, x_tup2, x_lst1, x_abs, x_all, x_any, e_nil, e_cons, e_var, e_non, e_bl, e_int, e_str, e_tup, e_lst, e_bin, e_neg, e_cmp, e_chain, e_isn, e_and, e_or, e_and3, e_or3, e_not, e_ite, ifE_t, ifE_f, ifS_t, ifS_f, thenS_nx, thenS_er, thenS_rt, forS_nil, e_call, e_bi, e_isi, e_meth, e_ix, e_sl, e_rng1, e_enum, e_zip, e_lc, e_lcif, e_told, s_rse, s_nil', s_seq, s_set, s_own', s_par, s_parO, s_par3, s_frz, s_app, s_ret, s_ifs, s_fors, s_whl, s_ex, a_var, startE, List.map_cons, List.map_nil, List.length_cons, List.length_nil, List.cons_append, List.nil_append, List.append_nil, Nat.reduceAdd, Nat.reduceSub, Nat.zero_add, Nat.sub_self, List.replicate_zero, List.replicate_succ, Option.map_some, Option.bind_some, List.set_cons_zero, List.set_cons_succ, decide_true, decide_false, if_true, if_false, Bool.not_true, Bool.not_false, Bool.true_and, Bool.false_and, Bool.and_true, Bool.and_false, Bool.true_or, Bool.false_or, reduceIte, Bool.false_eq_true, eq_self, ne_eq, not_true_eq_false, not_false_eq_true, Bool.true_eq_false, List.length_map, List.length_range, List.length_append, e_rng2, e_trng, e_lenum, e_dget, e_dgets, e_rev, onS_str, a_tup, a_nil, a_cons, pt1, pt2, pt3, pt4, h0, sgOf]⟩
  rw [call_eq (df := Fcycles) rfl rfl]
  unfold Fcycles
  simp only [onB_some, onD_bl, onI_int, onO_some, r_bind, r_err, r_of, r_noerr, r_out, r_oute, o_er, o_rese, told_ok, told_0, told_1, told_2, told_3, told_4, told_5, told_6, told_7, told_8, told_9, told_10, o_nx, o_rt, o_res, o_resn, o_ofE, t_bl, t_int, tups_t, i_lst, i_tup, i_str, put0, putS, get0, getS, getO0, getOS, wipe_nil, wipe_cons, c_lt, c_gt, c_le, c_ge, c_eqI, c_neI, c_eqS, c_neS, c_eqB, c_neB, b_add, b_sub, x_len1, x_len2, x_tup1, x_tup2, x_lst1, x_abs, x_all, x_any, e_nil, e_cons, e_var, e_non, e_bl, e_int, e_str, e_tup, e_lst, e_bin, e_neg, e_cmp, e_chain, e_isn, e_and, e_or, e_and3, e_or3, e_not, e_ite, ifE_t, ifE_f, ifS_t, ifS_f, thenS_nx, thenS_er, thenS_rt, forS_nil, e_call, e_bi, e_isi, e_meth, e_ix, e_sl, e_rng1, e_enum, e_zip, e_lc, e_lcif, e_told, s_rse, s_nil', s_seq, s_set, s_own', s_par, s_parO, s_par3, s_frz, s_app, s_ret, s_ifs, s_fors, s_whl, s_ex, a_var, startE, List.map_cons, List.map_nil, List.length_cons, List.length_nil, List.cons_append, List.nil_append, List.append_nil, Nat.reduceAdd, Nat.reduceSub, Nat.zero_add, Nat.sub_self, List.replicate_zero, List.replicate_succ, Option.map_some, Option.bind_some, List.set_cons_zero, List.set_cons_succ, decide_true, decide_false, if_true, if_false, Bool.not_true, Bool.not_false, Bool.true_and, Bool.false_and, Bool.and_true, Bool.and_false, Bool.true_or, Bool.false_or, reduceIte, Bool.false_eq_true, eq_self, ne_eq, not_true_eq_false, not_false_eq_true, Bool.true_eq_false, List.length_map, List.length_range, List.length_append, e_rng2, e_trng, e_lenum, e_dget, e_dgets, e_rev, onS_str, a_tup, a_nil, a_cons, pt1, pt2, pt3, pt4, f2, f26, f102, hlim, lc]
def dgB (t : List (List Nat)) (n : Nat) : Bool := (List.range n).all fun i => decide (sgAt t i i = 45)
def posD (c : Nat → Nat → Nat) (n : Nat) : D := match (sel c (cand n)).filter fun p => decide (0 < p.2) with
  | [] => .non
  | p :: _ => nD p.1
theorem find_filter : ∀ l : List (List Nat × Int), (l.findSome? fun q => if 0 < q.2 then some (nD q.1) else none) = ((l.filter fun p => decide (0 < p.2)).head?).map fun q => nD q.1
  | [] => rfl
  | q :: l => by
    by_cases h : 0 < q.2
    · simp [List.findSome?_cons, h]
    · simp [List.findSome?_cons, h, find_filter l]
theorem lc_diag {elt : E} {own : List Nat} {cf : CF} (T : Tab t n n) (hn : n ≤ 4) {i j : Nat} {env : Env} (h : ∀ a, a < n → ∃ env1, asg (.tup (.cons (.var i) (.cons (.var j) .nil))) (.tup [.int (a : Nat), .str (t.getD a [])]) (env.wipe own) = some env1 ∧ ev cf elt env1 d = .ok (.bl (decide (sgAt t a a = 45))) d) : lcS cf elt (.tup (.cons (.var i) (.cons (.var j) .nil))) own (enumL 0 (t.map .str)) env d = .ok ((List.range n).map fun a => .bl (decide (sgAt t a a = 45))) d := by
  rw [enum_range D.str [] t, T.len]
  exact lc_mapG (List.range n) fun a ha => h a (List.mem_range.mp ha)
theorem eq_45 {c : Nat} : decide ([c] = [45]) = decide (c = 45) := by rw [decide_eq_decide]; simp
theorem c_cyc104 (T : Tab t n n) (hn : 1 ≤ n ∧ n ≤ 4) : evCall allDefs (k + 7) 104 [tabD t] d = if dgB t n = true then .ok (posD (sgAt t) n) d else .err 7 d := by
  have f2 : evCall allDefs (k + 6) 2 [tabD t] d = .ok .non d := c_need (k := k + 3) T hn hn
  have f26 : evCall allDefs (k + 6) 26 [tabD t] d = .ok .non d := n26 (k := k + 5) T hn
  have f102 : evCall allDefs (k + 6) 102 [tabD t] d = .ok (.lst ((sel (sgAt t) (cand n)).map oD)) d := c_cyc102 (k := k) T hn
  have it : items (tabD t) = some (t.map .str) := rfl
  have tl := T.len
  have lc : ∀ x1 x2, lcS (evCall allDefs (k + 6)) C104_1 (.tup (.cons (.var 1) (.cons (.var 2) .nil))) [1, 2] (enumL 0 (t.map .str)) [.sh (tabD t), x1, x2, .no, .no] d = .ok ((List.range n).map fun a => .bl (decide (sgAt t a a = 45))) d := fun x1 x2 => lc_diag T hn.2 fun a ha => ⟨_, rfl, by
    obtain ⟨_, _, e2⟩ := tab_at T ha (show n < 1000 by omega)
    unfold C104_1
    generalize t.getD a [] = R at *
    simp only [onB_some, onD_bl, onI_int, onO_some, r_bind, r_err, r_of, r_noerr, r_out, r_oute, o_er, o_rese, told_ok, told_0, told_1, told_2, told_3, told_4, told_5, told_6, told_7, told_8, told_9, told_10, o_nx, o_rt, o_res, o_resn, o_ofE, t_bl, t_int, tups_t, i_lst, i_tup, i_str, put0, putS, get0, getS, getO0, getOS, wipe_nil, wipe_cons, c_lt, c_gt, c_le, c_ge, c_eqI, c_neI, c_eqS, c_neS, c_eqB, c_neB, b_add, b_sub, x_len1, x_len2, x_tup1, x_tup2, x_lst1, x_abs, x_all, x_any, e_nil, e_cons, e_var, e_non, e_bl, e_int, e_str, e_tup, e_lst, e_bin, e_neg, e_cmp, e_chain, e_isn, e_and, e_or, e_and3, e_or3, e_not, e_ite, ifE_t, ifE_f, ifS_t, ifS_f, thenS_nx, thenS_er, thenS_rt, forS_nil, e_call, e_bi, e_isi, e_meth, e_ix, e_sl, e_rng1, e_enum, e_zip, e_lc, e_lcif, e_told, s_rse, s_nil', s_seq, s_set, s_own', s_par, s_parO, s_par3, s_frz, s_app, s_ret, s_ifs, s_fors, s_whl, s_ex, a_var, startE, List.map_cons, List.map_nil, List.length_cons, List.length_nil, List.cons_append, List.nil_append, List.append_nil, Nat.reduceAdd, Nat.reduceSub, Nat.zero_add, Nat.sub_self, List.replicate_zero, List.replicate_succ, Option.map_some, Option.bind_some, List.set_cons_zero, List.set_cons_succ, decide_true, decide_false, if_true, if_false, Bool.not_true, Bool.not_false, Bool.true_and, Bool.false_and, Bool.and_true, Bool.and_false, Bool.true_or, Bool.false_or, reduceIte, Bool.false_eq_true, eq_self, ne_eq, not_true_eq_false, not_false_eq_true, Bool.true_eq_false, List.length_map, List.length_range, List.length_append, e_rng2, e_trng, e_lenum, e_dget, e_dgets, e_rev, onS_str, a_tup, a_nil, a_cons, pt1, pt2, pt3, pt4, (e2 a ha).1, eq_45]⟩
  have hen : (enumL 0 (t.map D.str)).length ≤ lim := by
    rw [enum_range D.str [] t, List.length_map, List.length_range, tl]
    exact le_lim (by omega)
  have al : ((List.range n).all fun a => decide (sgAt t a a = 45)) = dgB t n := rfl
  rw [call_eq (df := Fpositive_cycle) rfl rfl]
  unfold Fpositive_cycle
  generalize hE : enumL 0 (t.map D.str) = EN at *
  cases hd : dgB t n with
  | false =>
    rw [hd] at al
    rw [if_neg (by decide)]
    simp only [onB_some, onD_bl, onI_int, onO_some, r_bind, r_err, r_of, r_noerr, r_out, r_oute, o_er, o_rese, told_ok, told_0, told_1, told_2, told_3, told_4, told_5, told_6, told_7, told_8, told_9, told_10, o_nx, o_rt, o_res, o_resn, o_ofE, t_bl, t_int, tups_t, i_lst, i_tup, i_str, put0, putS, get0, getS, getO0, getOS, wipe_nil, wipe_cons, c_lt, c_gt, c_le, c_ge, c_eqI, c_neI, c_eqS, c_neS, c_eqB, c_neB, b_add, b_sub, x_len1, x_len2, x_tup1, x_tup2, x_lst1, x_abs, x_all, x_any, e_nil, e_cons, e_var, e_non, e_bl, e_int, e_str, e_tup, e_lst, e_bin, e_neg, e_cmp, e_chain, e_isn, e_and, e_or, e_and3, e_or3, e_not, e_ite, ifE_t, ifE_f, ifS_t, ifS_f, thenS_nx, thenS_er, thenS_rt, forS_nil, e_call, e_bi, e_isi, e_meth, e_ix, e_sl, e_rng1, e_enum, e_zip, e_lc, e_lcif, e_told, s_rse, s_nil', s_seq, s_set, s_own', s_par, s_parO, s_par3, s_frz, s_app, s_ret, s_ifs, s_fors, s_whl, s_ex, a_var, startE, List.map_cons, List.map_nil, List.length_cons, List.length_nil, List.cons_append, List.nil_append, List.append_nil, Nat.reduceAdd, Nat.reduceSub, Nat.zero_add, Nat.sub_self, List.replicate_zero, List.replicate_succ, Option.map_some, Option.bind_some, List.set_cons_zero, List.set_cons_succ, decide_true, decide_false, if_true, if_false, Bool.not_true, Bool.not_false, Bool.true_and, Bool.false_and, Bool.and_true, Bool.and_false, Bool.true_or, Bool.false_or, reduceIte, Bool.false_eq_true, eq_self, ne_eq, not_true_eq_false, not_false_eq_true, Bool.true_eq_false, List.length_map, List.length_range, List.length_append, e_rng2, e_trng, e_lenum, e_dget, e_dgets, e_rev, onS_str, a_tup, a_nil, a_cons, pt1, pt2, pt3, pt4, f2, f26, it, hE, hen, lc, al]
  | true =>
    rw [hd] at al
    rw [if_pos rfl]
    have ff := find_filter (sel (sgAt t) (cand n))
    unfold posD
    rcases for_find (cf := evCall allDefs (k + 6)) (d := d) (tg := .tup (.cons (.var 3) (.cons (.var 4) .nil))) (b := B104_1) (fun z : Sl × Sl => [.sh (tabD t), .no, .no, z.1, z.2]) oD (fun q => if 0 < q.2 then some (nD q.1) else none) (sel (sgAt t) (cand n)) (.no, .no) (by
        rintro q hq ⟨z3, z4⟩
        refine ⟨[.sh (tabD t), .no, .no, .sh (nD q.1), .sh (.int q.2)], rfl, ?_⟩
        unfold B104_1
        by_cases h0 : 0 < q.2
        · exact .inl ⟨nD q.1, by rw [if_pos h0], by simp only [onB_some, onD_bl, onI_int, onO_some, r_bind, r_err, r_of, r_noerr, r_out, r_oute, o_er, o_rese, told_ok, told_0, told_1, told_2, told_3, told_4, told_5, told_6, told_7, told_8, told_9, told_10, o_nx, o_rt, o_res, o_resn, o_ofE, t_bl, t_int, tups_t, i_lst, i_tup, i_str, put0, putS, get0, getS, getO0, getOS, wipe_nil, wipe_cons, c_lt, c_gt, c_le, c_ge, c_eqI, c_neI, c_eqS, c_neS, c_eqB, c_neB, b_add, b_sub, x_len1, x_len2, x_tup1, x_tup2, x_lst1, x_abs, x_all, x_any, e_nil, e_cons, e_var, e_non, e_bl, e_int, e_str, e_tup, e_lst, e_bin, e_neg, e_cmp, e_chain, e_isn, e_and, e_or, e_and3, e_or3, e_not, e_ite, ifE_t, ifE_f, ifS_t, ifS_f, thenS_nx, thenS_er, thenS_rt, forS_nil, e_call, e_bi, e_isi, e_meth, e_ix, e_sl, e_rng1, e_enum, e_zip, e_lc, e_lcif, e_told, s_rse, s_nil', s_seq, s_set, s_own', s_par, s_parO, s_par3, s_frz, s_app, s_ret, s_ifs, s_fors, s_whl, s_ex, a_var, startE, List.map_cons, List.map_nil, List.length_cons, List.length_nil, List.cons_append, List.nil_append, List.append_nil, Nat.reduceAdd, Nat.reduceSub, Nat.zero_add, Nat.sub_self, List.replicate_zero, List.replicate_succ, Option.map_some, Option.bind_some, List.set_cons_zero, List.set_cons_succ, decide_true, decide_false, if_true, if_false, Bool.not_true, Bool.not_false, Bool.true_and, Bool.false_and, Bool.and_true, Bool.and_false, Bool.true_or, Bool.false_or, reduceIte, Bool.false_eq_true, eq_self, ne_eq, not_true_eq_false, not_false_eq_true, Bool.true_eq_false, List.length_map, List.length_range, List.length_append, e_rng2, e_trng, e_lenum, e_dget, e_dgets, e_rev, onS_str, a_tup, a_nil, a_cons, pt1, pt2, pt3, pt4, h0]⟩
        · exact .inr ⟨by rw [if_neg h0], (.sh (nD q.1), .sh (.int q.2)), by simp only [onB_some, onD_bl, onI_int, onO_some, r_bind, r_err, r_of, r_noerr, r_out, r_oute, o_er, o_rese, told_ok, told_0, told_1, told_2, told_3, told_4, told_5, told_6, told_7, told_8, told_9, told_10, o_nx, o_rt, o_res, o_resn, o_ofE, t_bl, t_int, tups_t, i_lst, i_tup, i_str, put0, putS, get0, getS, getO0, getOS, wipe_nil, wipe_cons, c_lt, c_gt, c_le, c_ge, c_eqI, c_neI, c_eqS, c_neS, c_eqB, c_neB, b_add, b_sub, x_len1, x_len2, x_tup1, x_tup2, x_lst1, x_abs, x_all, x_any, e_nil, e_cons, e_var, e_non, e_bl, e_int, e_str, e_tup, e_lst, e_bin, e_neg, e_cmp, e_chain, e_isn, e_and, e_or, e_and3, e_or3, e_not, e_ite, ifE_t, ifE_f, ifS_t, ifS_f, thenS_nx, thenS_er, thenS_rt, forS_nil, e_call, e_bi, e_isi, e_meth, e_ix, e_sl, e_rng1, e_enum, e_zip, e_lc, e_lcif, e_told, s_rse, s_nil', s_seq, s_set, s_own', s_par, s_parO, s_par3, s_frz, s_app, s_ret, s_ifs, s_fors, s_whl, s_ex, a_var, startE, List.map_cons, List.map_nil, List.length_cons, List.length_nil, List.cons_append, List.nil_append, List.append_nil, Nat.reduceAdd, Nat.reduceSub, Nat.zero_add, Nat.sub_self, List.replicate_zero, List.replicate_succ, Option.map_some, Option.bind_some, List.set_cons_zero, List.set_cons_succ, decide_true, decide_false, if_true, if_false, Bool.not_true, Bool.not_false, Bool.true_and, Bool.false_and, Bool.and_true, Bool.and_false, Bool.true_or, Bool.false_or, reduceIte, Bool.false_eq_true, eq_self, ne_eq, not_true_eq_false, not_false_eq_true, Bool.true_eq_false, List.length_map, List.length_range, List.length_append, e_rng2, e_trng, e_lenum, e_dget, e_dgets, e_rev, onS_str, a_tup, a_nil, a_cons, pt1, pt2, pt3, pt4, h0]⟩) with ⟨v, hv, e⟩ | ⟨hv, ⟨y3, y4⟩, e⟩
    · rw [ff] at hv
      cases hf : (sel (sgAt t) (cand n)).filter (fun p => decide (0 < p.2)) with
      | nil => rw [hf] at hv; cases hv
      | cons q r =>
        rw [hf] at hv
        simp only [List.head?_cons, Option.map_some, Option.some.injEq] at hv
        subst hv
        simp only [onB_some, onD_bl, onI_int, onO_some, r_bind, r_err, r_of, r_noerr, r_out, r_oute, o_er, o_rese, told_ok, told_0, told_1, told_2, told_3, told_4, told_5, told_6, told_7, told_8, told_9, told_10, o_nx, o_rt, o_res, o_resn, o_ofE, t_bl, t_int, tups_t, i_lst, i_tup, i_str, put0, putS, get0, getS, getO0, getOS, wipe_nil, wipe_cons, c_lt, c_gt, c_le, c_ge, c_eqI, c_neI, c_eqS, c_neS, c_eqB, c_neB, b_add, b_sub, x_len1, x_len2, x_tup1, x_tup2, x_lst1, x_abs, x_all, x_any, e_nil, e_cons, e_var, e_non, e_bl, e_int, e_str, e_tup, e_lst, e_bin, e_neg, e_cmp, e_chain, e_isn, e_and, e_or, e_and3, e_or3, e_not, e_ite, ifE_t, ifE_f, ifS_t, ifS_f, thenS_nx, thenS_er, thenS_rt, forS_nil, e_call, e_bi, e_isi, e_meth, e_ix, e_sl, e_rng1, e_enum, e_zip, e_lc, e_lcif, e_told, s_rse, s_nil', s_seq, s_set, s_own', s_par, s_parO, s_par3, s_frz, s_app, s_ret, s_ifs, s_fors, s_whl, s_ex, a_var, startE, List.map_cons, List.map_nil, List.length_cons, List.length_nil, List.cons_append, List.nil_append, List.append_nil, Nat.reduceAdd, Nat.reduceSub, Nat.zero_add, Nat.sub_self, List.replicate_zero, List.replicate_succ, Option.map_some, Option.bind_some, List.set_cons_zero, List.set_cons_succ, decide_true, decide_false, if_true, if_false, Bool.not_true, Bool.not_false, Bool.true_and, Bool.false_and, Bool.and_true, Bool.and_false, Bool.true_or, Bool.false_or, reduceIte, Bool.false_eq_true, eq_self, ne_eq, not_true_eq_false, not_false_eq_true, Bool.true_eq_false, List.length_map, List.length_range, List.length_append, e_rng2, e_trng, e_lenum, e_dget, e_dgets, e_rev, onS_str, a_tup, a_nil, a_cons, pt1, pt2, pt3, pt4, f2, f26, it, hE, hen, lc, al, f102]
        rw [e]
        simp only [onB_some, onD_bl, onI_int, onO_some, r_bind, r_err, r_of, r_noerr, r_out, r_oute, o_er, o_rese, told_ok, told_0, told_1, told_2, told_3, told_4, told_5, told_6, told_7, told_8, told_9, told_10, o_nx, o_rt, o_res, o_resn, o_ofE, t_bl, t_int, tups_t, i_lst, i_tup, i_str, put0, putS, get0, getS, getO0, getOS, wipe_nil, wipe_cons, c_lt, c_gt, c_le, c_ge, c_eqI, c_neI, c_eqS, c_neS, c_eqB, c_neB, b_add, b_sub, x_len1, x_len2, x_tup1, x_tup2, x_lst1, x_abs, x_all, x_any, e_nil, e_cons, e_var, e_non, e_bl, e_int, e_str, e_tup, e_lst, e_bin, e_neg, e_cmp, e_chain, e_isn, e_and, e_or, e_and3, e_or3, e_not, e_ite, ifE_t, ifE_f, ifS_t, ifS_f, thenS_nx, thenS_er, thenS_rt, forS_nil, e_call, e_bi, e_isi, e_meth, e_ix, e_sl, e_rng1, e_enum, e_zip, e_lc, e_lcif, e_told, s_rse, s_nil', s_seq, s_set, s_own', s_par, s_parO, s_par3, s_frz, s_app, s_ret, s_ifs, s_fors, s_whl, s_ex, a_var, startE, List.map_cons, List.map_nil, List.length_cons, List.length_nil, List.cons_append, List.nil_append, List.append_nil, Nat.reduceAdd, Nat.reduceSub, Nat.zero_add, Nat.sub_self, List.replicate_zero, List.replicate_succ, Option.map_some, Option.bind_some, List.set_cons_zero, List.set_cons_succ, decide_true, decide_false, if_true, if_false, Bool.not_true, Bool.not_false, Bool.true_and, Bool.false_and, Bool.and_true, Bool.and_false, Bool.true_or, Bool.false_or, reduceIte, Bool.false_eq_true, eq_self, ne_eq, not_true_eq_false, not_false_eq_true, Bool.true_eq_false, List.length_map, List.length_range, List.length_append, e_rng2, e_trng, e_lenum, e_dget, e_dgets, e_rev, onS_str, a_tup, a_nil, a_cons, pt1, pt2, pt3, pt4]
    · rw [ff] at hv
      cases hf : (sel (sgAt t) (cand n)).filter (fun p => decide (0 < p.2)) with
      | cons q r => rw [hf] at hv; cases hv
      | nil =>
        simp only [onB_some, onD_bl, onI_int, onO_some, r_bind, r_err, r_of, r_noerr, r_out, r_oute, o_er, o_rese, told_ok, told_0, told_1, told_2, told_3, told_4, told_5, told_6, told_7, told_8, told_9, told_10, o_nx, o_rt, o_res, o_resn, o_ofE, t_bl, t_int, tups_t, i_lst, i_tup, i_str, put0, putS, get0, getS, getO0, getOS, wipe_nil, wipe_cons, c_lt, c_gt, c_le, c_ge, c_eqI, c_neI, c_eqS, c_neS, c_eqB, c_neB, b_add, b_sub, x_len1, x_len2, x_tup1, x_tup2, x_lst1, x_abs, x_all, x_any, e_nil, e_cons, e_var, e_non, e_bl, e_int, e_str, e_tup, e_lst, e_bin, e_neg, e_cmp, e_chain, e_isn, e_and, e_or, e_and3, e_or3, e_not, e_ite, ifE_t, ifE_f, ifS_t, ifS_f, thenS_nx, thenS_er, thenS_rt, forS_nil, e_call, e_bi, e_isi, e_meth, e_ix, e_sl, e_rng1, e_enum, e_zip, e_lc, e_lcif, e_told, s_rse, s_nil', s_seq, s_set, s_own', s_par, s_parO, s_par3, s_frz, s_app, s_ret, s_ifs, s_fors, s_whl, s_ex, a_var, startE, List.map_cons, List.map_nil, List.length_cons, List.length_nil, List.cons_append, List.nil_append, List.append_nil, Nat.reduceAdd, Nat.reduceSub, Nat.zero_add, Nat.sub_self, List.replicate_zero, List.replicate_succ, Option.map_some, Option.bind_some, List.set_cons_zero, List.set_cons_succ, decide_true, decide_false, if_true, if_false, Bool.not_true, Bool.not_false, Bool.true_and, Bool.false_and, Bool.and_true, Bool.and_false, Bool.true_or, Bool.false_or, reduceIte, Bool.false_eq_true, eq_self, ne_eq, not_true_eq_false, not_false_eq_true, Bool.true_eq_false, List.length_map, List.length_range, List.length_append, e_rng2, e_trng, e_lenum, e_dget, e_dgets, e_rev, onS_str, a_tup, a_nil, a_cons, pt1, pt2, pt3, pt4, f2, f26, it, hE, hen, lc, al, f102]
        rw [e]
        simp only [onB_some, onD_bl, onI_int, onO_some, r_bind, r_err, r_of, r_noerr, r_out, r_oute, o_er, o_rese, told_ok, told_0, told_1, told_2, told_3, told_4, told_5, told_6, told_7, told_8, told_9, told_10, o_nx, o_rt, o_res, o_resn, o_ofE, t_bl, t_int, tups_t, i_lst, i_tup, i_str, put0, putS, get0, getS, getO0, getOS, wipe_nil, wipe_cons, c_lt, c_gt, c_le, c_ge, c_eqI, c_neI, c_eqS, c_neS, c_eqB, c_neB, b_add, b_sub, x_len1, x_len2, x_tup1, x_tup2, x_lst1, x_abs, x_all, x_any, e_nil, e_cons, e_var, e_non, e_bl, e_int, e_str, e_tup, e_lst, e_bin, e_neg, e_cmp, e_chain, e_isn, e_and, e_or, e_and3, e_or3, e_not, e_ite, ifE_t, ifE_f, ifS_t, ifS_f, thenS_nx, thenS_er, thenS_rt, forS_nil, e_call, e_bi, e_isi, e_meth, e_ix, e_sl, e_rng1, e_enum, e_zip, e_lc, e_lcif, e_told, s_rse, s_nil', s_seq, s_set, s_own', s_par, s_parO, s_par3, s_frz, s_app, s_ret, s_ifs, s_fors, s_whl, s_ex, a_var, startE, List.map_cons, List.map_nil, List.length_cons, List.length_nil, List.cons_append, List.nil_append, List.append_nil, Nat.reduceAdd, Nat.reduceSub, Nat.zero_add, Nat.sub_self, List.replicate_zero, List.replicate_succ, Option.map_some, Option.bind_some, List.set_cons_zero, List.set_cons_succ, decide_true, decide_false, if_true, if_false, Bool.not_true, Bool.not_false, Bool.true_and, Bool.false_and, Bool.and_true, Bool.and_false, Bool.true_or, Bool.false_or, reduceIte, Bool.false_eq_true, eq_self, ne_eq, not_true_eq_false, not_false_eq_true, Bool.true_eq_false, List.length_map, List.length_range, List.length_append, e_rng2, e_trng, e_lenum, e_dget, e_dgets, e_rev, onS_str, a_tup, a_nil, a_cons, pt1, pt2, pt3, pt4]
def dgT (t : List (List Nat)) (n : Nat) : List (List Nat) := (List.range n).map fun i => (t.getD i []).take i ++ [45] ++ (t.getD i []).drop (i + 1)
theorem dgT_tab (T : Tab t n n) (hn : n ≤ 4) : Tab (dgT t n) n n := by
  refine ⟨by simp [dgT], fun r hr => ?_⟩
  obtain ⟨i, hi, rfl⟩ := List.mem_map.mp hr
  have hi' := List.mem_range.mp hi
  obtain ⟨_, hl, _⟩ := tab_at T hi' (show n < 1000 by omega)
  have hm : t.getD i [] ∈ t := by
    have : i < t.length := by rw [T.len]; exact hi'
    rw [show t.getD i [] = t[i] by simp [List.getD, this]]; exact List.getElem_mem this
  generalize t.getD i [] = R at *
  refine ⟨by simp; omega, fun x hx => ?_⟩
  rcases List.mem_append.mp hx with z | z
  · rcases List.mem_append.mp z with z | z
    · exact (T.row _ hm).2 x (List.mem_of_mem_take z)
    · rw [List.mem_singleton.mp z]; exact .inr (.inl rfl)
  · exact (T.row _ hm).2 x (List.mem_of_mem_drop z)
theorem sq_err1 : evCall allDefs 20 103 [.tup [.str [43, 45]]] d = .err 5 d := by
  have T : Tab [[43, 45]] 1 2 := ⟨rfl, fun r hr => by rw [List.mem_singleton.mp hr]; exact ⟨rfl, fun c hc => by simp only [List.mem_cons, List.not_mem_nil, or_false] at hc; rcases hc with rfl | rfl; exact .inl rfl; exact .inr (.inl rfl)⟩⟩
  have f2 : evCall allDefs 19 2 [.tup [.str [43, 45]]] d = .ok .non d := c_need (k := 16) T (by decide) (by decide)
  have f26 : evCall allDefs 19 26 [.tup [.str [43, 45]]] d = .err 5 d := e26 (k := 18) T (by decide) (by decide) (by decide)
  rw [call_eq (k := 19) (df := Fcycles) rfl rfl]
  unfold Fcycles
  simp only [onB_some, onD_bl, onI_int, onO_some, r_bind, r_err, r_of, r_noerr, r_out, r_oute, o_er, o_rese, told_ok, told_0, told_1, told_2, told_3, told_4, told_5, told_6, told_7, told_8, told_9, told_10, o_nx, o_rt, o_res, o_resn, o_ofE, t_bl, t_int, tups_t, i_lst, i_tup, i_str, put0, putS, get0, getS, getO0, getOS, wipe_nil, wipe_cons, c_lt, c_gt, c_le, c_ge, c_eqI, c_neI, c_eqS, c_neS, c_eqB, c_neB, b_add, b_sub, x_len1, x_len2, x_tup1, x_tup2, x_lst1, x_abs, x_all, x_any, e_nil, e_cons, e_var, e_non, e_bl, e_int, e_str, e_tup, e_lst, e_bin, e_neg, e_cmp, e_chain, e_isn, e_and, e_or, e_and3, e_or3, e_not, e_ite, ifE_t, ifE_f, ifS_t, ifS_f, thenS_nx, thenS_er, thenS_rt, forS_nil, e_call, e_bi, e_isi, e_meth, e_ix, e_sl, e_rng1, e_enum, e_zip, e_lc, e_lcif, e_told, s_rse, s_nil', s_seq, s_set, s_own', s_par, s_parO, s_par3, s_frz, s_app, s_ret, s_ifs, s_fors, s_whl, s_ex, a_var, startE, List.map_cons, List.map_nil, List.length_cons, List.length_nil, List.cons_append, List.nil_append, List.append_nil, Nat.reduceAdd, Nat.reduceSub, Nat.zero_add, Nat.sub_self, List.replicate_zero, List.replicate_succ, Option.map_some, Option.bind_some, List.set_cons_zero, List.set_cons_succ, decide_true, decide_false, if_true, if_false, Bool.not_true, Bool.not_false, Bool.true_and, Bool.false_and, Bool.and_true, Bool.and_false, Bool.true_or, Bool.false_or, reduceIte, Bool.false_eq_true, eq_self, ne_eq, not_true_eq_false, not_false_eq_true, Bool.true_eq_false, List.length_map, List.length_range, List.length_append, e_rng2, e_trng, e_lenum, e_dget, e_dgets, e_rev, onS_str, a_tup, a_nil, a_cons, pt1, pt2, pt3, pt4, f2, f26]
theorem sq_err2 : evCall allDefs 20 104 [.tup [.str [45], .str [45]]] d = .err 5 d := by
  have T : Tab [[45], [45]] 2 1 := ⟨rfl, fun r hr => by
    have : r = [45] := by simp only [List.mem_cons, List.not_mem_nil, or_false] at hr; rcases hr with rfl | rfl <;> rfl
    rw [this]; exact ⟨rfl, fun c hc => by rw [List.mem_singleton.mp hc]; exact .inr (.inl rfl)⟩⟩
  have f2 : evCall allDefs 19 2 [.tup [.str [45], .str [45]]] d = .ok .non d := c_need (k := 16) T (by decide) (by decide)
  have f26 : evCall allDefs 19 26 [.tup [.str [45], .str [45]]] d = .err 5 d := e26 (k := 18) T (by decide) (by decide) (by decide)
  rw [call_eq (k := 19) (df := Fpositive_cycle) rfl rfl]
  unfold Fpositive_cycle
  simp only [onB_some, onD_bl, onI_int, onO_some, r_bind, r_err, r_of, r_noerr, r_out, r_oute, o_er, o_rese, told_ok, told_0, told_1, told_2, told_3, told_4, told_5, told_6, told_7, told_8, told_9, told_10, o_nx, o_rt, o_res, o_resn, o_ofE, t_bl, t_int, tups_t, i_lst, i_tup, i_str, put0, putS, get0, getS, getO0, getOS, wipe_nil, wipe_cons, c_lt, c_gt, c_le, c_ge, c_eqI, c_neI, c_eqS, c_neS, c_eqB, c_neB, b_add, b_sub, x_len1, x_len2, x_tup1, x_tup2, x_lst1, x_abs, x_all, x_any, e_nil, e_cons, e_var, e_non, e_bl, e_int, e_str, e_tup, e_lst, e_bin, e_neg, e_cmp, e_chain, e_isn, e_and, e_or, e_and3, e_or3, e_not, e_ite, ifE_t, ifE_f, ifS_t, ifS_f, thenS_nx, thenS_er, thenS_rt, forS_nil, e_call, e_bi, e_isi, e_meth, e_ix, e_sl, e_rng1, e_enum, e_zip, e_lc, e_lcif, e_told, s_rse, s_nil', s_seq, s_set, s_own', s_par, s_parO, s_par3, s_frz, s_app, s_ret, s_ifs, s_fors, s_whl, s_ex, a_var, startE, List.map_cons, List.map_nil, List.length_cons, List.length_nil, List.cons_append, List.nil_append, List.append_nil, Nat.reduceAdd, Nat.reduceSub, Nat.zero_add, Nat.sub_self, List.replicate_zero, List.replicate_succ, Option.map_some, Option.bind_some, List.set_cons_zero, List.set_cons_succ, decide_true, decide_false, if_true, if_false, Bool.not_true, Bool.not_false, Bool.true_and, Bool.false_and, Bool.and_true, Bool.and_false, Bool.true_or, Bool.false_or, reduceIte, Bool.false_eq_true, eq_self, ne_eq, not_true_eq_false, not_false_eq_true, Bool.true_eq_false, List.length_map, List.length_range, List.length_append, e_rng2, e_trng, e_lenum, e_dget, e_dgets, e_rev, onS_str, a_tup, a_nil, a_cons, pt1, pt2, pt3, pt4, f2, f26]
theorem tail6 {e : Env} (hl : e.length = 11) : evS (evCall allDefs 20) Llaw_6 e d = .nx e d := by
  have et5 : opCmp .ne (errD 5) (.tup [.str [101, 114, 114, 111, 114], .str [78, 111, 116, 83, 113, 117, 97, 114, 101]]) = some false := by decide
  unfold Llaw_6 Llaw_7
  simp only [onB_some, onD_bl, onI_int, onO_some, r_bind, r_err, r_of, r_noerr, r_out, r_oute, o_er, o_rese, told_ok, told_0, told_1, told_2, told_3, told_4, told_5, told_6, told_7, told_8, told_9, told_10, o_nx, o_rt, o_res, o_resn, o_ofE, t_bl, t_int, tups_t, i_lst, i_tup, i_str, put0, putS, get0, getS, getO0, getOS, wipe_nil, wipe_cons, c_lt, c_gt, c_le, c_ge, c_eqI, c_neI, c_eqS, c_neS, c_eqB, c_neB, b_add, b_sub, x_len1, x_len2, x_tup1, x_tup2, x_lst1, x_abs, x_all, x_any, e_nil, e_cons, e_var, e_non, e_bl, e_int, e_str, e_tup, e_lst, e_bin, e_neg, e_cmp, e_chain, e_isn, e_and, e_or, e_and3, e_or3, e_not, e_ite, ifE_t, ifE_f, ifS_t, ifS_f, thenS_nx, thenS_er, thenS_rt, forS_nil, e_call, e_bi, e_isi, e_meth, e_ix, e_sl, e_rng1, e_enum, e_zip, e_lc, e_lcif, e_told, s_rse, s_nil', s_seq, s_set, s_own', s_par, s_parO, s_par3, s_frz, s_app, s_ret, s_ifs, s_fors, s_whl, s_ex, a_var, startE, List.map_cons, List.map_nil, List.length_cons, List.length_nil, List.cons_append, List.nil_append, List.append_nil, Nat.reduceAdd, Nat.reduceSub, Nat.zero_add, Nat.sub_self, List.replicate_zero, List.replicate_succ, Option.map_some, Option.bind_some, List.set_cons_zero, List.set_cons_succ, decide_true, decide_false, if_true, if_false, Bool.not_true, Bool.not_false, Bool.true_and, Bool.false_and, Bool.and_true, Bool.and_false, Bool.true_or, Bool.false_or, reduceIte, Bool.false_eq_true, eq_self, ne_eq, not_true_eq_false, not_false_eq_true, Bool.true_eq_false, List.length_map, List.length_range, List.length_append, e_rng2, e_trng, e_lenum, e_dget, e_dgets, e_rev, onS_str, a_tup, a_nil, a_cons, pt1, pt2, pt3, pt4, sq_err1, sq_err2, et5]
theorem nDs_ne {l : List (List Nat × Int)} : opCmp .ne (.lst (l.map fun p => nD p.1)) (.lst []) = some (decide (l ≠ [])) := by
  cases l with
  | nil => rfl
  | cons x r =>
    have h1 : (D.lst ((x :: r).map fun p => nD p.1)).dep ≤ 64 := Nat.le_trans (dep_lst (c := 1) fun y hy => by
      obtain ⟨p, _, rfl⟩ := List.mem_map.mp hy
      exact nD_dep p.1) (by decide)
    have h2 : (D.lst []).dep ≤ 64 := by decide
    simp only [opCmp, h1, h2, decide_true, Bool.and_self, if_true]
    rfl
theorem rest_ok {x3 x4 : Sl} (T : Tab t n n) (hn : 1 ≤ n ∧ n ≤ 4) : ∃ env2 d2, evS (evCall allDefs 20) Llaw_2 [.no, .sh .die, .sh (tabD t), x3, x4, .no, .no, .no, .no, .no, .no] d = .nx env2 d2 ∧ env2.length = 11 := by
  have f105 : evCall allDefs 20 105 [tabD t] d = .ok (.lst ((sel (sgAt t) (cand n)).map fun p => gD p.1 (decide (0 < p.2)))) d := c_cyc105 (k := 18) T hn
  have f103 : evCall allDefs 20 103 [tabD t] d = .ok (.tup ((sel (sgAt t) (cand n)).map wsD)) d := c_cyc103 (k := 13) T hn
  have f104 : evCall allDefs 20 104 [tabD t] d = if dgB t n = true then .ok (posD (sgAt t) n) d else .err 7 d := c_cyc104 (k := 13) T hn
  have f39 : evCall allDefs 20 39 [tabD t] d = .ok (.str (kindS n (sgAt t))) d := c_kind39 (k := 17) hn.2 (tab_tabAt T hn.2)
  have hl := sel_len (sgAt t) (cand n)
  have hc := (cand_ok hn.2).1
  have it : items (tabD t) = some (t.map .str) := rfl
  have tl := T.len
  have hpk : dgB t n = true → ((∀ w ∈ cand n, ¬ 0 < cyP (sgAt t) w) ↔ Alw n (sgAt t)) := fun h => pos_kind hn.2 fun i hi => of_decide_eq_true (List.all_eq_true.mp h i (List.mem_range.mpr hi))
  have hsel : ((sel (sgAt t) (cand n)).filter fun p => decide (0 < p.2)) = [] ↔ ∀ w ∈ cand n, ¬ 0 < cyP (sgAt t) w := by
    rw [List.filter_eq_nil_iff]
    constructor
    · intro h w hw hpos
      exact h (w, cyP (sgAt t) w) (List.mem_map.mpr ⟨w, List.mem_filter.mpr ⟨hw, decide_eq_true (by omega)⟩, rfl⟩) (decide_eq_true hpos)
    · intro h p hp hpos
      obtain ⟨w, hw, rfl⟩ := List.mem_map.mp hp
      exact h w (List.mem_filter.mp hw).1 (of_decide_eq_true hpos)
  obtain ⟨ke1, ke2⟩ := kindA (c := sgAt t) hn.2
  unfold posD at f104
  generalize sel (sgAt t) (cand n) = F at *
  have hlim : F.length ≤ lim := le_lim (by omega)
  have lc2 : ∀ x5 x6 x7 x8, lcS (evCall allDefs 20) Claw_2 (.tup (.cons (.var 6) (.cons (.var 7) (.cons (.var 8) .nil)))) [6, 7, 8] (F.map fun p => gD p.1 (decide (0 < p.2))) [.no, .sh .die, .sh (tabD t), x3, x4, x5, x6, x7, x8, .no, .no] d = .ok (F.map wsD) d := fun x5 x6 x7 x8 => lc_mapG F fun p hp => ⟨_, by simp only [onB_some, onD_bl, onI_int, onO_some, r_bind, r_err, r_of, r_noerr, r_out, r_oute, o_er, o_rese, told_ok, told_0, told_1, told_2, told_3, told_4, told_5, told_6, told_7, told_8, told_9, told_10, o_nx, o_rt, o_res, o_resn, o_ofE, t_bl, t_int, tups_t, i_lst, i_tup, i_str, put0, putS, get0, getS, getO0, getOS, wipe_nil, wipe_cons, c_lt, c_gt, c_le, c_ge, c_eqI, c_neI, c_eqS, c_neS, c_eqB, c_neB, b_add, b_sub, x_len1, x_len2, x_tup1, x_tup2, x_lst1, x_abs, x_all, x_any, e_nil, e_cons, e_var, e_non, e_bl, e_int, e_str, e_tup, e_lst, e_bin, e_neg, e_cmp, e_chain, e_isn, e_and, e_or, e_and3, e_or3, e_not, e_ite, ifE_t, ifE_f, ifS_t, ifS_f, thenS_nx, thenS_er, thenS_rt, forS_nil, e_call, e_bi, e_isi, e_meth, e_ix, e_sl, e_rng1, e_enum, e_zip, e_lc, e_lcif, e_told, s_rse, s_nil', s_seq, s_set, s_own', s_par, s_parO, s_par3, s_frz, s_app, s_ret, s_ifs, s_fors, s_whl, s_ex, a_var, startE, List.map_cons, List.map_nil, List.length_cons, List.length_nil, List.cons_append, List.nil_append, List.append_nil, Nat.reduceAdd, Nat.reduceSub, Nat.zero_add, Nat.sub_self, List.replicate_zero, List.replicate_succ, Option.map_some, Option.bind_some, List.set_cons_zero, List.set_cons_succ, decide_true, decide_false, if_true, if_false, Bool.not_true, Bool.not_false, Bool.true_and, Bool.false_and, Bool.and_true, Bool.and_false, Bool.true_or, Bool.false_or, reduceIte, Bool.false_eq_true, eq_self, ne_eq, not_true_eq_false, not_false_eq_true, Bool.true_eq_false, List.length_map, List.length_range, List.length_append, e_rng2, e_trng, e_lenum, e_dget, e_dgets, e_rev, onS_str, a_tup, a_nil, a_cons, pt1, pt2, pt3, pt4, gD]; rfl, by
    unfold Claw_2
    simp only [onB_some, onD_bl, onI_int, onO_some, r_bind, r_err, r_of, r_noerr, r_out, r_oute, o_er, o_rese, told_ok, told_0, told_1, told_2, told_3, told_4, told_5, told_6, told_7, told_8, told_9, told_10, o_nx, o_rt, o_res, o_resn, o_ofE, t_bl, t_int, tups_t, i_lst, i_tup, i_str, put0, putS, get0, getS, getO0, getOS, wipe_nil, wipe_cons, c_lt, c_gt, c_le, c_ge, c_eqI, c_neI, c_eqS, c_neS, c_eqB, c_neB, b_add, b_sub, x_len1, x_len2, x_tup1, x_tup2, x_lst1, x_abs, x_all, x_any, e_nil, e_cons, e_var, e_non, e_bl, e_int, e_str, e_tup, e_lst, e_bin, e_neg, e_cmp, e_chain, e_isn, e_and, e_or, e_and3, e_or3, e_not, e_ite, ifE_t, ifE_f, ifS_t, ifS_f, thenS_nx, thenS_er, thenS_rt, forS_nil, e_call, e_bi, e_isi, e_meth, e_ix, e_sl, e_rng1, e_enum, e_zip, e_lc, e_lcif, e_told, s_rse, s_nil', s_seq, s_set, s_own', s_par, s_parO, s_par3, s_frz, s_app, s_ret, s_ifs, s_fors, s_whl, s_ex, a_var, startE, List.map_cons, List.map_nil, List.length_cons, List.length_nil, List.cons_append, List.nil_append, List.append_nil, Nat.reduceAdd, Nat.reduceSub, Nat.zero_add, Nat.sub_self, List.replicate_zero, List.replicate_succ, Option.map_some, Option.bind_some, List.set_cons_zero, List.set_cons_succ, decide_true, decide_false, if_true, if_false, Bool.not_true, Bool.not_false, Bool.true_and, Bool.false_and, Bool.and_true, Bool.and_false, Bool.true_or, Bool.false_or, reduceIte, Bool.false_eq_true, eq_self, ne_eq, not_true_eq_false, not_false_eq_true, Bool.true_eq_false, List.length_map, List.length_range, List.length_append, e_rng2, e_trng, e_lenum, e_dget, e_dgets, e_rev, onS_str, a_tup, a_nil, a_cons, pt1, pt2, pt3, pt4, wsD]⟩
  have nes := ne_same (wsD_dep F)
  have lc3 : ∀ x3 x4 x5 x9, lcS (evCall allDefs 20) Claw_3 (.tup (.cons (.var 3) (.cons (.var 4) .nil))) [3, 4] (enumL 0 (t.map .str)) [.no, .sh .die, .sh (tabD t), x3, x4, x5, .no, .no, .no, x9, .no] d = .ok ((List.range n).map fun a => .bl (decide (sgAt t a a = 45))) d := fun x3 x4 x5 x9 => lc_diag T hn.2 fun a ha => ⟨_, rfl, by
    obtain ⟨_, _, e2⟩ := tab_at T ha (show n < 1000 by omega)
    unfold Claw_3
    generalize t.getD a [] = R at *
    simp only [onB_some, onD_bl, onI_int, onO_some, r_bind, r_err, r_of, r_noerr, r_out, r_oute, o_er, o_rese, told_ok, told_0, told_1, told_2, told_3, told_4, told_5, told_6, told_7, told_8, told_9, told_10, o_nx, o_rt, o_res, o_resn, o_ofE, t_bl, t_int, tups_t, i_lst, i_tup, i_str, put0, putS, get0, getS, getO0, getOS, wipe_nil, wipe_cons, c_lt, c_gt, c_le, c_ge, c_eqI, c_neI, c_eqS, c_neS, c_eqB, c_neB, b_add, b_sub, x_len1, x_len2, x_tup1, x_tup2, x_lst1, x_abs, x_all, x_any, e_nil, e_cons, e_var, e_non, e_bl, e_int, e_str, e_tup, e_lst, e_bin, e_neg, e_cmp, e_chain, e_isn, e_and, e_or, e_and3, e_or3, e_not, e_ite, ifE_t, ifE_f, ifS_t, ifS_f, thenS_nx, thenS_er, thenS_rt, forS_nil, e_call, e_bi, e_isi, e_meth, e_ix, e_sl, e_rng1, e_enum, e_zip, e_lc, e_lcif, e_told, s_rse, s_nil', s_seq, s_set, s_own', s_par, s_parO, s_par3, s_frz, s_app, s_ret, s_ifs, s_fors, s_whl, s_ex, a_var, startE, List.map_cons, List.map_nil, List.length_cons, List.length_nil, List.cons_append, List.nil_append, List.append_nil, Nat.reduceAdd, Nat.reduceSub, Nat.zero_add, Nat.sub_self, List.replicate_zero, List.replicate_succ, Option.map_some, Option.bind_some, List.set_cons_zero, List.set_cons_succ, decide_true, decide_false, if_true, if_false, Bool.not_true, Bool.not_false, Bool.true_and, Bool.false_and, Bool.and_true, Bool.and_false, Bool.true_or, Bool.false_or, reduceIte, Bool.false_eq_true, eq_self, ne_eq, not_true_eq_false, not_false_eq_true, Bool.true_eq_false, List.length_map, List.length_range, List.length_append, e_rng2, e_trng, e_lenum, e_dget, e_dgets, e_rev, onS_str, a_tup, a_nil, a_cons, pt1, pt2, pt3, pt4, (e2 a ha).1, eq_45]⟩
  have hen : (enumL 0 (t.map D.str)).length ≤ lim := by
    rw [enum_range D.str [] t, List.length_map, List.length_range, tl]
    exact le_lim (by omega)
  have al : ((List.range n).all fun a => decide (sgAt t a a = 45)) = dgB t n := rfl
  have lc4 : ∀ x3 x4 x5 x7 x8 x9 x10, lcfS (evCall allDefs 20) Claw_4 (.tup (.cons (.var 7) (.cons (.var 8) .nil))) Tlaw_1 [7, 8] (F.map wsD) [.no, .sh .die, .sh (tabD t), x3, x4, x5, .no, x7, x8, x9, x10] d = .ok ((F.filter fun p => decide (0 < p.2)).map fun p => nD p.1) d := fun x3 x4 x5 x7 x8 x9 x10 => lcf_mapG (p := fun p : List Nat × Int => decide (0 < p.2)) (g := fun p => nD p.1) F fun p hp => ⟨[.no, .sh .die, .sh (tabD t), x3, x4, x5, .no, .sh (nD p.1), .sh (.str [sgOf (decide (0 < p.2))]), x9, x10], rfl, by
    unfold Tlaw_1
    by_cases h0 : 0 < p.2
    · have e : opCmp .eq (.str [43]) (.str [43]) = some true := rfl
      simp only [onB_some, onD_bl, onI_int, onO_some, r_bind, r_err, r_of, r_noerr, r_out, r_oute, o_er, o_rese, told_ok, told_0, told_1, told_2, told_3, told_4, told_5, told_6, told_7, told_8, told_9, told_10, o_nx, o_rt, o_res, o_resn, o_ofE, t_bl, t_int, tups_t, i_lst, i_tup, i_str, put0, putS, get0, getS, getO0, getOS, wipe_nil, wipe_cons, c_lt, c_gt, c_le, c_ge, c_eqI, c_neI, c_eqS, c_neS, c_eqB, c_neB, b_add, b_sub, x_len1, x_len2, x_tup1, x_tup2, x_lst1, x_abs, x_all, x_any, e_nil, e_cons, e_var, e_non, e_bl, e_int, e_str, e_tup, e_lst, e_bin, e_neg, e_cmp, e_chain, e_isn, e_and, e_or, e_and3, e_or3, e_not, e_ite, ifE_t, ifE_f, ifS_t, ifS_f, thenS_nx, thenS_er, thenS_rt, forS_nil, e_call, e_bi, e_isi, e_meth, e_ix, e_sl, e_rng1, e_enum, e_zip, e_lc, e_lcif, e_told, s_rse, s_nil', s_seq, s_set, s_own', s_par, s_parO, s_par3, s_frz, s_app, s_ret, s_ifs, s_fors, s_whl, s_ex, a_var, startE, List.map_cons, List.map_nil, List.length_cons, List.length_nil, List.cons_append, List.nil_append, List.append_nil, Nat.reduceAdd, Nat.reduceSub, Nat.zero_add, Nat.sub_self, List.replicate_zero, List.replicate_succ, Option.map_some, Option.bind_some, List.set_cons_zero, List.set_cons_succ, decide_true, decide_false, if_true, if_false, Bool.not_true, Bool.not_false, Bool.true_and, Bool.false_and, Bool.and_true, Bool.and_false, Bool.true_or, Bool.false_or, reduceIte, Bool.false_eq_true, eq_self, ne_eq, not_true_eq_false, not_false_eq_true, Bool.true_eq_false, List.length_map, List.length_range, List.length_append, e_rng2, e_trng, e_lenum, e_dget, e_dgets, e_rev, onS_str, a_tup, a_nil, a_cons, pt1, pt2, pt3, pt4, h0, sgOf, e]
    · have e : opCmp .eq (.str [45]) (.str [43]) = some false := rfl
      simp only [onB_some, onD_bl, onI_int, onO_some, r_bind, r_err, r_of, r_noerr, r_out, r_oute, o_er, o_rese, told_ok, told_0, told_1, told_2, told_3, told_4, told_5, told_6, told_7, told_8, told_9, told_10, o_nx, o_rt, o_res, o_resn, o_ofE, t_bl, t_int, tups_t, i_lst, i_tup, i_str, put0, putS, get0, getS, getO0, getOS, wipe_nil, wipe_cons, c_lt, c_gt, c_le, c_ge, c_eqI, c_neI, c_eqS, c_neS, c_eqB, c_neB, b_add, b_sub, x_len1, x_len2, x_tup1, x_tup2, x_lst1, x_abs, x_all, x_any, e_nil, e_cons, e_var, e_non, e_bl, e_int, e_str, e_tup, e_lst, e_bin, e_neg, e_cmp, e_chain, e_isn, e_and, e_or, e_and3, e_or3, e_not, e_ite, ifE_t, ifE_f, ifS_t, ifS_f, thenS_nx, thenS_er, thenS_rt, forS_nil, e_call, e_bi, e_isi, e_meth, e_ix, e_sl, e_rng1, e_enum, e_zip, e_lc, e_lcif, e_told, s_rse, s_nil', s_seq, s_set, s_own', s_par, s_parO, s_par3, s_frz, s_app, s_ret, s_ifs, s_fors, s_whl, s_ex, a_var, startE, List.map_cons, List.map_nil, List.length_cons, List.length_nil, List.cons_append, List.nil_append, List.append_nil, Nat.reduceAdd, Nat.reduceSub, Nat.zero_add, Nat.sub_self, List.replicate_zero, List.replicate_succ, Option.map_some, Option.bind_some, List.set_cons_zero, List.set_cons_succ, decide_true, decide_false, if_true, if_false, Bool.not_true, Bool.not_false, Bool.true_and, Bool.false_and, Bool.and_true, Bool.and_false, Bool.true_or, Bool.false_or, reduceIte, Bool.false_eq_true, eq_self, ne_eq, not_true_eq_false, not_false_eq_true, Bool.true_eq_false, List.length_map, List.length_range, List.length_append, e_rng2, e_trng, e_lenum, e_dget, e_dgets, e_rev, onS_str, a_tup, a_nil, a_cons, pt1, pt2, pt3, pt4, h0, sgOf, e], fun _ => by unfold Claw_4; simp only [onB_some, onD_bl, onI_int, onO_some, r_bind, r_err, r_of, r_noerr, r_out, r_oute, o_er, o_rese, told_ok, told_0, told_1, told_2, told_3, told_4, told_5, told_6, told_7, told_8, told_9, told_10, o_nx, o_rt, o_res, o_resn, o_ofE, t_bl, t_int, tups_t, i_lst, i_tup, i_str, put0, putS, get0, getS, getO0, getOS, wipe_nil, wipe_cons, c_lt, c_gt, c_le, c_ge, c_eqI, c_neI, c_eqS, c_neS, c_eqB, c_neB, b_add, b_sub, x_len1, x_len2, x_tup1, x_tup2, x_lst1, x_abs, x_all, x_any, e_nil, e_cons, e_var, e_non, e_bl, e_int, e_str, e_tup, e_lst, e_bin, e_neg, e_cmp, e_chain, e_isn, e_and, e_or, e_and3, e_or3, e_not, e_ite, ifE_t, ifE_f, ifS_t, ifS_f, thenS_nx, thenS_er, thenS_rt, forS_nil, e_call, e_bi, e_isi, e_meth, e_ix, e_sl, e_rng1, e_enum, e_zip, e_lc, e_lcif, e_told, s_rse, s_nil', s_seq, s_set, s_own', s_par, s_parO, s_par3, s_frz, s_app, s_ret, s_ifs, s_fors, s_whl, s_ex, a_var, startE, List.map_cons, List.map_nil, List.length_cons, List.length_nil, List.cons_append, List.nil_append, List.append_nil, Nat.reduceAdd, Nat.reduceSub, Nat.zero_add, Nat.sub_self, List.replicate_zero, List.replicate_succ, Option.map_some, Option.bind_some, List.set_cons_zero, List.set_cons_succ, decide_true, decide_false, if_true, if_false, Bool.not_true, Bool.not_false, Bool.true_and, Bool.false_and, Bool.and_true, Bool.and_false, Bool.true_or, Bool.false_or, reduceIte, Bool.false_eq_true, eq_self, ne_eq, not_true_eq_false, not_false_eq_true, Bool.true_eq_false, List.length_map, List.length_range, List.length_append, e_rng2, e_trng, e_lenum, e_dget, e_dgets, e_rev, onS_str, a_tup, a_nil, a_cons, pt1, pt2, pt3, pt4]⟩
  generalize hE : enumL 0 (t.map D.str) = EN at *
  unfold Llaw_2 Llaw_3 Llaw_4 Llaw_5
  cases hd : dgB t n with
  | false =>
    rw [hd] at al f104
    rw [if_neg (by decide)] at f104
    have et7 : opCmp .ne (errD 7) (.tup [.str [101, 114, 114, 111, 114], .str [78, 111, 116, 78, 101, 103, 97, 116, 105, 118, 101]]) = some false := by decide
    simp only [onB_some, onD_bl, onI_int, onO_some, r_bind, r_err, r_of, r_noerr, r_out, r_oute, o_er, o_rese, told_ok, told_0, told_1, told_2, told_3, told_4, told_5, told_6, told_7, told_8, told_9, told_10, o_nx, o_rt, o_res, o_resn, o_ofE, t_bl, t_int, tups_t, i_lst, i_tup, i_str, put0, putS, get0, getS, getO0, getOS, wipe_nil, wipe_cons, c_lt, c_gt, c_le, c_ge, c_eqI, c_neI, c_eqS, c_neS, c_eqB, c_neB, b_add, b_sub, x_len1, x_len2, x_tup1, x_tup2, x_lst1, x_abs, x_all, x_any, e_nil, e_cons, e_var, e_non, e_bl, e_int, e_str, e_tup, e_lst, e_bin, e_neg, e_cmp, e_chain, e_isn, e_and, e_or, e_and3, e_or3, e_not, e_ite, ifE_t, ifE_f, ifS_t, ifS_f, thenS_nx, thenS_er, thenS_rt, forS_nil, e_call, e_bi, e_isi, e_meth, e_ix, e_sl, e_rng1, e_enum, e_zip, e_lc, e_lcif, e_told, s_rse, s_nil', s_seq, s_set, s_own', s_par, s_parO, s_par3, s_frz, s_app, s_ret, s_ifs, s_fors, s_whl, s_ex, a_var, startE, List.map_cons, List.map_nil, List.length_cons, List.length_nil, List.cons_append, List.nil_append, List.append_nil, Nat.reduceAdd, Nat.reduceSub, Nat.zero_add, Nat.sub_self, List.replicate_zero, List.replicate_succ, Option.map_some, Option.bind_some, List.set_cons_zero, List.set_cons_succ, decide_true, decide_false, if_true, if_false, Bool.not_true, Bool.not_false, Bool.true_and, Bool.false_and, Bool.and_true, Bool.and_false, Bool.true_or, Bool.false_or, reduceIte, Bool.false_eq_true, eq_self, ne_eq, not_true_eq_false, not_false_eq_true, Bool.true_eq_false, List.length_map, List.length_range, List.length_append, e_rng2, e_trng, e_lenum, e_dget, e_dgets, e_rev, onS_str, a_tup, a_nil, a_cons, pt1, pt2, pt3, pt4, f105, hlim, lc2, f103, nes, f104, it, hE, hen, lc3, al, et7]
    exact ⟨_, _, tail6 rfl, rfl⟩
  | true =>
    rw [hd] at al f104
    rw [if_pos rfl] at f104
    have pk := hsel.trans (hpk hd)
    cases hf : F.filter (fun p => decide (0 < p.2)) with
    | nil =>
      rw [hf] at f104 lc4
      simp only at f104
      have ke := ke1 (pk.mp hf)
      have n0 : opCmp .ne (.lst []) (.lst []) = some false := rfl
      have nn : opCmp .ne .non .non = some false := rfl
      simp only [List.map_nil] at lc4
      generalize kindS n (sgAt t) = K at *
      simp only [onB_some, onD_bl, onI_int, onO_some, r_bind, r_err, r_of, r_noerr, r_out, r_oute, o_er, o_rese, told_ok, told_0, told_1, told_2, told_3, told_4, told_5, told_6, told_7, told_8, told_9, told_10, o_nx, o_rt, o_res, o_resn, o_ofE, t_bl, t_int, tups_t, i_lst, i_tup, i_str, put0, putS, get0, getS, getO0, getOS, wipe_nil, wipe_cons, c_lt, c_gt, c_le, c_ge, c_eqI, c_neI, c_eqS, c_neS, c_eqB, c_neB, b_add, b_sub, x_len1, x_len2, x_tup1, x_tup2, x_lst1, x_abs, x_all, x_any, e_nil, e_cons, e_var, e_non, e_bl, e_int, e_str, e_tup, e_lst, e_bin, e_neg, e_cmp, e_chain, e_isn, e_and, e_or, e_and3, e_or3, e_not, e_ite, ifE_t, ifE_f, ifS_t, ifS_f, thenS_nx, thenS_er, thenS_rt, forS_nil, e_call, e_bi, e_isi, e_meth, e_ix, e_sl, e_rng1, e_enum, e_zip, e_lc, e_lcif, e_told, s_rse, s_nil', s_seq, s_set, s_own', s_par, s_parO, s_par3, s_frz, s_app, s_ret, s_ifs, s_fors, s_whl, s_ex, a_var, startE, List.map_cons, List.map_nil, List.length_cons, List.length_nil, List.cons_append, List.nil_append, List.append_nil, Nat.reduceAdd, Nat.reduceSub, Nat.zero_add, Nat.sub_self, List.replicate_zero, List.replicate_succ, Option.map_some, Option.bind_some, List.set_cons_zero, List.set_cons_succ, decide_true, decide_false, if_true, if_false, Bool.not_true, Bool.not_false, Bool.true_and, Bool.false_and, Bool.and_true, Bool.and_false, Bool.true_or, Bool.false_or, reduceIte, Bool.false_eq_true, eq_self, ne_eq, not_true_eq_false, not_false_eq_true, Bool.true_eq_false, List.length_map, List.length_range, List.length_append, e_rng2, e_trng, e_lenum, e_dget, e_dgets, e_rev, onS_str, a_tup, a_nil, a_cons, pt1, pt2, pt3, pt4, f105, hlim, lc2, f103, nes, f104, it, hE, hen, lc3, al, lc4, n0, nn, f39, ke]
      exact ⟨_, _, tail6 rfl, rfl⟩
    | cons q r =>
      rw [hf] at f104 lc4
      simp only at f104
      have ke := ke2 fun z => by have := pk.mpr z; rw [hf] at this; cases this
      have n0 := nDs_ne (l := q :: r)
      rw [decide_eq_true (by simp)] at n0
      have i0 : opIx (.lst ((q :: r).map fun p => nD p.1)) (.int 0) = some (nD q.1) := ixL (e := fun p : List Nat × Int => nD p.1) (l := q :: r) (j := 0) rfl
      have nq := ne_same (Nat.le_trans (nD_dep q.1) (show 1 ≤ 64 by decide))
      obtain ⟨xs, hxs⟩ : ∃ xs, nD q.1 = .tup xs := ⟨_, rfl⟩
      generalize (q :: r).map (fun p => nD p.1) = QL at *
      generalize kindS n (sgAt t) = K at *
      rw [hxs] at f104 i0 nq
      simp only [onB_some, onD_bl, onI_int, onO_some, r_bind, r_err, r_of, r_noerr, r_out, r_oute, o_er, o_rese, told_ok, told_0, told_1, told_2, told_3, told_4, told_5, told_6, told_7, told_8, told_9, told_10, o_nx, o_rt, o_res, o_resn, o_ofE, t_bl, t_int, tups_t, i_lst, i_tup, i_str, put0, putS, get0, getS, getO0, getOS, wipe_nil, wipe_cons, c_lt, c_gt, c_le, c_ge, c_eqI, c_neI, c_eqS, c_neS, c_eqB, c_neB, b_add, b_sub, x_len1, x_len2, x_tup1, x_tup2, x_lst1, x_abs, x_all, x_any, e_nil, e_cons, e_var, e_non, e_bl, e_int, e_str, e_tup, e_lst, e_bin, e_neg, e_cmp, e_chain, e_isn, e_and, e_or, e_and3, e_or3, e_not, e_ite, ifE_t, ifE_f, ifS_t, ifS_f, thenS_nx, thenS_er, thenS_rt, forS_nil, e_call, e_bi, e_isi, e_meth, e_ix, e_sl, e_rng1, e_enum, e_zip, e_lc, e_lcif, e_told, s_rse, s_nil', s_seq, s_set, s_own', s_par, s_parO, s_par3, s_frz, s_app, s_ret, s_ifs, s_fors, s_whl, s_ex, a_var, startE, List.map_cons, List.map_nil, List.length_cons, List.length_nil, List.cons_append, List.nil_append, List.append_nil, Nat.reduceAdd, Nat.reduceSub, Nat.zero_add, Nat.sub_self, List.replicate_zero, List.replicate_succ, Option.map_some, Option.bind_some, List.set_cons_zero, List.set_cons_succ, decide_true, decide_false, if_true, if_false, Bool.not_true, Bool.not_false, Bool.true_and, Bool.false_and, Bool.and_true, Bool.and_false, Bool.true_or, Bool.false_or, reduceIte, Bool.false_eq_true, eq_self, ne_eq, not_true_eq_false, not_false_eq_true, Bool.true_eq_false, List.length_map, List.length_range, List.length_append, e_rng2, e_trng, e_lenum, e_dget, e_dgets, e_rev, onS_str, a_tup, a_nil, a_cons, pt1, pt2, pt3, pt4, f105, hlim, lc2, f103, nes, f104, it, hE, hen, lc3, al, lc4, n0, i0, nq, f39, ke]
      exact ⟨_, _, tail6 rfl, rfl⟩
end
theorem lawS_ok : ∀ d : Dice, ∃ env2 d2, evS (evCall allDefs 20) lawS (env0 lawNs.length) d = .nx env2 d2 ∧ env2.length = lawNs.length := by
  intro d
  show ∃ env2 d2, evS (evCall allDefs 20) lawS [.no, .sh .die, .no, .no, .no, .no, .no, .no, .no, .no, .no] d = .nx env2 d2 ∧ env2.length = 11
  obtain ⟨t, n, d1, T, hn, e36⟩ := c_square (k := 16) (m := 4) (d := d) ⟨by decide, by decide⟩
  have e36' : evCall allDefs 20 36 [.die, .int 4] d = .ok (tabD t) d1 := e36
  have hn4 : 1 ≤ n ∧ n ≤ 4 := hn
  have f8 : evCall allDefs 20 8 [.die, .int 3] d1 = .ok (.int (roll d1 3).1) (roll d1 3).2 := c_roll (k := 18) (by decide) (by decide)
  generalize (roll d1 3).2 = d2 at *
  unfold lawS Llaw_1
  by_cases h0 : 0 < (roll d1 3).1
  · have it : items (tabD t) = some (t.map .str) := rfl
    have tl := T.len
    have lc : ∀ x3 x4, lcS (evCall allDefs 20) Claw_1 (.tup (.cons (.var 3) (.cons (.var 4) .nil))) [3, 4] (enumL 0 (t.map .str)) [.no, .sh .die, .sh (tabD t), x3, x4, .no, .no, .no, .no, .no, .no] d2 = .ok ((List.range n).map fun a => .str ((t.getD a []).take a ++ [45] ++ (t.getD a []).drop (a + 1))) d2 := fun x3 x4 => by
      rw [enum_range D.str [] t, T.len]
      exact lc_mapG (List.range n) fun a ha => ⟨_, rfl, by
        have ha' := List.mem_range.mp ha
        obtain ⟨_, hl, _⟩ := tab_at T ha' (show n < 1000 by omega)
        generalize t.getD a [] = R at *
        have s1 : opSl (.str R) none (some ((a : Nat) : Int)) = some (.str (R.take a)) := sl_strlo (by omega) (by omega)
        have s2 : opSl (.str R) (some ((a : Int) + 1)) none = some (.str (R.drop (a + 1))) := sl_strhi (by omega) (by omega)
        have a1 : opBin .add (.str (R.take a)) (.str [45]) = some (.str (R.take a ++ [45])) := add_strs (by simp; omega)
        have a2 : opBin .add (.str (R.take a ++ [45])) (.str (R.drop (a + 1))) = some (.str (R.take a ++ [45] ++ R.drop (a + 1))) := add_strs (by simp; omega)
        unfold Claw_1
        simp only [onB_some, onD_bl, onI_int, onO_some, r_bind, r_err, r_of, r_noerr, r_out, r_oute, o_er, o_rese, told_ok, told_0, told_1, told_2, told_3, told_4, told_5, told_6, told_7, told_8, told_9, told_10, o_nx, o_rt, o_res, o_resn, o_ofE, t_bl, t_int, tups_t, i_lst, i_tup, i_str, put0, putS, get0, getS, getO0, getOS, wipe_nil, wipe_cons, c_lt, c_gt, c_le, c_ge, c_eqI, c_neI, c_eqS, c_neS, c_eqB, c_neB, b_add, b_sub, x_len1, x_len2, x_tup1, x_tup2, x_lst1, x_abs, x_all, x_any, e_nil, e_cons, e_var, e_non, e_bl, e_int, e_str, e_tup, e_lst, e_bin, e_neg, e_cmp, e_chain, e_isn, e_and, e_or, e_and3, e_or3, e_not, e_ite, ifE_t, ifE_f, ifS_t, ifS_f, thenS_nx, thenS_er, thenS_rt, forS_nil, e_call, e_bi, e_isi, e_meth, e_ix, e_sl, e_rng1, e_enum, e_zip, e_lc, e_lcif, e_told, s_rse, s_nil', s_seq, s_set, s_own', s_par, s_parO, s_par3, s_frz, s_app, s_ret, s_ifs, s_fors, s_whl, s_ex, a_var, startE, List.map_cons, List.map_nil, List.length_cons, List.length_nil, List.cons_append, List.nil_append, List.append_nil, Nat.reduceAdd, Nat.reduceSub, Nat.zero_add, Nat.sub_self, List.replicate_zero, List.replicate_succ, Option.map_some, Option.bind_some, List.set_cons_zero, List.set_cons_succ, decide_true, decide_false, if_true, if_false, Bool.not_true, Bool.not_false, Bool.true_and, Bool.false_and, Bool.and_true, Bool.and_false, Bool.true_or, Bool.false_or, reduceIte, Bool.false_eq_true, eq_self, ne_eq, not_true_eq_false, not_false_eq_true, Bool.true_eq_false, List.length_map, List.length_range, List.length_append, e_rng2, e_trng, e_lenum, e_dget, e_dgets, e_rev, onS_str, a_tup, a_nil, a_cons, pt1, pt2, pt3, pt4, s1, s2, a1, a2]⟩
    have hen : (enumL 0 (t.map D.str)).length ≤ lim := by
      rw [enum_range D.str [] t, List.length_map, List.length_range, tl]
      exact le_lim (by omega)
    have eT : D.tup ((List.range n).map fun a => .str ((t.getD a []).take a ++ [45] ++ (t.getD a []).drop (a + 1))) = tabD (dgT t n) := by unfold tabD dgT; rw [List.map_map]; rfl
    have rest := fun x3 x4 => rest_ok (d := d2) (x3 := x3) (x4 := x4) (dgT_tab T hn.2) hn4
    generalize hE : enumL 0 (t.map D.str) = EN at *
    generalize (List.range n).map (fun a => D.str ((t.getD a []).take a ++ [45] ++ (t.getD a []).drop (a + 1))) = RR at *
    simp only [onB_some, onD_bl, onI_int, onO_some, r_bind, r_err, r_of, r_noerr, r_out, r_oute, o_er, o_rese, told_ok, told_0, told_1, told_2, told_3, told_4, told_5, told_6, told_7, told_8, told_9, told_10, o_nx, o_rt, o_res, o_resn, o_ofE, t_bl, t_int, tups_t, i_lst, i_tup, i_str, put0, putS, get0, getS, getO0, getOS, wipe_nil, wipe_cons, c_lt, c_gt, c_le, c_ge, c_eqI, c_neI, c_eqS, c_neS, c_eqB, c_neB, b_add, b_sub, x_len1, x_len2, x_tup1, x_tup2, x_lst1, x_abs, x_all, x_any, e_nil, e_cons, e_var, e_non, e_bl, e_int, e_str, e_tup, e_lst, e_bin, e_neg, e_cmp, e_chain, e_isn, e_and, e_or, e_and3, e_or3, e_not, e_ite, ifE_t, ifE_f, ifS_t, ifS_f, thenS_nx, thenS_er, thenS_rt, forS_nil, e_call, e_bi, e_isi, e_meth, e_ix, e_sl, e_rng1, e_enum, e_zip, e_lc, e_lcif, e_told, s_rse, s_nil', s_seq, s_set, s_own', s_par, s_parO, s_par3, s_frz, s_app, s_ret, s_ifs, s_fors, s_whl, s_ex, a_var, startE, List.map_cons, List.map_nil, List.length_cons, List.length_nil, List.cons_append, List.nil_append, List.append_nil, Nat.reduceAdd, Nat.reduceSub, Nat.zero_add, Nat.sub_self, List.replicate_zero, List.replicate_succ, Option.map_some, Option.bind_some, List.set_cons_zero, List.set_cons_succ, decide_true, decide_false, if_true, if_false, Bool.not_true, Bool.not_false, Bool.true_and, Bool.false_and, Bool.and_true, Bool.and_false, Bool.true_or, Bool.false_or, reduceIte, Bool.false_eq_true, eq_self, ne_eq, not_true_eq_false, not_false_eq_true, Bool.true_eq_false, List.length_map, List.length_range, List.length_append, e_rng2, e_trng, e_lenum, e_dget, e_dgets, e_rev, onS_str, a_tup, a_nil, a_cons, pt1, pt2, pt3, pt4, e36', f8, h0, it, hE, hen, lc, eT]
    exact rest _ _
  · simp only [onB_some, onD_bl, onI_int, onO_some, r_bind, r_err, r_of, r_noerr, r_out, r_oute, o_er, o_rese, told_ok, told_0, told_1, told_2, told_3, told_4, told_5, told_6, told_7, told_8, told_9, told_10, o_nx, o_rt, o_res, o_resn, o_ofE, t_bl, t_int, tups_t, i_lst, i_tup, i_str, put0, putS, get0, getS, getO0, getOS, wipe_nil, wipe_cons, c_lt, c_gt, c_le, c_ge, c_eqI, c_neI, c_eqS, c_neS, c_eqB, c_neB, b_add, b_sub, x_len1, x_len2, x_tup1, x_tup2, x_lst1, x_abs, x_all, x_any, e_nil, e_cons, e_var, e_non, e_bl, e_int, e_str, e_tup, e_lst, e_bin, e_neg, e_cmp, e_chain, e_isn, e_and, e_or, e_and3, e_or3, e_not, e_ite, ifE_t, ifE_f, ifS_t, ifS_f, thenS_nx, thenS_er, thenS_rt, forS_nil, e_call, e_bi, e_isi, e_meth, e_ix, e_sl, e_rng1, e_enum, e_zip, e_lc, e_lcif, e_told, s_rse, s_nil', s_seq, s_set, s_own', s_par, s_parO, s_par3, s_frz, s_app, s_ret, s_ifs, s_fors, s_whl, s_ex, a_var, startE, List.map_cons, List.map_nil, List.length_cons, List.length_nil, List.cons_append, List.nil_append, List.append_nil, Nat.reduceAdd, Nat.reduceSub, Nat.zero_add, Nat.sub_self, List.replicate_zero, List.replicate_succ, Option.map_some, Option.bind_some, List.set_cons_zero, List.set_cons_succ, decide_true, decide_false, if_true, if_false, Bool.not_true, Bool.not_false, Bool.true_and, Bool.false_and, Bool.and_true, Bool.and_false, Bool.true_or, Bool.false_or, reduceIte, Bool.false_eq_true, eq_self, ne_eq, not_true_eq_false, not_false_eq_true, Bool.true_eq_false, List.length_map, List.length_range, List.length_append, e_rng2, e_trng, e_lenum, e_dget, e_dgets, e_rev, onS_str, a_tup, a_nil, a_cons, pt1, pt2, pt3, pt4, e36', f8, h0]
    exact rest_ok T hn4
end SG
namespace SG
open PySem PySem.Spec PyProof.Rows L2
theorem b0 : BindOk t0.nm t0.st (t0.N.take t0.df.ps) := fun _ _ _ _ _ _ us hl => match us, hl with | [_, _], _ => rfl
theorem b1 : BindOk t1.nm t1.st (t1.N.take t1.df.ps) := fun _ _ _ _ _ _ us hl => match us, hl with | [_], _ => rfl
theorem b2 : BindOk t2.nm t2.st (t2.N.take t2.df.ps) := fun _ _ _ _ _ _ us hl => match us, hl with | [_], _ => rfl
theorem b7 : BindOk t7.nm t7.st (t7.N.take t7.df.ps) := fun _ _ _ _ _ _ us hl => match us, hl with | [_, _], _ => rfl
theorem b8 : BindOk t8.nm t8.st (t8.N.take t8.df.ps) := fun _ _ _ _ _ _ us hl => match us, hl with | [_, _], _ => rfl
theorem b11 : BindOk t11.nm t11.st (t11.N.take t11.df.ps) := fun _ _ _ _ _ _ us hl => match us, hl with | [_, _, _], _ => rfl
theorem b19 : BindOk t19.nm t19.st (t19.N.take t19.df.ps) := fun _ _ _ _ _ _ us hl => match us, hl with | [_], _ => rfl
theorem b26 : BindOk t26.nm t26.st (t26.N.take t26.df.ps) := fun _ _ _ _ _ _ us hl => match us, hl with | [_], _ => rfl
theorem b27 : BindOk t27.nm t27.st (t27.N.take t27.df.ps) := fun _ _ _ _ _ _ us hl => match us, hl with | [_], _ => rfl
theorem b28 : BindOk t28.nm t28.st (t28.N.take t28.df.ps) := fun _ _ _ _ _ _ us hl => match us, hl with | [_], _ => rfl
theorem b36 : BindOk t36.nm t36.st (t36.N.take t36.df.ps) := fun _ _ _ _ _ _ us hl => match us, hl with | [_, _], _ => rfl
theorem b37 : BindOk t37.nm t37.st (t37.N.take t37.df.ps) := fun _ _ _ _ _ _ us hl => match us, hl with | [_], _ => rfl
theorem b38 : BindOk t38.nm t38.st (t38.N.take t38.df.ps) := fun _ _ _ _ _ _ us hl => match us, hl with | [_], _ => rfl
theorem b39 : BindOk t39.nm t39.st (t39.N.take t39.df.ps) := fun _ _ _ _ _ _ us hl => match us, hl with | [_], _ => rfl
theorem b102 : BindOk t102.nm t102.st (t102.N.take t102.df.ps) := fun _ _ _ _ _ _ us hl => match us, hl with | [_], _ => rfl
theorem b103 : BindOk t103.nm t103.st (t103.N.take t103.df.ps) := fun _ _ _ _ _ _ us hl => match us, hl with | [_], _ => rfl
theorem b104 : BindOk t104.nm t104.st (t104.N.take t104.df.ps) := fun _ _ _ _ _ _ us hl => match us, hl with | [_], _ => rfl
theorem b105 : BindOk t105.nm t105.st (t105.N.take t105.df.ps) := fun _ _ _ _ _ _ us hl => match us, hl with | [_], _ => rfl
theorem tab_bd : ∀ p ∈ tab, BindOk p.2.nm p.2.st (p.2.N.take p.2.df.ps) := by
  intro p hp
  simp only [tab, List.mem_cons, List.not_mem_nil, or_false] at hp
  rcases hp with rfl | rfl | rfl | rfl | rfl | rfl | rfl | rfl | rfl | rfl | rfl | rfl | rfl | rfl | rfl | rfl | rfl | rfl
  · exact b0
  · exact b1
  · exact b2
  · exact b7
  · exact b8
  · exact b11
  · exact b19
  · exact b26
  · exact b27
  · exact b28
  · exact b36
  · exact b37
  · exact b38
  · exact b39
  · exact b102
  · exact b103
  · exact b104
  · exact b105
theorem bLaw : BindOk "law" sLaw ["script"] := fun _ _ _ _ _ _ us hl => match us, hl with | [_], _ => rfl
theorem bCell : BindOk "_law_cell" sCell cellN := fun _ _ _ _ _ _ us hl => match us, hl with | [_, _], _ => rfl
theorem bRounds : BindOk "_law_rounds" sRounds ["script", "most"] := fun _ _ _ _ _ _ us hl => match us, hl with | [_, _], _ => rfl
theorem fin_at {K : PySem.W.Frag} (q0 : FnAt K "are_signs" (topS 14)) (q1 : FnAt K "is_table" (topS 15)) (q2 : FnAt K "need_table" (topS 16)) (q7 : FnAt K "_law_drawn" (topS 27)) (q8 : FnAt K "_law_roll" (topS 28)) (q11 : FnAt K "_law_any_table" (topS 32)) (q19 : FnAt K "_law_value" (topS 34)) (q26 : FnAt K "need_square" (topS 17)) (q27 : FnAt K "value_of" (topS 18)) (q28 : FnAt K "exchanges" (topS 20)) (q36 : FnAt K "_law_any_square" (topS 33)) (q37 : FnAt K "_law_orders" (topS 35)) (q38 : FnAt K "_law_terms" (topS 36)) (q39 : FnAt K "_law_kind" (topS 37)) (q102 : FnAt K "all_cycles" (topS 22)) (q103 : FnAt K "cycles" (topS 23)) (q104 : FnAt K "positive_cycle" (topS 24)) (q105 : FnAt K "_law_cycles" (topS 38)) : ∀ p ∈ tab, FnAt K p.2.nm p.2.st := by
  intro p hp
  simp only [tab, List.mem_cons, List.not_mem_nil, or_false] at hp
  rcases hp with rfl | rfl | rfl | rfl | rfl | rfl | rfl | rfl | rfl | rfl | rfl | rfl | rfl | rfl | rfl | rfl | rfl | rfl
  · exact q0
  · exact q1
  · exact q2
  · exact q7
  · exact q8
  · exact q11
  · exact q19
  · exact q26
  · exact q27
  · exact q28
  · exact q36
  · exact q37
  · exact q38
  · exact q39
  · exact q102
  · exact q103
  · exact q104
  · exact q105
theorem fin_blt {K : PySem.W.Frag} (z_len : PySem.W.nsIn K mainGlobals "len" = some none) (z_all : PySem.W.nsIn K mainGlobals "all" = some none) (z_any : PySem.W.nsIn K mainGlobals "any" = some none) (z_sum : PySem.W.nsIn K mainGlobals "sum" = some none) (z_min : PySem.W.nsIn K mainGlobals "min" = some none) (z_max : PySem.W.nsIn K mainGlobals "max" = some none) (z_sorted : PySem.W.nsIn K mainGlobals "sorted" = some none) (z_tuple : PySem.W.nsIn K mainGlobals "tuple" = some none) (z_list : PySem.W.nsIn K mainGlobals "list" = some none) (z_abs : PySem.W.nsIn K mainGlobals "abs" = some none) (z_int : PySem.W.nsIn K mainGlobals "int" = some none) (z_isinstance : PySem.W.nsIn K mainGlobals "isinstance" = some none) (z_str : PySem.W.nsIn K mainGlobals "str" = some none) (z_bool : PySem.W.nsIn K mainGlobals "bool" = some none) (z_range : PySem.W.nsIn K mainGlobals "range" = some none) (z_enumerate : PySem.W.nsIn K mainGlobals "enumerate" = some none) (z_zip : PySem.W.nsIn K mainGlobals "zip" = some none) (z_set : PySem.W.nsIn K mainGlobals "set" = some none) : ∀ x ∈ bltNames, PySem.W.nsIn K mainGlobals (Str.ofString x) = some none := by
  intro p hp
  simp only [bltNames, List.mem_cons, List.not_mem_nil, or_false] at hp
  rcases hp with rfl | rfl | rfl | rfl | rfl | rfl | rfl | rfl | rfl | rfl | rfl | rfl | rfl | rfl | rfl | rfl | rfl | rfl
  · exact z_len
  · exact z_all
  · exact z_any
  · exact z_sum
  · exact z_min
  · exact z_max
  · exact z_sorted
  · exact z_tuple
  · exact z_list
  · exact z_abs
  · exact z_int
  · exact z_isinstance
  · exact z_str
  · exact z_bool
  · exact z_range
  · exact z_enumerate
  · exact z_zip
  · exact z_set
theorem bTerm : BindOk "_law_term" sTerm ["e"] := fun _ _ _ _ _ _ us hl => match us, hl with | [_], _ => rfl
theorem bTold : BindOk "_law_told" sTold ["deed"] := fun _ _ _ _ _ _ us hl => match us, hl with | [_], _ => rfl
theorem fin_nm {K : PySem.W.Frag} {c0 c1 c2 c3 c4 c5 c6 c7 c8 c9 c10 : Addr} (n0 : PySem.W.nsIn K mainGlobals "InvalidTable" = some (some (.ref c0))) (n1 : PySem.W.nsIn K mainGlobals "InvalidRight" = some (some (.ref c1))) (n2 : PySem.W.nsIn K mainGlobals "InvalidPlace" = some (some (.ref c2))) (n3 : PySem.W.nsIn K mainGlobals "InvalidSign" = some (some (.ref c3))) (n4 : PySem.W.nsIn K mainGlobals "InvalidText" = some (some (.ref c4))) (n5 : PySem.W.nsIn K mainGlobals "NotSquare" = some (some (.ref c5))) (n6 : PySem.W.nsIn K mainGlobals "NotInvertible" = some (some (.ref c6))) (n7 : PySem.W.nsIn K mainGlobals "NotNegative" = some (some (.ref c7))) (n8 : PySem.W.nsIn K mainGlobals "TooLarge" = some (some (.ref c8))) (n9 : PySem.W.nsIn K mainGlobals "Unchanged" = some (some (.ref c9))) (n10 : PySem.W.nsIn K mainGlobals "NothingToUndo" = some (some (.ref c10))) : ∀ j nm, errN[j]? = some nm → PySem.W.nsIn K mainGlobals nm = some (some (.ref (([c0, c1, c2, c3, c4, c5, c6, c7, c8, c9, c10] : List Addr).getD j 0))) := by
  intro j nm h
  match j, h with
  | 0, h => cases h; exact n0
  | 1, h => cases h; exact n1
  | 2, h => cases h; exact n2
  | 3, h => cases h; exact n3
  | 4, h => cases h; exact n4
  | 5, h => cases h; exact n5
  | 6, h => cases h; exact n6
  | 7, h => cases h; exact n7
  | 8, h => cases h; exact n8
  | 9, h => cases h; exact n9
  | 10, h => cases h; exact n10
  | j + 11, h => simp [errN] at h
theorem fin_law {l : PySem.W.OpenLaw} {w : World} {K : PySem.W.Frag} {h : Heap} {mg : Str → Option Value} {fa f CS c0 c1 c2 c3 c4 c5 c6 c7 c8 c9 c10 : Addr} {oc : Value} {od an : Option Addr} {kV doc pm cdv ct : Value} {osl : Array (Option Value)} (KX : K.In h) (G : h.Ns mainGlobals mg) (hfa : mg "law" = some (.ref fa)) (OT : LamX.OwnTab K fa h) (q0 : FnAt K "are_signs" (topS 14)) (q1 : FnAt K "is_table" (topS 15)) (q2 : FnAt K "need_table" (topS 16)) (q7 : FnAt K "_law_drawn" (topS 27)) (q8 : FnAt K "_law_roll" (topS 28)) (q11 : FnAt K "_law_any_table" (topS 32)) (q19 : FnAt K "_law_value" (topS 34)) (q26 : FnAt K "need_square" (topS 17)) (q27 : FnAt K "value_of" (topS 18)) (q28 : FnAt K "exchanges" (topS 20)) (q36 : FnAt K "_law_any_square" (topS 33)) (q37 : FnAt K "_law_orders" (topS 35)) (q38 : FnAt K "_law_terms" (topS 36)) (q39 : FnAt K "_law_kind" (topS 37)) (q102 : FnAt K "all_cycles" (topS 22)) (q103 : FnAt K "cycles" (topS 23)) (q104 : FnAt K "positive_cycle" (topS 24)) (q105 : FnAt K "_law_cycles" (topS 38))
    (aL : PySem.W.nsIn K mainGlobals "law" = some (some (.ref f))) (lL : K.lookup f = some ⟨oc, od, .func (PySem.W.fnOf "law" "law" (defArgs sLaw) (defBody sLaw) (defScope sLaw) .none kV doc pm an cdv ct), osl⟩) (cL : PySem.W.codeIn K cdv "law" = true) (kL : PySem.W.keepIn K (.ref f) = true)
    (hcd : PySem.W.codeHdIn K (codeOf K f) (tabOf K (codeOf K f)) = true) (hnP : K.lookup (tabOf K (codeOf K f)) = none)
    (qC : FnAt K "_law_cell" sCell) (qR : FnAt K "_law_rounds" sRounds) (qT : FnAt K "_law_term" sTerm) (qO : FnAt K "_law_told" sTold) (z_len : PySem.W.nsIn K mainGlobals "len" = some none) (z_all : PySem.W.nsIn K mainGlobals "all" = some none) (z_any : PySem.W.nsIn K mainGlobals "any" = some none) (z_sum : PySem.W.nsIn K mainGlobals "sum" = some none) (z_min : PySem.W.nsIn K mainGlobals "min" = some none) (z_max : PySem.W.nsIn K mainGlobals "max" = some none) (z_sorted : PySem.W.nsIn K mainGlobals "sorted" = some none) (z_tuple : PySem.W.nsIn K mainGlobals "tuple" = some none) (z_list : PySem.W.nsIn K mainGlobals "list" = some none) (z_abs : PySem.W.nsIn K mainGlobals "abs" = some none) (z_int : PySem.W.nsIn K mainGlobals "int" = some none) (z_isinstance : PySem.W.nsIn K mainGlobals "isinstance" = some none) (z_str : PySem.W.nsIn K mainGlobals "str" = some none) (z_bool : PySem.W.nsIn K mainGlobals "bool" = some none) (z_range : PySem.W.nsIn K mainGlobals "range" = some none) (z_enumerate : PySem.W.nsIn K mainGlobals "enumerate" = some none) (z_zip : PySem.W.nsIn K mainGlobals "zip" = some none) (z_set : PySem.W.nsIn K mainGlobals "set" = some none) (zV : PySem.W.nsIn K mainGlobals "ValueError" = some none) (hS : PySem.W.nsIn K mainGlobals "SignError" = some (some (.ref CS))) (n0 : PySem.W.nsIn K mainGlobals "InvalidTable" = some (some (.ref c0))) (n1 : PySem.W.nsIn K mainGlobals "InvalidRight" = some (some (.ref c1))) (n2 : PySem.W.nsIn K mainGlobals "InvalidPlace" = some (some (.ref c2))) (n3 : PySem.W.nsIn K mainGlobals "InvalidSign" = some (some (.ref c3))) (n4 : PySem.W.nsIn K mainGlobals "InvalidText" = some (some (.ref c4))) (n5 : PySem.W.nsIn K mainGlobals "NotSquare" = some (some (.ref c5))) (n6 : PySem.W.nsIn K mainGlobals "NotInvertible" = some (some (.ref c6))) (n7 : PySem.W.nsIn K mainGlobals "NotNegative" = some (some (.ref c7))) (n8 : PySem.W.nsIn K mainGlobals "TooLarge" = some (some (.ref c8))) (n9 : PySem.W.nsIn K mainGlobals "Unchanged" = some (some (.ref c9))) (n10 : PySem.W.nsIn K mainGlobals "NothingToUndo" = some (some (.ref c10))) (hcB : clsB K CS [c0, c1, c2, c3, c4, c5, c6, c7, c8, c9, c10] = true) :
    LamX.LawAtS l w K (L2N.CX l.prog w) 23 63 "script" mg fa h :=
  finT (k := 18) KX G hfa OT tab_ok tab_defs tab_bd (fin_at q0 q1 q2 q7 q8 q11 q19 q26 q27 q28 q36 q37 q38 q39 q102 q103 q104 q105) aL lL cL kL hcd hnP qC qR qT qO bLaw bCell bRounds bTerm bTold (fin_blt z_len z_all z_any z_sum z_min z_max z_sorted z_tuple z_list z_abs z_int z_isinstance z_str z_bool z_range z_enumerate z_zip z_set) zV hS (fin_nm n0 n1 n2 n3 n4 n5 n6 n7 n8 n9 n10) hcB law_sc rfl rfl law_is law_ch cell_sc cell_is cell_len rounds_sc rounds_is term_sc term_is told_sc told_is lawS_ok
end SG
open PySem PySem.W PyProof.Rows
set_option maxHeartbeats 0 in
theorem PySem.Challenge.cw_signgrids_k15_whole_cycles_holds : PySem.Challenge.rw_signgrids_k15_whole_cycles.Holds := by
  w_on; o_law; k_head; (case hw => w_witness2)
  k_fill
  refine LamX.walk_ofOwn (l := PySem.Challenge.rw_signgrids_k15_whole_cycles) (n := 63) (k := 23) (x := "script") (CX := fun w => L2N.CX PySem.Challenge.rw_signgrids_k15_whole_cycles.prog w) rfl (by decide) rfl ⟨rfl, by decide, by decide⟩ (by decide +kernel) (fun w h Y => PySem.W.km_in_of Y) ?F (fun _ _ _ _ _ h => SG.cx_no h)
  case F =>
    intro w mg fa h Y KX G hmg OT
    refine' SG.fin_law KX G hmg OT ?q0 ?q1 ?q2 ?q7 ?q8 ?q11 ?q19 ?q26 ?q27 ?q28 ?q36 ?q37 ?q38 ?q39 ?q102 ?q103 ?q104 ?q105 ?aL ?lL ?cL ?kL ?hcd ?hnP ?qC ?qR ?qT ?qO ?z_len ?z_all ?z_any ?z_sum ?z_min ?z_max ?z_sorted ?z_tuple ?z_list ?z_abs ?z_int ?z_isinstance ?z_str ?z_bool ?z_range ?z_enumerate ?z_zip ?z_set ?zV ?hS ?n0 ?n1 ?n2 ?n3 ?n4 ?n5 ?n6 ?n7 ?n8 ?n9 ?n10 ?hcB
    (case q0 => refine' SG.at_mk ?a ?l ?c ?k; (case a => k_is); (case l => k_is); (case c => k_is); (case k => k_is))
    (case q1 => refine' SG.at_mk ?a ?l ?c ?k; (case a => k_is); (case l => k_is); (case c => k_is); (case k => k_is))
    (case q2 => refine' SG.at_mk ?a ?l ?c ?k; (case a => k_is); (case l => k_is); (case c => k_is); (case k => k_is))
    (case q7 => refine' SG.at_mk ?a ?l ?c ?k; (case a => k_is); (case l => k_is); (case c => k_is); (case k => k_is))
    (case q8 => refine' SG.at_mk ?a ?l ?c ?k; (case a => k_is); (case l => k_is); (case c => k_is); (case k => k_is))
    (case q11 => refine' SG.at_mk ?a ?l ?c ?k; (case a => k_is); (case l => k_is); (case c => k_is); (case k => k_is))
    (case q19 => refine' SG.at_mk ?a ?l ?c ?k; (case a => k_is); (case l => k_is); (case c => k_is); (case k => k_is))
    (case q26 => refine' SG.at_mk ?a ?l ?c ?k; (case a => k_is); (case l => k_is); (case c => k_is); (case k => k_is))
    (case q27 => refine' SG.at_mk ?a ?l ?c ?k; (case a => k_is); (case l => k_is); (case c => k_is); (case k => k_is))
    (case q28 => refine' SG.at_mk ?a ?l ?c ?k; (case a => k_is); (case l => k_is); (case c => k_is); (case k => k_is))
    (case q36 => refine' SG.at_mk ?a ?l ?c ?k; (case a => k_is); (case l => k_is); (case c => k_is); (case k => k_is))
    (case q37 => refine' SG.at_mk ?a ?l ?c ?k; (case a => k_is); (case l => k_is); (case c => k_is); (case k => k_is))
    (case q38 => refine' SG.at_mk ?a ?l ?c ?k; (case a => k_is); (case l => k_is); (case c => k_is); (case k => k_is))
    (case q39 => refine' SG.at_mk ?a ?l ?c ?k; (case a => k_is); (case l => k_is); (case c => k_is); (case k => k_is))
    (case q102 => refine' SG.at_mk ?a ?l ?c ?k; (case a => k_is); (case l => k_is); (case c => k_is); (case k => k_is))
    (case q103 => refine' SG.at_mk ?a ?l ?c ?k; (case a => k_is); (case l => k_is); (case c => k_is); (case k => k_is))
    (case q104 => refine' SG.at_mk ?a ?l ?c ?k; (case a => k_is); (case l => k_is); (case c => k_is); (case k => k_is))
    (case q105 => refine' SG.at_mk ?a ?l ?c ?k; (case a => k_is); (case l => k_is); (case c => k_is); (case k => k_is))
    (case qC => refine' SG.at_mk ?a ?l ?c ?k; (case a => k_is); (case l => k_is); (case c => k_is); (case k => k_is))
    (case qR => refine' SG.at_mk ?a ?l ?c ?k; (case a => k_is); (case l => k_is); (case c => k_is); (case k => k_is))
    (case qT => refine' SG.at_mk ?a ?l ?c ?k; (case a => k_is); (case l => k_is); (case c => k_is); (case k => k_is))
    (case qO => refine' SG.at_mk ?a ?l ?c ?k; (case a => k_is); (case l => k_is); (case c => k_is); (case k => k_is))
    (case aL => k_is)
    (case lL => k_is)
    (case cL => k_is)
    (case kL => k_is)
    (case hcd => kernel_rfl)
    (case hnP => kernel_rfl)
    (case z_len => k_is)
    (case z_all => k_is)
    (case z_any => k_is)
    (case z_sum => k_is)
    (case z_min => k_is)
    (case z_max => k_is)
    (case z_sorted => k_is)
    (case z_tuple => k_is)
    (case z_list => k_is)
    (case z_abs => k_is)
    (case z_int => k_is)
    (case z_isinstance => k_is)
    (case z_str => k_is)
    (case z_bool => k_is)
    (case z_range => k_is)
    (case z_enumerate => k_is)
    (case z_zip => k_is)
    (case z_set => k_is)
    (case zV => k_is)
    (case hS => k_is)
    (case n0 => k_is)
    (case n1 => k_is)
    (case n2 => k_is)
    (case n3 => k_is)
    (case n4 => k_is)
    (case n5 => k_is)
    (case n6 => k_is)
    (case n7 => k_is)
    (case n8 => k_is)
    (case n9 => k_is)
    (case n10 => k_is)
    (case hcB => kernel_rfl)
