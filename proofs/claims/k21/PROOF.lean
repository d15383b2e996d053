import PyProof.Rows.All
import Wide.All
import OpenK.AllK
import Wide.FinOn
import HandS.ForMost
import HandS.ForExc
import HandS.Walk
import HandS.Wide
import KE.DataMinMax
import KE.DataCmp
import HandS.TupSets
import HandS.TupAny
import HandS.TupMul
import HandS.Deep
import HandS.Conv
import HandS.Lambda
import HandS.Exc
import HandS.ExcOwn
import HandS.IsInst
import HandS.Replace
import KE.SortData
import HandS.Text
import PyProof.Rows.RegReprOcc
import KE.GoesEnum
import KE.GoesNew
import HandS.ExcCtx
import HandS.ExcIs
import HandS.Style
import KE.KRevSl
import HandS.SetFor
import HandS.Strs
import KE.KItemsList
import HandS.ListItems
import HandS.Dict
import HandS.WordsExc
import HandS.Base
import HandS.Call
import HandS.List
import HandS.Comp
import HandS.Hot
import HandS.HotCalls
import HandS.EndOwn
import PySem.Challenge.RW_signgrids_k21_errors_apart
set_option Elab.async false
set_option linter.all false
set_option maxRecDepth 100000
namespace SG
open PySem
inductive D where
  | non | bl (b : Bool) | int (i : Int) | str (s : List Nat) | tup (xs : List D) | lst (xs : List D) | die
  | exc (k : Nat) | obj
  deriving Inhabited
mutual
def D.py : D → PyData
  | .non => .none | .bl b => .bool b | .int i => .int i | .str s => .str ⟨s.toArray⟩
  | .tup xs => .tuple (D.pys xs) | .lst xs => .list (D.pys xs) | .die => .none | .exc _ => .none | .obj => .none
def D.pys : List D → List PyData
  | [] => []
  | x :: xs => D.py x :: D.pys xs
end
mutual
def D.dep : D → Nat
  | .tup xs => D.deps xs + 1 | .lst xs => D.deps xs + 1 | .die => 100 | .exc _ => 100 | .obj => 100 | .non => 0 | .bl _ => 0 | .int _ => 0 | .str _ => 0
def D.deps : List D → Nat
  | [] => 0
  | x :: xs => max (D.dep x) (D.deps xs)
end
mutual
def D.eq : D → D → Bool
  | .non, .non => true
  | .bl a, .bl b => a == b
  | .bl a, .int j => (if a then 1 else 0) == j
  | .int i, .bl b => i == (if b then 1 else 0)
  | .int i, .int j => i == j
  | .str x, .str y => x == y
  | .tup xs, .tup ys => D.eqs xs ys
  | .lst xs, .lst ys => D.eqs xs ys
  | _, _ => false
def D.eqs : List D → List D → Bool
  | [], [] => true
  | x :: xs, y :: ys => D.eq x y && D.eqs xs ys
  | _, _ => false
end
def D.ordB (x y : D) : Bool := PySem.W.alike x.py y.py && decide (x.dep ≤ 64) && decide (y.dep ≤ 64) && !(match x with | .non => true | _ => false)
def D.lt (x y : D) : Bool := match x, y with
  | .int i, .int j => decide (i < j)
  | x, y => PySem.W.dataLt x.py y.py
structure Dice where
  a : Int
  b : Int
  k : Option (D × D × D)
  deriving Inhabited
inductive Res (α : Type) where
  | ok (a : α) (d : Dice)
  | err (c : Nat) (d : Dice)
  | bad
def Res.bind {α β : Type} (r : Res α) (f : α → Dice → Res β) : Res β :=
  match r with
  | .ok a d => f a d
  | .err c d => .err c d
  | .bad => .bad
def Res.noerr {α : Type} (r : Res α) : Res α :=
  match r with
  | .err _ _ => .bad
  | r => r
def Res.of {α : Type} (o : Option α) (d : Dice) : Res α :=
  match o with
  | some a => .ok a d
  | none => .bad
inductive Bop where | add | sub | mul | fdiv | mod | pow
  deriving DecidableEq
inductive Cop where | eq | ne | lt | le | gt | ge | inn | notin
  deriving DecidableEq
inductive Bi where | len | all | any | sum | min | max | min2 | max2 | sorted | tuple | list | abs | int
  deriving DecidableEq
inductive Me where | join | index | count | split | lindex
  deriving DecidableEq
inductive Ty where | str | int | bool | tuple
  deriving DecidableEq
inductive E where
  | nil | cons (a r : E)
  | var (i : Nat) | non | bl (b : Bool) | int (i : Int) | str (s : List Nat)
  | tup (es : E) | lst (es : E)
  | bin (o : Bop) (a b : E) | neg (a : E)
  | cmp (o : Cop) (a b : E) | chain (o p : Cop) (a b c : E) | isn (n : Bool) (a : E)
  | and (a b : E) | or (a b : E) | and3 (a b c : E) | or3 (a b c : E) | not (a : E) | ite (c a b : E)
  | call (f : Nat) (es : E) | bi (f : Bi) (es : E) | isi (t : Ty) (a : E) | meth (m : Me) (o a : E)
  | ix (a b : E) | sl (a lo hi : E) | rev (a : E)
  | rng1 (a : E) | rng2 (a b : E) | enum (a : E) | zip (a b : E)
  | trng (a : E) | lenum (a : E) | ssort (a : E)
  | lc (elt tg it : E) (own : List Nat) | lcif (elt tg it c : E) (own : List Nat) | lc2 (elt tg1 it1 tg2 it2 : E) (own own2 : List Nat)
  | dget (kvs : List (List Nat × Int)) (e : E) | dgets (kvs : List (List Nat × List Nat)) (e : E)
  | oix (i : Nat) (e : E) | oit (i : Nat) | olen (i : Nat) | dix (i j : Nat) | told (e : E)
  | fld (o : E) (j : Nat) | mcall (f : Nat) (o es : E) | tmp (f : Nat) (es as : E) | met (e : E) | isx (j : Nat) (a : E)
  deriving Inhabited
inductive S where
  | nil | seq (a r : S)
  | set (tg e : E) | own (i : Nat) | par (i j : Nat) (a b : E) | parO (i j : Nat) (a : E) | par3 (i j l : Nat) (a b c : E) | frz (i : Nat) | nev
  | app (i : Nat) (e : E) | sti (i : Nat) (a e : E) | swp (i : Nat) (a b : E)
  | ret (e : E) | ifs (c : E) (a b : S) | fors (tg it : E) (b : S) | whl (n : Nat) (c : E) (b : S)
  | ex (e : E) | rse (c : Nat) | aug (i : Nat) (e : E) | ownR (i : Nat) (z : Int) (e : E) | dst (i j : Nat) (e : E)
  | fst (o : E) (j : Nat) (e : E) | own1 (i : Nat) (e : E)
  deriving Inhabited
inductive Sl where | no | sh (d : D) | ow (ds : List D)
  deriving Inhabited
abbrev Env := List Sl
def Env.get (env : Env) (i : Nat) : Option D := match env[i]? with
  | some (.sh d) => some d
  | _ => none
def Env.getO (env : Env) (i : Nat) : Option (List D) := match env[i]? with
  | some (.ow ds) => some ds
  | _ => none
def Env.put (env : Env) (i : Nat) (s : Sl) : Option Env := if i < env.length then some (env.set i s) else none
def Env.wipe (env : Env) : List Nat → Env
  | [] => env
  | v :: vs => (Env.wipe env vs).set v .no
def lim : Nat := 1000000
def smallI (i : Int) : Bool := decide (i.natAbs < 2 ^ 8000)
def s64 (i : Int) : Bool := decide (-(2 ^ 64) < i) && decide (i < 2 ^ 64)
def mulOk (i j : Int) : Bool := (s64 i || s64 j) || (smallI i && smallI j)
def mkS (s : List Nat) : Option D := if s.length ≤ lim then some (.str s) else none
def mkT (s : List D) : Option D := if s.length ≤ lim then some (.tup s) else none
def mkL (s : List D) : Option D := if s.length ≤ lim then some (.lst s) else none
def rep {α : Type} (n : Int) (xs : List α) : List α := (List.replicate n.toNat xs).flatten
def opBin : Bop → D → D → Option D
  | .add, .int i, .int j => some (.int (i + j))
  | .add, .str x, .str y => mkS (x ++ y)
  | .add, .tup x, .tup y => mkT (x ++ y)
  | .add, .lst x, .lst y => mkL (x ++ y)
  | .sub, .int i, .int j => some (.int (i - j))
  | .mul, .int i, .int j => if mulOk i j then some (.int (i * j)) else none
  | .mul, .str x, .int j => if decide (0 ≤ j) && decide (j ≤ 1000) && decide (x.length ≤ 1000) then some (.str (rep j x)) else none
  | .mul, .tup x, .int j => if decide (0 ≤ j) && decide (j ≤ 1000) && decide (x.length ≤ 1000) && !x.isEmpty then some (.tup (rep j x)) else none
  | .mul, .lst x, .int j => if decide (0 ≤ j) && decide (j ≤ 1000) && decide (x.length ≤ 1000) then some (.lst (rep j x)) else none
  | .fdiv, .int i, .int j => if decide (j ≠ 0) && smallI j then some (.int (i.fdiv j)) else none
  | .mod, .int i, .int j => if decide (j ≠ 0) then some (.int (i.fmod j)) else none
  | .pow, .int i, .int j => if decide (0 ≤ j) && decide (j ≤ 1000) && decide (i.natAbs < 2 ^ 60) then some (.int (i ^ j.toNat)) else none
  | _, _, _ => none
def flat : D → Bool
  | .non => true | .bl _ => true | .int _ => true | .str _ => true | _ => false
def inD (x : D) : D → Option Bool
  | .str t => match x with
    | .str [c] => some (t.contains c)
    | _ => none
  | .lst ys => if decide (x.dep ≤ 60) && decide (D.deps ys ≤ 60) then some (ys.any fun z => D.eq z x) else none
  | .tup ys => if flat x && ys.all flat then some (ys.any fun z => D.eq z x) else none
  | _ => none
def opCmp : Cop → D → D → Option Bool
  | .eq, x, y => if decide (x.dep ≤ 64) && decide (y.dep ≤ 64) then some (D.eq x y) else none
  | .ne, x, y => if decide (x.dep ≤ 64) && decide (y.dep ≤ 64) then some (!D.eq x y) else none
  | .lt, x, y => if D.ordB x y then some (D.lt x y) else none
  | .gt, x, y => if D.ordB x y then some (D.lt y x) else none
  | .le, x, y => if D.ordB x y then some (!D.lt y x) else none
  | .ge, x, y => if D.ordB x y then some (!D.lt x y) else none
  | .inn, x, y => inD x y
  | .notin, x, y => (inD x y).map (!·)
def truth : D → Option Bool
  | .bl b => some b
  | .int i => some (decide (i ≠ 0))
  | _ => none
def boolOf : D → Option Bool
  | .bl b => some b
  | _ => none
def bools : List D → Option (List Bool)
  | [] => some []
  | .bl b :: r => (bools r).map (b :: ·)
  | _ => none
def intsOf : List D → Option (List Int)
  | [] => some []
  | .int b :: r => (intsOf r).map (b :: ·)
  | _ => none
def strsOf : List D → Option (List (List Nat))
  | [] => some []
  | .str b :: r => (strsOf r).map (b :: ·)
  | _ => none
def items : D → Option (List D)
  | .lst xs => some xs
  | .tup xs => some xs
  | .str s => some (s.map fun c => .str [c])
  | _ => none
def isI (t : Ty) (x : D) : Option Bool := match x with
  | .die => none
  | .exc _ => none
  | .obj => none
  | x => some (match t, x with
    | .str, .str _ => true
    | .int, .int _ => true
    | .int, .bl _ => true
    | .bool, .bl _ => true
    | .tuple, .tup _ => true
    | _, _ => false)
def ordAll (xs : List D) : Bool := xs.all fun x => xs.all fun y => D.ordB x y
def least (x : D) : List D → D
  | [] => x
  | y :: r => least (if D.lt y x then y else x) r
def most (x : D) : List D → D
  | [] => x
  | y :: r => most (if D.lt x y then y else x) r
def headNoTup (xs : List D) : Bool := xs.all (fun x => match x with | .tup _ => false | _ => true) || xs.all (fun x => match x with | .tup [] => false | .tup (_ :: _) => true | _ => false)
def sortD (xs : List D) : Option (List D) := if ordAll xs && headNoTup xs then some (xs.mergeSort fun a b => !D.lt b a) else none
def biLen : List D → Option D
  | [.str s] => if s.length ≤ lim then some (.int s.length) else none
  | [.tup s] => some (.int s.length)
  | [.lst s] => some (.int s.length)
  | _ => none
def biAll : List D → Option D
  | [.lst xs] => (bools xs).map fun bs => .bl (bs.all id)
  | _ => none
def biAny : List D → Option D
  | [.lst xs] => (bools xs).map fun bs => .bl (bs.any id)
  | _ => none
def biSum : List D → Option D
  | [.lst xs] => (intsOf xs).map fun bs => .int bs.sum
  | _ => none
def biMin : List D → Option D
  | [.lst (x :: xs)] => if ordAll (x :: xs) then some (least x xs) else none
  | [.tup (x :: xs)] => if ordAll (x :: xs) then some (least x xs) else none
  | _ => none
def biMax : List D → Option D
  | [.lst (x :: xs)] => if ordAll (x :: xs) then some (most x xs) else none
  | _ => none
def biMin2 : List D → Option D
  | [.int i, .int j] => some (.int (if j < i then j else i))
  | _ => none
def biMax2 : List D → Option D
  | [.int i, .int j] => some (.int (if j > i then j else i))
  | _ => none
def biSorted : List D → Option D
  | [.lst xs] => (sortD xs).map .lst
  | _ => none
def biTuple : List D → Option D
  | [.lst xs] => some (.tup xs)
  | [.tup xs] => some (.tup xs)
  | _ => none
def biList : List D → Option D
  | [.lst xs] => some (.lst xs)
  | [.tup xs] => some (.lst xs)
  | [.str s] => if s.length ≤ lim then some (.lst (s.map fun c => .str [c])) else none
  | _ => none
def biAbs : List D → Option D
  | [.int i] => some (.int (if i < 0 then -i else i))
  | _ => none
def biInt : List D → Option D
  | [.int i] => some (.int i)
  | [.bl b] => some (.int (if b then 1 else 0))
  | _ => none
def opBi : Bi → List D → Option D
  | .len => biLen | .all => biAll | .any => biAny | .sum => biSum | .min => biMin | .max => biMax | .min2 => biMin2 | .max2 => biMax2
  | .sorted => biSorted | .tuple => biTuple | .list => biList | .abs => biAbs | .int => biInt
def joinS (sep : List Nat) : List (List Nat) → List Nat
  | [] => []
  | [x] => x
  | x :: y :: r => x ++ sep ++ joinS sep (y :: r)
def splitS (c : Nat) : List Nat → List Nat → List (List Nat)
  | acc, [] => [acc.reverse]
  | acc, x :: r => if x = c then acc.reverse :: splitS c [] r else splitS c (x :: acc) r
def findD (c : D) : Nat → List D → Option Nat
  | _, [] => none
  | n, x :: r => if D.eq x c then some n else findD c (n + 1) r
def joinR (sep : List Nat) (xs : List D) : Option D := (strsOf xs).bind fun ss => if (ss.map (·.length)).sum + ss.length * sep.length ≤ lim then some (.str (joinS sep ss)) else none
def meJoin : D → List D → Option D
  | .str sep, [.lst xs] => joinR sep xs
  | .str sep, [.tup xs] => joinR sep xs
  | _, _ => none
def meIndex : D → List D → Option D
  | .str s, [.str [c]] => if s = [43, 45, 48] then (if c = 43 then some (.int 0) else if c = 45 then some (.int 1) else if c = 48 then some (.int 2) else none) else none
  | _, _ => none
def meCount : D → List D → Option D
  | .str s, [.str [c]] => some (.int (s.count c))
  | _, _ => none
def meSplit : D → List D → Option D
  | .str s, [.str [c]] => if s.length + 2 ≤ lim then some (.lst ((splitS c [] s).map .str)) else none
  | _, _ => none
def meLindex : D → List D → Option D
  | .lst xs, [.bl b] => if xs.all flat then (findD (.bl b) 0 xs).map fun n => .int n else none
  | _, _ => none
def opMe : Me → D → List D → Option D
  | .join => meJoin | .index => meIndex | .count => meCount | .split => meSplit | .lindex => meLindex
def ixP (n : Nat) (i : Int) : Option Nat := if 0 ≤ i then (if i < n then some i.toNat else none) else if -(n : Int) ≤ i then some (i + n).toNat else none
def atP {α : Type} (xs : List α) (i : Int) : Option α := (ixP xs.length i).bind fun j => xs[j]?
def opIx : D → D → Option D
  | .tup xs, .int i => atP xs i
  | .lst xs, .int i => atP xs i
  | .str s, .int i => if s.length ≤ lim then (atP s i).map fun c => .str [c] else none
  | _, _ => none
def sIx (n d : Nat) : Option Int → Nat
  | none => d
  | some v => if v < 0 then (v + (n : Int)).toNat else min v.toNat n
def cut {α : Type} (xs : List α) (lo hi : Option Int) : List α := (xs.drop (sIx xs.length 0 lo)).take (sIx xs.length xs.length hi - sIx xs.length 0 lo)
def opSl (x : D) (lo hi : Option Int) : Option D := match x with
  | .tup xs => some (.tup (cut xs lo hi))
  | .lst xs => some (.lst (cut xs lo hi))
  | .str s => if s.length ≤ lim then some (.str (cut s lo hi)) else none
  | _ => none
def opRev : D → Option D
  | .tup xs => some (.tup xs.reverse)
  | .str xs => if xs.length ≤ lim then some (.str xs.reverse) else none
  | _ => none
def isNil : E → Bool
  | .nil => true | _ => false
def part (e : E) (y : D) : Option (Option Int) := if isNil e then some none else match y with
  | .int i => some (some i)
  | _ => none
def rangeL (a b : Int) : List D := (List.range (b - a).toNat).map fun (i : Nat) => D.int (a + (i : Int))
def smallR (a b : Int) : Bool := decide (-(2 ^ 20) ≤ a) && decide (a < 2 ^ 20) && decide (-(2 ^ 20) ≤ b) && decide (b < 2 ^ 20)
def enumL : Nat → List D → List D
  | _, [] => []
  | n, x :: r => .tup [.int n, x] :: enumL (n + 1) r
def zipL : List D → List D → List D
  | x :: r, y :: s => .tup [x, y] :: zipL r s
  | _, _ => []
def insS (x : Int) : List Int → List Int
  | [] => [x]
  | y :: r => if x < y then x :: y :: r else if x = y then y :: r else y :: insS x r
def sset (l : List Int) : List Int := l.foldr insS []
def tInts : List D → Option (List (List Int))
  | [] => some []
  | .tup xs :: r => (intsOf xs).bind fun a => (tInts r).map (a :: ·)
  | _ => none
def codeT (l : List Int) : Int := TS.code 64 l
def insT (x : List Int) : List (List Int) → List (List Int)
  | [] => [x]
  | y :: r => if codeT x < codeT y then x :: y :: r else if codeT x = codeT y then y :: r else y :: insT x r
def ssetT (l : List (List Int)) : List (List Int) := l.foldr insT []
def tOk (ks : List (List Int)) : Bool := match ks with
  | [] => false
  | k0 :: _ => decide (1 ≤ k0.length) && decide (ks.length ≤ 60) && ks.all fun k => decide (k.length = k0.length) && k.all fun x => decide (0 ≤ x) && decide (x < 64)
def tIO (k : List Int) : D := .tup (k.map .int)
def ssortO (xs : List D) : Option D := match intsOf xs with
  | some ns => if ns.length ≤ 60 then some (.lst ((sset ns).map .int)) else none
  | none => (tInts xs).bind fun ks => if tOk ks then some (.lst ((ssetT ks).map tIO)) else none
def asg : E → D → Env → Option Env
  | .var i, x, env => env.put i (.sh x)
  | .tup es, .tup xs, env => asg es (.tup xs) env
  | .nil, .tup [], env => some env
  | .cons a r, .tup (x :: xs), env => (asg a x env).bind fun env' => asg r (.tup xs) env'
  | _, _, _ => none
def tups : D → List D
  | .tup xs => xs
  | _ => []
def lookS (c : List Nat) : List (List Nat × Int) → Option D
  | [] => none
  | (k, v) :: r => if k = c then some (.int v) else lookS c r
def lookSS (c : List Nat) : List (List Nat × List Nat) → Option D
  | [] => none
  | (k, v) :: r => if k = c then some (.str v) else lookSS c r
def errT : List Nat := [101, 114, 114, 111, 114]
def errS : Nat → List Nat
  | 0 => [73, 110, 118, 97, 108, 105, 100, 84, 97, 98, 108, 101]
  | 1 => [73, 110, 118, 97, 108, 105, 100, 82, 105, 103, 104, 116]
  | 2 => [73, 110, 118, 97, 108, 105, 100, 80, 108, 97, 99, 101]
  | 3 => [73, 110, 118, 97, 108, 105, 100, 83, 105, 103, 110]
  | 4 => [73, 110, 118, 97, 108, 105, 100, 84, 101, 120, 116]
  | 5 => [78, 111, 116, 83, 113, 117, 97, 114, 101]
  | 6 => [78, 111, 116, 73, 110, 118, 101, 114, 116, 105, 98, 108, 101]
  | 7 => [78, 111, 116, 78, 101, 103, 97, 116, 105, 118, 101]
  | 8 => [84, 111, 111, 76, 97, 114, 103, 101]
  | 9 => [85, 110, 99, 104, 97, 110, 103, 101, 100]
  | 10 => [78, 111, 116, 104, 105, 110, 103, 84, 111, 85, 110, 100, 111]
  | _ => []
def errD (k : Nat) : D := .tup [.str errT, .str (errS k)]
def fldD (t : D × D × D) : Nat → Option D
  | 0 => some t.1
  | 1 => some t.2.1
  | 2 => some t.2.2
  | _ => none
def fldS (t : D × D × D) (x : D) : Nat → Option (D × D × D)
  | 0 => some (x, t.2.1, t.2.2)
  | 1 => some (t.1, x, t.2.2)
  | 2 => some (t.1, t.2.1, x)
  | _ => none
def Res.noDesk : Res D → Res D
  | .ok x d => match x with
    | .non => .ok .non ⟨d.a, d.b, none⟩
    | .str s => .ok (.str s) ⟨d.a, d.b, none⟩
    | _ => .bad
  | .err k d => .err k ⟨d.a, d.b, none⟩
  | .bad => .bad
abbrev CF := Nat → List D → Dice → Res D
def lcLoop (st : D → Option Env) (f : Env → Dice → Res (Option D)) : List D → Dice → Res (List D)
  | [], d => .ok [] d
  | x :: r, d => match st x with
    | none => .bad
    | some env => (f env d).noerr.bind fun o d' => (lcLoop st f r d').bind fun ys d'' => .ok (match o with | some y => y :: ys | none => ys) d''
def lcLoop2 (st : D → Option Env) (f : Env → Dice → Res (List D)) : List D → Dice → Res (List D)
  | [], d => .ok [] d
  | x :: r, d => match st x with
    | none => .bad
    | some env => (f env d).noerr.bind fun o d' => (lcLoop2 st f r d').bind fun ys d'' => .ok (o ++ ys) d''
def ev (cf : CF) : E → Env → Dice → Res D
  | .nil, _, d => .ok (.tup []) d
  | .cons a r, env, d => (ev cf a env d).bind fun x d => (ev cf r env d).bind fun xs d => .ok (.tup (x :: tups xs)) d
  | .var i, env, d => .of (env.get i) d
  | .non, _, d => .ok .non d
  | .bl b, _, d => .ok (.bl b) d
  | .int i, _, d => .ok (.int i) d
  | .str s, _, d => .ok (.str s) d
  | .tup es, env, d => ev cf es env d
  | .lst es, env, d => (ev cf es env d).bind fun x d => .ok (.lst (tups x)) d
  | .bin o a b, env, d => (ev cf a env d).bind fun x d => (ev cf b env d).bind fun y d => .of (opBin o x y) d
  | .neg a, env, d => (ev cf a env d).bind fun x d => match x with | .int i => .ok (.int (-i)) d | _ => .bad
  | .cmp o a b, env, d => (ev cf a env d).bind fun x d => (ev cf b env d).bind fun y d => .of ((opCmp o x y).map .bl) d
  | .chain o p a b c, env, d => (ev cf a env d).bind fun x d => (ev cf b env d).bind fun y d => match opCmp o x y with
    | some true => (ev cf c env d).bind fun z d => .of ((opCmp p y z).map .bl) d
    | some false => .ok (.bl false) d
    | none => .bad
  | .isn n a, env, d => (ev cf a env d).bind fun x d => .ok (.bl (match x with | .non => !n | _ => n)) d
  | .and a b, env, d => (ev cf a env d).bind fun x d => match x with
    | .bl true => ev cf b env d
    | .bl false => .ok (.bl false) d
    | _ => .bad
  | .or a b, env, d => (ev cf a env d).bind fun x d => match x with
    | .bl false => ev cf b env d
    | .bl true => .ok (.bl true) d
    | _ => .bad
  | .and3 a b c, env, d => (ev cf a env d).bind fun x d => match x with
    | .bl true => (ev cf b env d).bind fun y d => match y with
      | .bl true => ev cf c env d
      | .bl false => .ok (.bl false) d
      | _ => .bad
    | .bl false => .ok (.bl false) d
    | _ => .bad
  | .or3 a b c, env, d => (ev cf a env d).bind fun x d => match x with
    | .bl false => (ev cf b env d).bind fun y d => match y with
      | .bl false => ev cf c env d
      | .bl true => .ok (.bl true) d
      | _ => .bad
    | .bl true => .ok (.bl true) d
    | _ => .bad
  | .not a, env, d => (ev cf a env d).bind fun x d => match x with
    | .bl b => .ok (.bl (!b)) d
    | _ => .bad
  | .ite c a b, env, d => (ev cf c env d).bind fun x d => match truth x with
    | some true => ev cf a env d
    | some false => ev cf b env d
    | none => .bad
  | .call f es, env, d => (ev cf es env d).bind fun x d => cf f (tups x) d
  | .bi f es, env, d => (ev cf es env d).bind fun x d => .of (opBi f (tups x)) d
  | .isi t a, env, d => (ev cf a env d).bind fun x d => .of ((isI t x).map .bl) d
  | .meth m o a, env, d => (ev cf o env d).bind fun x d => (ev cf a env d).bind fun y d => .of (opMe m x [y]) d
  | .ix a b, env, d => (ev cf a env d).bind fun x d => (ev cf b env d).bind fun y d => .of (opIx x y) d
  | .sl a lo hi, env, d => (ev cf a env d).bind fun x d =>
      (ev cf lo env d).bind fun y d => (Res.of (part lo y) d).bind fun l d => (ev cf hi env d).bind fun z d => (Res.of (part hi z) d).bind fun h d => .of (opSl x l h) d
  | .rev a, env, d => (ev cf a env d).bind fun x d => .of (opRev x) d
  | .rng1 a, env, d => (ev cf a env d).bind fun x d => match x with
    | .int n => if smallR 0 n then .ok (.lst (rangeL 0 n)) d else .bad
    | _ => .bad
  | .rng2 a b, env, d => (ev cf a env d).bind fun x d => (ev cf b env d).bind fun y d => match x, y with
    | .int m, .int n => if smallR m n then .ok (.lst (rangeL m n)) d else .bad
    | _, _ => .bad
  | .enum a, env, d => (ev cf a env d).bind fun x d => .of ((items x).map fun l => .lst (enumL 0 l)) d
  | .zip a b, env, d => (ev cf a env d).bind fun x d => (ev cf b env d).bind fun y d => .of ((items x).bind fun l => (items y).map fun m => .lst (zipL l m)) d
  | .trng a, env, d => (ev cf a env d).bind fun x d => match x with
    | .int n => if smallR 0 n then .ok (.tup (rangeL 0 n)) d else .bad
    | _ => .bad
  | .lenum a, env, d => (ev cf a env d).bind fun x d => .of ((items x).bind fun l => if l.length ≤ lim then some (.lst (enumL 0 l)) else none) d
  | .ssort a, env, d => (ev cf a env d).bind fun x d => match x with
    | .lst xs => .of (ssortO xs) d
    | _ => .bad
  | .lc elt tg it own, env, d => (ev cf it env d).bind fun x d => match items x with
    | none => .bad
    | some l => if l.length ≤ lim then (lcLoop (fun y => asg tg y (env.wipe own)) (fun env d => (ev cf elt env d).bind fun y d => .ok (some y) d) l d).bind fun ys d => .ok (.lst ys) d else .bad
  | .lcif elt tg it c own, env, d => (ev cf it env d).bind fun x d => match items x with
    | none => .bad
    | some l => if l.length ≤ lim then (lcLoop (fun y => asg tg y (env.wipe own)) (fun env d => (ev cf c env d).bind fun b d => match truth b with
        | some true => (ev cf elt env d).bind fun y d => .ok (some y) d
        | some false => .ok none d
        | none => .bad) l d).bind fun ys d => .ok (.lst ys) d else .bad
  | .lc2 elt tg1 it1 tg2 it2 own own2, env, d => (ev cf it1 env d).bind fun x d => match items x with
    | none => .bad
    | some l => if l.length ≤ 1000 then (lcLoop2 (fun y => asg tg1 y (env.wipe own)) (fun env d => (ev cf it2 env d).bind fun x2 d => match items x2 with
        | none => .bad
        | some l2 => if l2.length ≤ 1000 then lcLoop (fun y => asg tg2 y (env.wipe own2)) (fun env d => (ev cf elt env d).bind fun y d => .ok (some y) d) l2 d else .bad) l d).bind fun ys d => .ok (.lst ys) d else .bad
  | .dget kvs e, env, d => (ev cf e env d).bind fun x d => match x with
    | .str s => .of (lookS s kvs) d
    | _ => .bad
  | .dgets kvs e, env, d => (ev cf e env d).bind fun x d => match x with
    | .str s => .of (lookSS s kvs) d
    | _ => .bad
  | .oix i e, env, d => (ev cf e env d).bind fun y d => .of ((env.getO i).bind fun xs => opIx (.lst xs) y) d
  | .oit i, env, d => .of ((env.getO i).map .lst) d
  | .olen i, env, d => .of ((env.getO i).map fun xs => .int xs.length) d
  | .dix i j, env, d => match env.get i with
    | some .die => if j = 0 then .ok (.int d.a) d else if j = 1 then .ok (.int d.b) d else .bad
    | _ => .bad
  | .told e, env, d => match ev cf e env d with
    | .err k d => if k < 11 then .ok (errD k) d else .bad
    | r => r
  | .fld o j, env, d => (ev cf o env d).bind fun x d => match x with
    | .obj => .of (d.k.bind fun t => fldD t j) d
    | _ => .bad
  | .mcall f o es, env, d => (ev cf o env d).bind fun x d => match x with
    | .obj => (ev cf es env d).bind fun xs d => cf f (.obj :: tups xs) d
    | _ => .bad
  | .tmp f es as, env, d => (ev cf es env d).bind fun x d => match tups x with
    | [t] => (cf 900 [t] d).bind fun _ d => match d.k with
      | none => ((ev cf as env ⟨d.a, d.b, some (t, .lst [], .lst [])⟩).bind fun xs d => cf f (.obj :: tups xs) d).noDesk
      | some _ => .bad
    | _ => .bad
  | .met e, env, d => match ev cf e env d with
    | .err k d => if k < 11 then .ok (.exc k) d else .bad
    | .ok _ d => .ok .non d
    | .bad => .bad
  | .isx j a, env, d => (ev cf a env d).bind fun x d => match x with
    | .exc k => if k < 11 ∧ j ≤ 11 then .ok (.bl (decide (k = j) || decide (j = 11))) d else .bad
    | _ => .bad
inductive Out where
  | nx (e : Env) (d : Dice) | rt (v : D) (d : Dice) | er (c : Nat) (d : Dice) | bad
def Out.then (o : Out) (f : Env → Dice → Out) : Out := match o with
  | .nx e d => f e d
  | o => o
def Res.out {α : Type} (r : Res α) (f : α → Dice → Out) : Out := match r with
  | .ok a d => f a d
  | .err c d => .er c d
  | .bad => .bad
def Out.ofE (o : Option Env) (d : Dice) : Out := match o with
  | some e => .nx e d
  | none => .bad
def forLoop (tg : E) (f : Env → Dice → Out) : List D → Env → Dice → Out
  | [], env, d => .nx env d
  | x :: r, env, d => match asg tg x env with
    | none => .bad
    | some env' => (f env' d).then fun env'' d' => forLoop tg f r env'' d'
def whileLoop (c : Env → Dice → Res D) (f : Env → Dice → Out) : Nat → Env → Dice → Out
  | 0, _, _ => .bad
  | n + 1, env, d => (c env d).out fun x d => match truth x with
    | some true => (f env d).then fun env' d' => whileLoop c f n env' d'
    | some false => .nx env d
    | none => .bad
def evS (cf : CF) : S → Env → Dice → Out
  | .nil, env, d => .nx env d
  | .seq a r, env, d => (evS cf a env d).then fun env d => evS cf r env d
  | .set tg e, env, d => (ev cf e env d).out fun x d => .ofE (asg tg x env) d
  | .own i, env, d => .ofE (env.put i (.ow [])) d
  | .par i j a b, env, d => (ev cf a env d).out fun x d => (ev cf b env d).out fun y d => .ofE ((env.put i (.sh x)).bind fun env' => env'.put j (.sh y)) d
  | .parO i j a, env, d => (ev cf a env d).out fun x d => .ofE ((env.put i (.sh x)).bind fun env' => env'.put j (.ow [])) d
  | .par3 i j l a b c, env, d => (ev cf a env d).out fun x d => (ev cf b env d).out fun y d => (ev cf c env d).out fun z d => .ofE ((env.put i (.sh x)).bind fun env' => (env'.put j (.sh y)).bind fun env'' => env''.put l (.sh z)) d
  | .nev, _, _ => .bad
  | .frz i, env, d => match env.getO i with
    | some xs => .ofE (env.put i (.sh (.lst xs))) d
    | none => .bad
  | .app i e, env, d => match env.getO i with
    | some xs => (ev cf e env d).out fun x d => if xs.length < lim then .ofE (env.put i (.ow (xs ++ [x]))) d else .bad
    | none => .bad
  | .sti i a e, env, d => (ev cf e env d).out fun x d => match env.getO i with
    | some xs => (ev cf a env d).out fun y d => match y with
      | .int k => match ixP xs.length k with
        | some j => .ofE (env.put i (.ow (xs.set j x))) d
        | none => .bad
      | _ => .bad
    | none => .bad
  | .swp i a b, env, d => (ev cf b env d).out fun y d => (ev cf a env d).out fun x d => match env.getO i, x, y with
    | some xs, .int k, .int l => match ixP xs.length k, ixP xs.length l with
      | some p, some q => .ofE (env.put i (.ow ((xs.set p (xs.getD q .non)).set q (xs.getD p .non)))) d
      | _, _ => .bad
    | _, _, _ => .bad
  | .ret e, env, d => (ev cf e env d).out fun x d => .rt x d
  | .ifs c a b, env, d => (ev cf c env d).out fun x d => match truth x with
    | some true => evS cf a env d
    | some false => evS cf b env d
    | none => .bad
  | .fors tg it b, env, d => (ev cf it env d).out fun x d => match items x with
    | some l => forLoop tg (fun env d => evS cf b env d) l env d
    | none => .bad
  | .whl n c b, env, d => whileLoop (fun env d => ev cf c env d) (fun env d => evS cf b env d) n env d
  | .ex e, env, d => (ev cf e env d).out fun _ d => .nx env d
  | .rse c, _, d => .er c d
  | .ownR i z e, env, d => (ev cf e env d).out fun x d => match x with
    | .int k => if decide (0 ≤ k) && decide (k ≤ 1000) then .ofE (env.put i (.ow (List.replicate k.toNat (.int z)))) d else .bad
    | _ => .bad
  | .aug i e, env, d => match env.get i with
    | some (.int a) => (ev cf e env d).out fun x d => match x with
      | .int b => .ofE (env.put i (.sh (.int (a + b)))) d
      | _ => .bad
    | _ => .bad
  | .dst i j e, env, d => match env.get i with
    | some .die => (ev cf e env d).out fun x d => match x with
      | .int z => if j = 0 then .nx env ⟨z, d.b, d.k⟩ else if j = 1 then .nx env ⟨d.a, z, d.k⟩ else .bad
      | _ => .bad
    | _ => .bad
  | .fst o j e, env, d => (ev cf e env d).out fun x d => (ev cf o env d).out fun y d => match y with
    | .obj => match d.k.bind fun t => fldS t x j with
      | some t => .nx env ⟨d.a, d.b, some t⟩
      | none => .bad
    | _ => .bad
  | .own1 i e, env, d => (ev cf e env d).out fun x d => .ofE (env.put i (.ow [x])) d
structure Df where
  ps : Nat
  n : Nat
  body : S
def Out.res : Out → Res D
  | .nx _ d => .ok .non d
  | .rt v d => .ok v d
  | .er c d => .err c d
  | .bad => .bad
def startE (n : Nat) (xs : List D) : Env := xs.map .sh ++ List.replicate (n - xs.length) .no
def drawn (cell k : Int) : Int :=
  let a := (cell * 6364136223846793005 + (k + 1) * 1442695040888963407).fmod 340282366920938463463374607431768211507
  let b := (a * a).fmod 340282366920938463463374607431768211297
  let c := (b.fmod 18446744073709551557 + 1) * (b.fdiv 18446744073709551557 + 1) * b
  c.fmod 340282366920938463463374607431768211507
def roll (d : Dice) (m : Int) : Int × Dice :=
  if d.a ≥ 10 ^ 18 then (d.a.fmod m, ⟨d.a.fdiv m, d.b, d.k⟩)
  else (((drawn d.a (d.b + 1)).fdiv 8).fmod m, ⟨d.a, d.b + 1, d.k⟩)
def evCall (defs : Nat → Option Df) : Nat → CF
  | 0, _, _, _ => .bad
  | k + 1, f, xs, d => match defs f with
    | some df => if xs.length = df.ps then (evS (evCall defs k) df.body (startE df.n xs) d).res else .bad
    | none => .bad
end SG
namespace SG
open PySem PySem.Spec PyProof.Rows L2
structure Cn where
  dc : Addr
  T : List (Addr × Str)
  cl : Nat → Addr
  dk : Addr
def ExT (C a : Addr) : HO := .ext fun h => ∃ (o : Obj) (vs : Array Value), h.get? a = some o ∧ Zc (.ref C) none o ∧ o.data = .fields vs
def fldN : Nat → Str
  | 0 => "now"
  | 1 => "earlier"
  | _ => "undone"
mutual
inductive Dq (dc : Cn) (F : Addr → Prop) (H : Hp) : V → D → Prop
  | non : Dq dc F H .non .non
  | bl (b : Bool) : Dq dc F H (.bl b) (.bl b)
  | int (i : Int) : Dq dc F H (.int i) (.int i)
  | str (s : List Nat) (h : ∀ c ∈ s, c < 128) : Dq dc F H (.str ⟨s.toArray⟩) (.str s)
  | tup {a : Addr} {xs : List V} {ds : List D} (h : H a = some (.tup xs)) (r : DqA dc F H xs ds) : Dq dc F H (.ref a) (.tup ds)
  | lst {a : Addr} {xs : List V} {ds : List D} (f : F a) (h : H a = some (.lst xs)) (r : DqA dc F H xs ds) : Dq dc F H (.ref a) (.lst ds)
  | die : Dq dc F H (.ref dc.dc) .die
  | exc {a : Addr} {k : Nat} (h : H a = some (ExT (dc.cl k) a)) : Dq dc F H (.ref a) (.exc k)
  | obj {a dx : Addr} {fs : List (Str × V)} (f : F a) (h : H a = some (.ins dc.dk dx fs)) : Dq dc F H (.ref a) .obj
inductive DqA (dc : Cn) (F : Addr → Prop) (H : Hp) : List V → List D → Prop
  | nil : DqA dc F H [] []
  | cons {v : V} {vs : List V} {d : D} {ds : List D} (r : Dq dc F H v d) (t : DqA dc F H vs ds) : DqA dc F H (v :: vs) (d :: ds)
end
structure Le (F : Addr → Prop) (H : Hp) (F' : Addr → Prop) (H' : Hp) : Prop where
  sub : ∀ b, F b → F' b
  lst : ∀ b xs, F b → H b = some (.lst xs) → H' b = some (.lst xs)
  tup : ∀ b xs, H b = some (.tup xs) → H' b = some (.tup xs)
  ext : ∀ b φ, H b = some (.ext φ) → H' b = some (.ext φ)
  ins : ∀ b C dx fs, F b → H b = some (.ins C dx fs) → ∃ fs', H' b = some (.ins C dx fs')
section
variable {dc : Cn} {F F' : Addr → Prop} {H H' : Hp}
mutual
theorem Dq.mono (l : Le F H F' H') : ∀ {v : V} {d : D}, Dq dc F H v d → Dq dc F' H' v d
  | _, _, .non => .non
  | _, _, .bl b => .bl b
  | _, _, .int i => .int i
  | _, _, .str s h => .str s h
  | _, _, .tup h r => .tup (l.tup _ _ h) (DqA.mono l r)
  | _, _, .lst f h r => .lst (l.sub _ f) (l.lst _ _ f h) (DqA.mono l r)
  | _, _, .die => .die
  | _, _, .exc h => .exc (l.ext _ _ h)
  | _, _, .obj f h => let ⟨_, h'⟩ := l.ins _ _ _ _ f h; .obj (l.sub _ f) h'
theorem DqA.mono (l : Le F H F' H') : ∀ {v : List V} {d : List D}, DqA dc F H v d → DqA dc F' H' v d
  | _, _, .nil => .nil
  | _, _, .cons r t => .cons (Dq.mono l r) (DqA.mono l t)
end
theorem DqA.length : ∀ {vs : List V} {ds : List D}, DqA dc F H vs ds → vs.length = ds.length
  | _, _, .nil => rfl
  | _, _, .cons _ t => by simp [DqA.length t]
theorem DqA.get : ∀ {vs : List V} {ds : List D} {i : Nat} {d : D}, DqA dc F H vs ds → ds[i]? = some d → ∃ v, vs[i]? = some v ∧ Dq dc F H v d
  | _, _, _, _, .nil, e => by simp at e
  | _, _, 0, _, .cons r _, e => by simp at e; subst e; exact ⟨_, rfl, r⟩
  | _, _, i + 1, d, .cons _ t, e => by
    obtain ⟨u, h1, h2⟩ := DqA.get (i := i) (d := d) t (by simpa using e)
    exact ⟨u, by simpa using h1, h2⟩
theorem DqA.get' : ∀ {vs : List V} {ds : List D} {i : Nat} {v : V}, DqA dc F H vs ds → vs[i]? = some v → ∃ d, ds[i]? = some d ∧ Dq dc F H v d
  | _, _, _, _, .nil, e => by simp at e
  | _, _, 0, _, .cons r _, e => by simp at e; subst e; exact ⟨_, rfl, r⟩
  | _, _, i + 1, v, .cons _ t, e => by
    obtain ⟨u, h1, h2⟩ := DqA.get' (i := i) (v := v) t (by simpa using e)
    exact ⟨u, by simpa using h1, h2⟩
theorem DqA.append : ∀ {xs ys : List V} {us ws : List D}, DqA dc F H xs us → DqA dc F H ys ws → DqA dc F H (xs ++ ys) (us ++ ws)
  | _, _, _, _, .nil, s => s
  | _, _, _, _, .cons r t, s => .cons r (DqA.append t s)
theorem DqA.take : ∀ {xs : List V} {us : List D} (n : Nat), DqA dc F H xs us → DqA dc F H (xs.take n) (us.take n)
  | _, _, 0, _ => .nil
  | _, _, _ + 1, .nil => .nil
  | _, _, n + 1, .cons r t => .cons r (DqA.take n t)
theorem DqA.drop : ∀ {xs : List V} {us : List D} (n : Nat), DqA dc F H xs us → DqA dc F H (xs.drop n) (us.drop n)
  | _, _, 0, r => r
  | _, _, _ + 1, .nil => .nil
  | _, _, n + 1, .cons _ t => DqA.drop n t
theorem DqA.set {v : V} {d : D} (r : Dq dc F H v d) : ∀ {xs : List V} {us : List D} (i : Nat), DqA dc F H xs us → DqA dc F H (xs.set i v) (us.set i d)
  | _, _, _, .nil => .nil
  | _, _, 0, .cons _ t => .cons r t
  | _, _, i + 1, .cons q t => .cons q (DqA.set r i t)
theorem DqA.rep {xs : List V} {us : List D} (h : DqA dc F H xs us) : ∀ k : Nat, DqA dc F H (List.replicate k xs).flatten (List.replicate k us).flatten
  | 0 => .nil
  | k + 1 => by rw [List.replicate_succ, List.replicate_succ, List.flatten_cons, List.flatten_cons]; exact h.append (DqA.rep h k)
theorem DqA.reverse {xs : List V} {us : List D} (h : DqA dc F H xs us) : DqA dc F H xs.reverse us.reverse := by
  have aux : ∀ (xs : List V) (us : List D) (as : List V) (bs : List D), DqA dc F H xs us → DqA dc F H as bs → DqA dc F H (xs.reverseAux as) (us.reverseAux bs) := by
    intro xs
    induction xs with
    | nil => intro us as bs h h2; cases h; exact h2
    | cons x xs ih => intro us as bs h h2; cases h with | cons r t => rename_i d ds; exact ih ds (x :: as) (d :: bs) t (.cons r h2)
  exact aux _ _ _ _ h .nil
theorem DqA.of : ∀ {vs : List V} {ds : List D}, vs.length = ds.length → (∀ (i : Nat) v d, vs[i]? = some v → ds[i]? = some d → Dq dc F H v d) → DqA dc F H vs ds
  | [], [], _, _ => .nil
  | v :: vs, d :: ds, hl, h => .cons (h 0 v d rfl rfl) (DqA.of (by simpa using hl) fun i v' d' e1 e2 => h (i + 1) v' d' (by simpa using e1) (by simpa using e2))
  | [], _ :: _, hl, _ => by simp at hl
  | _ :: _, [], hl, _ => by simp at hl
theorem DqA.snoc {vs : List V} {ds : List D} {v : V} {d : D} (h : DqA dc F H vs ds) (r : Dq dc F H v d) : DqA dc F H (vs ++ [v]) (ds ++ [d]) := h.append (.cons r .nil)
end
def Nn (H : Hp) (b : Addr) : Prop := ∀ o, H b = some o → ∃ ps, o = .tbl ps
def Kp : HO → Prop
  | .tbl _ => False
  | .ins _ _ _ => False
  | _ => True
theorem Kp.ntbl {o : HO} (h : Kp o) : ∀ ps, o ≠ .tbl ps := fun ps z => by subst z; exact h
theorem Kp.nins {o : HO} (h : Kp o) : ∀ C dx fs, o ≠ .ins C dx fs := fun C dx fs z => by subst z; exact h
theorem kp_of {o : HO} (h1 : ∀ ps, o ≠ .tbl ps) (h2 : ∀ C dx fs, o ≠ .ins C dx fs) : Kp o := by
  cases o <;> first | exact trivial | exact absurd rfl (h1 _) | exact absurd rfl (h2 _ _ _)
structure Step (c : Cn) (F : Addr → Prop) (H : Hp) (F' : Addr → Prop) (H' : Hp) : Prop where
  sub : ∀ b, F b → F' b
  new : ∀ b, F' b → F b ∨ Nn H b ∨ b = c.dc
  keep : ∀ b o, H b = some o → b ≠ c.dc → Kp o → H' b = some o
  insN : ∀ a C dx fs, a ≠ c.dc → H a = some (.ins C dx fs) → ¬ F a → H' a = some (.ins C dx fs)
  insF : ∀ a C dx fs, F a → H a = some (.ins C dx fs) → ∃ fs', H' a = some (.ins C dx fs')
structure DkOk (c : Cn) (F : Addr → Prop) (H : Hp) (d : Dice) (fs : List (Str × V)) : Prop where
  ex : ∃ (x y z : D) (vx vy vz : V), d.k = some (x, y, z) ∧ fs = [(fldN 0, vx), (fldN 1, vy), (fldN 2, vz)] ∧ Dq c F H vx x ∧ Dq c F H vy y ∧ Dq c F H vz z
structure Wf (c : Cn) (F : Addr → Prop) (H : Hp) (d : Dice) : Prop where
  dom : ∀ b, F b → (∃ xs, H b = some (.lst xs)) ∨ ∃ dx fs, H b = some (.ins c.dk dx fs)
  nd : ¬ F c.dc
  die : H c.dc = some (.lst [.int d.a, .int d.b])
  tabs : LamX.Tabs c.T H
  dsk : ∀ a C dx fs, F a → H a = some (.ins C dx fs) → DkOk c F H d fs
  one : ∀ a b C dx fs C' dx' fs', F a → H a = some (.ins C dx fs) → F b → H b = some (.ins C' dx' fs') → a = b
section
variable {c : Cn} {F F1 F2 : Addr → Prop} {H H1 H2 : Hp} {d d1 d2 : Dice}
theorem Nn.of {H : Hp} {b : Addr} (h : H b = none) : Nn H b := fun o e => by rw [h] at e; cases e
theorem Nn.not {H : Hp} {b : Addr} {xs : List V} (n : Nn H b) (h : H b = some (.lst xs)) : False := by obtain ⟨ps, e⟩ := n _ h; cases e
theorem Nn.notI {H : Hp} {b C dx : Addr} {fs : List (Str × V)} (n : Nn H b) (h : H b = some (.ins C dx fs)) : False := by obtain ⟨ps, e⟩ := n _ h; cases e
theorem Nn.ne {H : Hp} {p b : Addr} {o : HO} (n : Nn H p) (e : H b = some o) (t : ∀ ps, o ≠ .tbl ps) : b ≠ p := fun z => by subst z; obtain ⟨ps, q⟩ := n _ e; exact t ps q
theorem Le.refl : Le F H F H := ⟨fun _ h => h, fun _ _ _ h => h, fun _ _ h => h, fun _ _ h => h, fun _ _ _ fs _ h => ⟨fs, h⟩⟩
theorem Le.trans (a : Le F H F1 H1) (b : Le F1 H1 F2 H2) : Le F H F2 H2 := ⟨fun x h => b.sub x (a.sub x h), fun x xs f e => b.lst x xs (a.sub x f) (a.lst x xs f e), fun x xs e => b.tup x xs (a.tup x xs e), fun x φ e => b.ext x φ (a.ext x φ e), fun x C dx fs f e => by
  obtain ⟨fs', e'⟩ := a.ins x C dx fs f e
  exact b.ins x C dx fs' (a.sub x f) e'⟩
theorem Step.refl : Step c F H F H := ⟨fun _ h => h, fun _ h => .inl h, fun _ _ h _ _ => h, fun _ _ _ _ _ h _ => h, fun _ _ _ fs _ h => ⟨fs, h⟩⟩
theorem Step.back {x : Addr} (s : Step c F H F1 H1) (n : x ≠ c.dc) (z : Nn H1 x) : Nn H x := fun o e => by
  cases o with
  | tbl ps => exact ⟨ps, rfl⟩
  | ins C dx fs =>
    exfalso
    by_cases f : F x
    · obtain ⟨fs', e'⟩ := s.insF x C dx fs f e
      exact z.notI e'
    · exact z.notI (s.insN x C dx fs n e f)
  | _ =>
    have e' := s.keep x _ e n trivial
    obtain ⟨ps, q⟩ := z _ e'
    cases q
theorem Step.trans (a : Step c F H F1 H1) (b : Step c F1 H1 F2 H2) : Step c F H F2 H2 :=
  ⟨fun x h => b.sub x (a.sub x h), fun x h => (b.new x h).elim (fun z => a.new x z) (fun z => .inr (if hx : x = c.dc then .inr hx else .inl (a.back hx (z.elim id fun q => absurd q hx)))), fun x o h n t => b.keep x o (a.keep x o h n t) n t,
    fun x C dx fs n h nf => b.insN x C dx fs n (a.insN x C dx fs n h nf) fun z => (a.new x z).elim nf fun z => z.elim (fun z => z.notI h) n,
    fun x C dx fs f h => by
      obtain ⟨fs', h'⟩ := a.insF x C dx fs f h
      exact b.insF x C dx fs' (a.sub x f) h'⟩
theorem Step.le (s : Step c F H F1 H1) (w : Wf c F H d) : Le F H F1 H1 :=
  ⟨s.sub, fun b xs f e => s.keep b _ e (fun z => w.nd (z ▸ f)) trivial, fun b xs e => s.keep b _ e (fun z => by rw [z, w.die] at e; cases e) trivial, fun b φ e => s.keep b _ e (fun z => by rw [z, w.die] at e; cases e) trivial, s.insF⟩
theorem Wf.fresh_ne (w : Wf c F H d) {p : Addr} (hp : H p = none) : p ≠ c.dc := fun z => by rw [z, w.die] at hp; cases hp
theorem Wf.fresh_F (w : Wf c F H d) {p : Addr} (hp : H p = none) : ¬ F p := fun z => by
  rcases w.dom p z with ⟨o, e⟩ | ⟨dx, fs, e⟩ <;> (rw [hp] at e; cases e)
theorem upd_keep {p : Addr} {o : HO} (hp : H p = none) : ∀ b q, H b = some q → upd H p o b = some q := fun b q e => by rw [upd_ne (ne_of_none e hp)]; exact e
theorem le_new {p : Addr} {o : HO} (hp : H p = none) : Le F H F (upd H p o) := ⟨fun _ h => h, fun b xs _ e => upd_keep hp b _ e, fun b xs e => upd_keep hp b _ e, fun b φ e => upd_keep hp b _ e, fun b C dx fs _ e => ⟨fs, upd_keep hp b _ e⟩⟩
def addF (F : Addr → Prop) (p : Addr) : Addr → Prop := fun b => F b ∨ b = p
theorem le_newF {p : Addr} {o : HO} (hp : H p = none) : Le F H (addF F p) (upd H p o) := ⟨fun _ h => .inl h, fun b xs _ e => upd_keep hp b _ e, fun b xs e => upd_keep hp b _ e, fun b φ e => upd_keep hp b _ e, fun b C dx fs _ e => ⟨fs, upd_keep hp b _ e⟩⟩
theorem DkOk.le {fs : List (Str × V)} (h : DkOk c F H d fs) (l : Le F H F1 H1) : DkOk c F1 H1 d fs := by
  obtain ⟨x, y, z, vx, vy, vz, e1, e2, q1, q2, q3⟩ := h.ex
  exact ⟨x, y, z, vx, vy, vz, e1, e2, q1.mono l, q2.mono l, q3.mono l⟩
theorem Wf.same (w : Wf c F H d) (l : Le F H F1 H1) (hn : ¬ F1 c.dc) (hd : H1 c.dc = some (.lst [.int d1.a, .int d1.b])) (hk : d1.k = d.k) (ht : LamX.Tabs c.T H1)
    (hF : ∀ b, F1 b → (F b ∧ ∀ C dx fs, H1 b = some (.ins C dx fs) → H b = some (.ins C dx fs)) ∨ ∃ xs, H1 b = some (.lst xs)) (hl : ∀ b, F b → ∀ xs, H b = some (.lst xs) → ∃ ys, H1 b = some (.lst ys)) : Wf c F1 H1 d1 := by
  have back : ∀ a C dx fs, F1 a → H1 a = some (.ins C dx fs) → F a ∧ H a = some (.ins C dx fs) := fun a C dx fs f e => by
    rcases hF a f with ⟨f', h⟩ | ⟨xs, h⟩
    · exact ⟨f', h C dx fs e⟩
    · rw [h] at e; cases e
  refine ⟨fun b f => ?_, hn, hd, ht, fun a C dx fs f e => ?_, fun a b C dx fs C' dx' fs' f e f' e' => ?_⟩
  · rcases hF b f with ⟨f', h⟩ | h
    · rcases w.dom b f' with ⟨xs, e⟩ | ⟨dx, fs, e⟩
      · exact .inl (hl b f' xs e)
      · obtain ⟨fs', e'⟩ := l.ins b _ dx fs f' e
        exact .inr ⟨dx, fs', e'⟩
    · exact .inl h
  · obtain ⟨f', e'⟩ := back a C dx fs f e
    obtain ⟨x, y, z, vx, vy, vz, e1, e2, q1, q2, q3⟩ := (w.dsk a C dx fs f' e').ex
    exact ⟨x, y, z, vx, vy, vz, hk.trans e1, e2, q1.mono l, q2.mono l, q3.mono l⟩
  · obtain ⟨g, h⟩ := back a C dx fs f e
    obtain ⟨g', h'⟩ := back b C' dx' fs' f' e'
    exact w.one a b C dx fs C' dx' fs' g h g' h'
theorem Step.new' {p : Addr} {o : HO} (hp : H p = none) : Step c F H F (upd H p o) :=
  ⟨fun _ h => h, fun _ h => .inl h, fun b q e _ _ => upd_keep hp b q e, fun a C dx fs _ h _ => upd_keep hp a _ h, fun a C dx fs _ h => ⟨fs, upd_keep hp a _ h⟩⟩
theorem Wf.new' (w : Wf c F H d) {p : Addr} {o : HO} (hp : H p = none) : Wf c F (upd H p o) d :=
  w.same (le_new hp) w.nd (upd_keep hp _ _ w.die) rfl (w.tabs.ext (upd_keep hp)) (fun b f => .inl ⟨f, fun C dx fs e => by rw [upd_ne (show b ≠ p from fun z => w.fresh_F hp (z ▸ f))] at e; exact e⟩) fun b f xs e => ⟨xs, upd_keep hp b _ e⟩
theorem Step.newF {p : Addr} {o : HO} (hp : H p = none) : Step c F H (addF F p) (upd H p o) :=
  ⟨fun _ h => .inl h, fun b h => h.elim .inl fun z => .inr (.inl (.of (z ▸ hp))), fun b q e _ _ => upd_keep hp b q e, fun a C dx fs _ h _ => upd_keep hp a _ h, fun a C dx fs _ h => ⟨fs, upd_keep hp a _ h⟩⟩
theorem Wf.newF (w : Wf c F H d) {p : Addr} {xs : List V} (hp : H p = none) : Wf c (addF F p) (upd H p (.lst xs)) d :=
  w.same (le_newF hp) (fun z => z.elim w.nd fun e => w.fresh_ne hp e.symm) (upd_keep hp _ _ w.die) rfl (w.tabs.ext (upd_keep hp)) (fun b f => f.elim (fun f => .inl ⟨f, fun C dx fs e => by rw [upd_ne (show b ≠ p from fun z => w.fresh_F hp (z ▸ f))] at e; exact e⟩) fun z => .inr ⟨xs, by rw [z, upd_same]⟩) fun b f xs e => ⟨xs, upd_keep hp b _ e⟩
theorem Step.updN (s : Step c F H F1 H1) {p : Addr} {ys : List V} (hp : Nn H p) : Step c F H F1 (upd H1 p (.lst ys)) :=
  ⟨s.sub, s.new, fun b o e n t => by rw [upd_ne (hp.ne e t.ntbl)]; exact s.keep b o e n t, fun a C dx fs n e f => by rw [upd_ne (hp.ne e (by intro ps z; cases z))]; exact s.insN a C dx fs n e f,
    fun a C dx fs f e => by
      obtain ⟨fs', e'⟩ := s.insF a C dx fs f e
      exact ⟨fs', by rw [upd_ne (hp.ne e (by intro ps z; cases z))]; exact e'⟩⟩
theorem Step.frz (s : Step c F H F1 H1) {p : Addr} (hp : Nn H p) : Step c F H (addF F1 p) H1 :=
  ⟨fun b h => .inl (s.sub b h), fun b h => h.elim (s.new b) fun z => .inr (.inl (z ▸ hp)), s.keep, s.insN, s.insF⟩
theorem le_add {p : Addr} : Le F H (addF F p) H := ⟨fun _ h => .inl h, fun _ _ _ h => h, fun _ _ h => h, fun _ _ h => h, fun _ _ _ fs _ h => ⟨fs, h⟩⟩
theorem Step.all (h : ∀ b o, H b = some o → (∀ ps, o ≠ .tbl ps) → H1 b = some o) : Step c F H F H1 :=
  ⟨fun _ h => h, fun _ h => .inl h, fun b o e _ t => h b o e t.ntbl, fun a C dx fs _ e _ => h a _ e (by intro ps z; cases z), fun a C dx fs _ e => ⟨fs, h a _ e (by intro ps z; cases z)⟩⟩
theorem Wf.all (w : Wf c F H d) (h : ∀ b o, H b = some o → (∀ ps, o ≠ .tbl ps) → H1 b = some o) (ht : LamX.Tabs c.T H1) : Wf c F H1 d := by
  have st : Step c F H F H1 := .all h
  refine w.same (st.le w) w.nd (h _ _ w.die (by intro ps z; cases z)) rfl ht (fun b f => .inl ⟨f, fun C dx fs e => ?_⟩) fun b f xs e => ⟨xs, h b _ e (by intro ps z; cases z)⟩
  rcases w.dom b f with ⟨xs, e'⟩ | ⟨dx', fs', e'⟩
  · rw [h b _ e' (by intro ps z; cases z)] at e; cases e
  · rw [h b _ e' (by intro ps z; cases z)] at e; cases e; exact e'
def dropI (F : Addr → Prop) (H : Hp) : Addr → Prop := fun b => F b ∧ ∃ xs, H b = some (.lst xs)
theorem Wf.drop (w : Wf c F H d) : Wf c (dropI F H) H ⟨d.a, d.b, none⟩ :=
  ⟨fun b f => .inl f.2, fun f => w.nd f.1, w.die, w.tabs, fun a C dx fs f e => (by obtain ⟨_, xs, e'⟩ := f; rw [e'] at e; cases e), fun a b C dx fs C' dx' fs' f e => (by obtain ⟨_, xs, e'⟩ := f; rw [e'] at e; cases e)⟩
theorem Step.drop (s : Step c F H F1 H1) (w : Wf c F H d) (h : ∀ b, F b → ∃ xs, H b = some (.lst xs)) : Step c F H (dropI F1 H1) H1 :=
  ⟨fun b f => by
    obtain ⟨xs, e⟩ := h b f
    exact ⟨s.sub b f, xs, s.keep b _ e (fun z => w.nd (z ▸ f)) trivial⟩, fun b f => s.new b f.1, s.keep, s.insN, s.insF⟩
theorem Wf.frz (w : Wf c F H d) {p : Addr} {xs : List V} (hp : H p = some (.lst xs)) (nd : p ≠ c.dc) : Wf c (addF F p) H d :=
  w.same ⟨fun _ h => .inl h, fun _ _ _ e => e, fun _ _ e => e, fun _ _ e => e, fun _ _ _ fs _ e => ⟨fs, e⟩⟩ (fun z => z.elim w.nd fun e => nd e.symm) w.die rfl w.tabs (fun b f => f.elim (fun f => .inl ⟨f, fun _ _ _ e => e⟩) fun z => .inr ⟨xs, z ▸ hp⟩) fun b f xs e => ⟨xs, e⟩
theorem Wf.updL (w : Wf c F H d) {p : Addr} {xs ys : List V} (hp : H p = some (.lst xs)) (nf : ¬ F p) (nd : p ≠ c.dc) (l : Le F H F (upd H p (.lst ys))) (ht : LamX.Tabs c.T (upd H p (.lst ys))) : Wf c F (upd H p (.lst ys)) d :=
  w.same l w.nd (by rw [upd_ne (Ne.symm nd)]; exact w.die) rfl ht (fun b f => .inl ⟨f, fun C dx fs e => by rw [upd_ne (show b ≠ p from fun z => nf (z ▸ f))] at e; exact e⟩) fun b f zs e => ⟨zs, by rw [upd_ne (show b ≠ p from fun z => nf (z ▸ f))]; exact e⟩
theorem Dq.newT (w : Wf c F H d) {p : Addr} {xs : List V} {ds : List D} (hp : H p = none) (r : DqA c F H xs ds) : Dq c F (upd H p (.tup xs)) (.ref p) (.tup ds) := .tup upd_same (r.mono (le_new hp))
theorem Dq.newL (w : Wf c F H d) {p : Addr} {xs : List V} {ds : List D} (hp : H p = none) (r : DqA c F H xs ds) : Dq c (addF F p) (upd H p (.lst xs)) (.ref p) (.lst ds) := .lst (.inr rfl) upd_same (r.mono (le_newF hp))
end
def Aft (c : Cn) (F : Addr → Prop) (H : Hp) (d : Dice) (x : D) (Q : VK) : Prop := ∀ v H' F', Step c F H F' H' → Wf c F' H' d → Dq c F' H' v x → Q v H'
section
variable {c : Cn} {F : Addr → Prop} {H : Hp} {d : Dice} {Q : VK}
theorem Aft.here {x : D} {v : V} (a : Aft c F H d x Q) (w : Wf c F H d) (r : Dq c F H v x) : Q v H := a v H F .refl w r
theorem Aft.newT {xs : List V} {ds : List D} (a : Aft c F H d (.tup ds) Q) (w : Wf c F H d) (r : DqA c F H xs ds) : ∀ p, H p = none → Q (.ref p) (upd H p (.tup xs)) := fun p hp => a _ _ F (.new' hp) (w.new' hp) (.newT w hp r)
theorem Aft.newL {xs : List V} {ds : List D} (a : Aft c F H d (.lst ds) Q) (w : Wf c F H d) (r : DqA c F H xs ds) : ∀ p, H p = none → Q (.ref p) (upd H p (.lst xs)) := fun p hp => a _ _ (addF F p) (.newF hp) (w.newF hp) (.newL w hp r)
end
theorem lim_line : lim ≤ sizeLine := by rw [sizeLine_eq]; decide
mutual
theorem dep_py : ∀ {x : D}, x.dep ≤ 64 → x.py.depth = x.dep
  | .non, _ => by simp [D.py, D.dep, PyData.depth]
  | .bl _, _ => by simp [D.py, D.dep, PyData.depth]
  | .int _, _ => by simp [D.py, D.dep, PyData.depth]
  | .str _, _ => by simp [D.py, D.dep, PyData.depth]
  | .die, h => by simp [D.dep] at h
  | .exc _, h => by simp [D.dep] at h
  | .obj, h => by simp [D.dep] at h
  | .tup xs, h => by
    have h' : D.deps xs ≤ 64 := by simp [D.dep] at h; omega
    simp [D.py, D.dep, PyData.depth, deps_py h']
  | .lst xs, h => by
    have h' : D.deps xs ≤ 64 := by simp [D.dep] at h; omega
    simp [D.py, D.dep, PyData.depth, deps_py h']
theorem deps_py : ∀ {xs : List D}, D.deps xs ≤ 64 → PyData.depthAll (D.pys xs) = D.deps xs
  | [], _ => by simp [D.pys, D.deps, PyData.depthAll]
  | x :: xs, h => by
    have h' : D.dep x ≤ 64 ∧ D.deps xs ≤ 64 := by simp [D.deps] at h; omega
    simp [D.pys, D.deps, PyData.depthAll, dep_py h'.1, deps_py h'.2]
end
mutual
theorem eq_py : ∀ (x y : D), x.dep ≤ 64 → y.dep ≤ 64 → PyData.eqv x.py y.py = D.eq x y
  | .die, _, h, _ => by simp [D.dep] at h
  | .exc _, _, h, _ => by simp [D.dep] at h
  | .obj, _, h, _ => by simp [D.dep] at h
  | .non, y, _, h => by cases y <;> simp_all [D.py, D.eq, PyData.eqv, D.dep]
  | .bl _, y, _, h => by cases y <;> simp_all [D.py, D.eq, PyData.eqv, D.dep]
  | .int _, y, _, h => by cases y <;> simp_all [D.py, D.eq, PyData.eqv, D.dep]
  | .str s, y, _, h => by
    cases y with
    | str t =>
      simp only [D.py, D.eq, PyData.eqv]
      by_cases e : s = t
      · subst e; simp
      · rw [beq_eq_false_iff_ne.mpr e, beq_eq_false_iff_ne]
        intro z
        have z' := congrArg (fun a : Str => a.cps.toList) z
        exact e (by simpa using z')
    | _ => simp_all [D.py, D.eq, PyData.eqv, D.dep]
  | .tup xs, y, h0, h => by
    have h' : D.deps xs ≤ 64 := by simp [D.dep] at h0; omega
    cases y with
    | tup ys =>
      have h2 : D.deps ys ≤ 64 := by simp [D.dep] at h; omega
      simp [D.py, D.eq, PyData.eqv, eqs_py xs ys h' h2]
    | _ => simp_all [D.py, D.eq, PyData.eqv, D.dep]
  | .lst xs, y, h0, h => by
    have h' : D.deps xs ≤ 64 := by simp [D.dep] at h0; omega
    cases y with
    | lst ys =>
      have h2 : D.deps ys ≤ 64 := by simp [D.dep] at h; omega
      simp [D.py, D.eq, PyData.eqv, eqs_py xs ys h' h2]
    | _ => simp_all [D.py, D.eq, PyData.eqv, D.dep]
theorem eqs_py : ∀ (xs ys : List D), D.deps xs ≤ 64 → D.deps ys ≤ 64 → PyData.eqvAll (D.pys xs) (D.pys ys) = D.eqs xs ys
  | [], [], _, _ => by simp [D.pys, D.eqs, PyData.eqvAll]
  | x :: xs, [], _, _ => by simp [D.pys, D.eqs, PyData.eqvAll]
  | [], y :: ys, _, _ => by simp [D.pys, D.eqs, PyData.eqvAll]
  | x :: xs, y :: ys, h, h2 => by
    have h' : D.dep x ≤ 64 ∧ D.deps xs ≤ 64 := by simp [D.deps] at h; omega
    have h2' : D.dep y ≤ 64 ∧ D.deps ys ≤ 64 := by simp [D.deps] at h2; omega
    simp [D.pys, D.eqs, PyData.eqvAll, eq_py x y h'.1 h2'.1, eqs_py xs ys h'.2 h2'.2]
end
theorem strOk_ascii {s : List Nat} (h : ∀ c ∈ s, c < 128) : PyData.strOk ⟨s.toArray⟩ = true := by
  unfold PyData.strOk
  rw [Array.all_eq_true']
  intro x hx
  have := h x (by simpa using hx)
  exact decide_eq_true (by omega)
section
variable {dc : Cn} {F : Addr → Prop} {H : Hp} {K : PySem.W.Frag}
mutual
theorem Dq.dp : ∀ {v : V} {x : D}, Dq dc F H v x → x.dep ≤ 64 → Dp K H v x.py
  | _, _, .non, _ => .non
  | _, _, .bl b, _ => .bl b
  | _, _, .int i, _ => .int i
  | _, _, .str s h, _ => .str _
  | _, .tup ds, .tup h r, g => .tup (SqT.of h) (DqA.dp r (by simp [D.dep] at g; omega))
  | _, .lst ds, .lst f h r, g => .lst (SqL.of h) (DqA.dp r (by simp [D.dep] at g; omega))
  | _, _, .die, g => by simp [D.dep] at g
  | _, _, .exc _, g => by simp [D.dep] at g
  | _, _, .obj _ _, g => by simp [D.dep] at g
theorem DqA.dp : ∀ {v : List V} {x : List D}, DqA dc F H v x → D.deps x ≤ 64 → DpAll K H v (D.pys x)
  | _, _, .nil, _ => .nil
  | _, d :: ds, .cons r t, g => .cons (Dq.dp r (by simp [D.deps] at g; omega)) (DqA.dp t (by simp [D.deps] at g; omega))
end
mutual
theorem Dq.lay : ∀ {v : V} {x : D}, Dq dc F H v x → x.dep ≤ 64 → x.py.canLay0 = true
  | _, _, .non, _ => by simp [D.py, PyData.canLay0]
  | _, _, .bl b, _ => by simp [D.py, PyData.canLay0]
  | _, _, .int i, _ => by simp [D.py, PyData.canLay0]
  | _, _, .str s h, _ => by simp [D.py, PyData.canLay0, strOk_ascii h]
  | _, .tup ds, .tup h r, g => by simp [D.py, PyData.canLay0, DqA.lay r (by simp [D.dep] at g; omega)]
  | _, .lst ds, .lst f h r, g => by simp [D.py, PyData.canLay0, DqA.lay r (by simp [D.dep] at g; omega)]
  | _, _, .die, g => by simp [D.dep] at g
  | _, _, .exc _, g => by simp [D.dep] at g
  | _, _, .obj _ _, g => by simp [D.dep] at g
theorem DqA.lay : ∀ {v : List V} {x : List D}, DqA dc F H v x → D.deps x ≤ 64 → PyData.canLayAll0 (D.pys x) = true
  | _, _, .nil, _ => by simp [D.pys, PyData.canLayAll0]
  | _, d :: ds, .cons r t, g => by simp [D.pys, PyData.canLayAll0, Dq.lay r (by simp [D.deps] at g; omega), DqA.lay t (by simp [D.deps] at g; omega)]
end
theorem Dq.shaped {v : V} {x : D} (r : Dq dc F H v x) (g : x.dep ≤ 64) : SeqAt.shaped x.py = true := by
  unfold SeqAt.shaped
  rw [r.lay g, dep_py g, decide_eq_true g]; rfl
end
end SG
namespace SG
open PySem PySem.Spec PyProof.Rows L2
def R2D (c : Cn) (f : D → D → Option D) : R2 := fun x y H Q => ∃ F d a b z, Wf c F H d ∧ Dq c F H x a ∧ Dq c F H y b ∧ f a b = some z ∧ Aft c F H d z Q
theorem OpR.imp {X : Cx} {f : Value → Value → Sem Value} {r r' : R2} (h : OpR X f r) (i : ∀ x y H Q, r' x y H Q → r x y H Q) : OpR X f r' := fun pins s σ H x y v u Q I rx ry q => h pins s σ H x y v u Q I rx ry (i x y H Q q)
section
variable {X : Cx} {c : Cn}
theorem small_log {i : Int} (h : smallI i = true) : i.natAbs.log2 < 8000 := PySem.Flt.log2_lt_of (by decide) (of_decide_eq_true h)
theorem op_fdivX : OpR X (binaryOp .FloorDiv) (rI (fun _ j => j ≠ 0 ∧ j.natAbs.log2 < 9000) fun i j => .int (i.fdiv j)) := opI fun _ _ _ _ _ _ _ hc q => floordiv_int hc.1 q (.inl (PyProof.noPylong_of_log2 hc.2))
theorem bop_sub : OpR X (binaryOp .Sub) (R2D c (opBin .sub)) := OpR.imp op_sub fun x y H Q ⟨F, d, a, b, z, w, ra, rb, e, k⟩ => by
  cases a <;> cases b <;> simp [opBin] at e
  cases ra; cases rb; subst e
  exact ⟨_, _, rfl, rfl, k.here w (.int _)⟩
theorem bop_fdiv : OpR X (binaryOp .FloorDiv) (R2D c (opBin .fdiv)) := OpR.imp op_fdivX fun x y H Q ⟨F, d, a, b, z, w, ra, rb, e, k⟩ => by
  cases a <;> cases b <;> simp [opBin] at e
  cases ra; cases rb
  obtain ⟨⟨h1, h2⟩, e⟩ := e
  subst e
  exact ⟨_, _, rfl, rfl, ⟨h1, Nat.lt_trans (small_log h2) (by decide)⟩, k.here w (.int _)⟩
theorem bop_mod : OpR X (binaryOp .Mod) (R2D c (opBin .mod)) := OpR.imp op_modN fun x y H Q ⟨F, d, a, b, z, w, ra, rb, e, k⟩ => by
  cases a <;> cases b <;> simp [opBin] at e
  cases ra; cases rb
  obtain ⟨h1, e⟩ := e
  subst e
  exact ⟨_, _, rfl, rfl, h1, k.here w (.int _)⟩
theorem bop_pow : OpR X (binaryOp .Pow) (R2D c (opBin .pow)) := OpR.imp op_pow fun x y H Q ⟨F, d, a, b, z, w, ra, rb, e, k⟩ => by
  cases a <;> cases b <;> simp [opBin] at e
  cases ra; cases rb
  obtain ⟨⟨⟨h1, h2⟩, h3⟩, e⟩ := e
  subst e
  refine ⟨_, _, rfl, rfl, ⟨h1, by omega, ?_⟩, k.here w (.int _)⟩
  exact Nat.lt_of_lt_of_le h3 (by decide)
theorem str_app (a b : List Nat) : (⟨a.toArray⟩ : Str) ++ (⟨b.toArray⟩ : Str) = ⟨(a ++ b).toArray⟩ := by
  show Str.append _ _ = _
  simp [Str.append]
theorem str_len (a : List Nat) : (⟨a.toArray⟩ : Str).length = a.length := by simp [Str.length]
theorem vec_lt {a b : List Nat} (h : ∀ c ∈ a, c < 128) (h2 : ∀ c ∈ b, c < 128) : ∀ c ∈ a ++ b, c < 128 := fun c hc => (List.mem_append.mp hc).elim (h c) (h2 c)
theorem bop_add : OpR X (binaryOp .Add) (R2D c (opBin .add)) := OpR.imp (OpR.or op_add (OpR.or op_add_str (OpR.or op_catA op_cat))) fun x y H Q ⟨F, d, a, b, z, w, ra, rb, e, k⟩ => by
  cases a <;> cases b <;> simp [opBin] at e
  · cases ra; cases rb; subst e
    exact .inl ⟨_, _, rfl, rfl, k.here w (.int _)⟩
  · cases ra with | str s h => cases rb with | str t h2 =>
    unfold mkS at e
    split at e <;> cases e
    rename_i hl
    refine .inr (.inl ⟨_, _, rfl, rfl, ?_, ?_⟩)
    · rw [str_len, str_len]; have := lim_line; rw [List.length_append] at hl; omega
    · rw [str_app]; exact k.here w (.str _ (vec_lt h h2))
  · cases ra with | tup ha r => cases rb with | tup hb r2 =>
    unfold mkT at e
    split at e <;> cases e
    rename_i hl
    rw [List.length_append, ← r.length, ← r2.length] at hl
    refine .inr (.inr (.inl ⟨_, _, _, _, rfl, rfl, SqT.of ha, SqT.of hb, ?_, fun z => ?_, fun _ z => ?_, fun _ _ => ?_⟩))
    · have := lim_line; omega
    · subst z; cases r; exact k.here w (.tup hb r2)
    · subst z; cases r2; rw [List.append_nil] at k; exact k.here w (.tup ha r)
    · exact k.newT w (r.append r2)
  · cases ra with | lst fa ha r => cases rb with | lst fb hb r2 =>
    unfold mkL at e
    split at e <;> cases e
    rename_i hl
    rw [List.length_append, ← r.length, ← r2.length] at hl
    refine .inr (.inr (.inr ⟨_, _, _, _, rfl, rfl, ha, hb, ?_, ?_⟩))
    · have := lim_line; omega
    · exact k.newL w (r.append r2)
theorem rep_mem {α : Type} {n : Int} {xs : List α} {x : α} (h : x ∈ rep n xs) : x ∈ xs := by
  unfold rep at h
  obtain ⟨l, hl, hx⟩ := List.mem_flatten.mp h
  rw [(List.mem_replicate.mp hl).2] at hx
  exact hx
theorem foldl_arr (a : List Nat) : ∀ (n : Nat) (b : List Nat), List.foldl (· ++ ·) b.toArray (List.replicate n a.toArray) = (b ++ (List.replicate n a).flatten).toArray
  | 0, b => by simp
  | n + 1, b => by
    rw [List.replicate_succ, List.foldl_cons, show b.toArray ++ a.toArray = (b ++ a).toArray by simp, foldl_arr a n (b ++ a), List.replicate_succ, List.flatten_cons, List.append_assoc]
theorem txt_mul {s : List Nat} {n : Int} (h : 0 ≤ n) : Txt.mul ⟨s.toArray⟩ n = ⟨(rep n s).toArray⟩ := by
  unfold Txt.mul rep
  by_cases h1 : n < 1
  · have : n = 0 := by omega
    subst this
    simp [Str.empty]
  · rw [if_neg h1]
    split
    · rename_i hc
      simp only [Bool.or_eq_true, beq_iff_eq, str_len] at hc
      rcases hc with hc | hc
      · subst hc; simp
      · have : s = [] := List.eq_nil_of_length_eq_zero hc
        subst this; simp
    · have := foldl_arr s n.toNat []
      simp only [List.nil_append] at this
      exact congrArg Str.mk this
theorem op_mulS : OpR X (binaryOp .Mult) (fun x y H Q => ∃ (s : List Nat) (n : Int), x = .str ⟨s.toArray⟩ ∧ y = .int n ∧ 0 ≤ n ∧ n ≤ 1000 ∧ s.length ≤ 1000 ∧ Q (.str ⟨(rep n s).toArray⟩) H) := by
  intro pins s σ H x y v u Q I rx ry h
  obtain ⟨a, n, rfl, rfl, h0, h1, h2, q⟩ := h
  obtain ⟨t, rfl⟩ := rx
  obtain ⟨t', rfl⟩ := ry
  refine SB.mul ⟨?_, fun g _ => ?_, fun g _ => ?_⟩ fun t' k => ?_
  · rw [decide_eq_false (by omega), decide_eq_false (by omega)]; rfl
  · rw [str_len]
    have hd : (1000 : Int) ≤ (2 ^ 63 - 1) / n := by
      refine (Int.le_ediv_iff_mul_le (by omega)).mpr ?_
      omega
    omega
  · rw [str_len]
    have : a.length * n.toNat ≤ 1000 * 1000 := Nat.mul_le_mul h2 (by omega)
    unfold Builtin.Str.tooLong
    have e := sizeLine_eq
    exact decide_eq_false (by omega)
  · rw [txt_mul h0]; exact ⟨.str _, H, I.tok _, ⟨_, rfl⟩, q⟩
open AutoSeq1 in
theorem tuple_mul1 (l : Addr) (items : Array Value) (n : Nat) (sl : Array (Option Value)) (dd : Option Addr) (u : Tok) :
    Meets (Builtin.«tuple.__mul__» ⟨[.ref l, .int 1 u], []⟩) (fun _ R s => s.heap.get? l = some { cls := .type "tuple", dict := dd, data := .seq items n, slots := sl } ∧ R (.ok (.ret (Value.ref l))) s) :=
  .of_wp fun prog w A R s h => by
    obtain ⟨hp, g, d, tk, os⟩ := s
    obtain ⟨hl, h⟩ := h
    have f1 := AutoSeq1.idx_int
    have c1 : (items.isEmpty || (1 : Int) == 1) = true := by simp
    wp_walk using wpAny_loadPart' hl
    repeat (first
      | (refine wpAny_ite_true (decide_eq_true (by exact c1)) ?_; wp_walk using wpAny_loadPart' hl)
      | (refine wpAny_ite_false (decide_eq_false (by decide)) ?_; wp_walk using wpAny_loadPart' hl))
    exact ⟨_, rfl, h⟩
theorem op_rep1 : OpR X (binaryOp .Mult) (fun x y H Q => ∃ l xs, x = .ref l ∧ y = .int 1 ∧ SqT X.K H l xs ∧ Q (.ref l) H) := by
  intro pins s σ H x y v u Q I rx ry h
  obtain ⟨l, xs, rfl, rfl, hT, q⟩ := h
  cases rx
  obtain ⟨t, rfl⟩ := ry
  obtain ⟨its, r, ⟨⟨cls, dd, data, sl⟩, ho, hc, n, hd⟩, hs⟩ := I.tuple hT
  simp only at hc hd
  subst hc hd
  refine wpAny_binaryOp_repeat_ref (T := "tuple") (U := "int") (by decide) ⟨_, ho, rfl⟩ (fun s' => typeIs_int s' 1 t) noFill_tuple_mul F.fills_int_mul F.slot_int_rmul repeat_tuple F.slot_int_index.lookup
    (call_meets F.slot_int_rmul (typeIs_int s 1 t) F.entry_int_rmul (F.args_int_rmul_2 _ _) (int_rmul_tuple 1 t l its.toArray n dd sl)
      ⟨ho, rfl, ⟨_, ho, rfl⟩, call_meets F.slot_tuple_mul ⟨_, ho, rfl⟩ F.entry_tuple_mul (F.args_tuple_mul_2 _ _) (tuple_mul1 l its.toArray n sl dd t) ⟨ho, ?_⟩⟩)
  exact ⟨.ref l, H, I, rfl, q⟩
open AutoSeq1 in
theorem tuple_mul0 (l : Addr) (items : Array Value) (n : Nat) (sl : Array (Option Value)) (dd : Option Addr) (u : Tok) (hne : items.isEmpty = false) :
    Meets (Builtin.«tuple.__mul__» ⟨[.ref l, .int 0 u], []⟩) (fun _ R s => s.heap.get? l = some { cls := .type "tuple", dict := dd, data := .seq items n, slots := sl } ∧
      R (.ok (.ret (Value.ref s.heap.objs.size))) { s with heap := s.heap.push { cls := Value.type "tuple", data := Data.seq #[] }, toks := s.toks }) :=
  .of_wp fun prog w A R s h => by
    obtain ⟨hp, g, d, tk, os⟩ := s
    obtain ⟨hl, h⟩ := h
    have f1 := AutoSeq1.idx_int
    have c1 : (items.isEmpty || (0 : Int) == 1) = false := by rw [hne]; rfl
    have c2 : (decide ((0 : Int) ≤ 0) || items.isEmpty) = true := rfl
    wp_walk using wpAny_loadPart' hl
    repeat (first
      | (refine wpAny_ite_false (decide_eq_false (by rw [c1]; exact Bool.false_ne_true)) ?_; wp_walk using wpAny_loadPart' hl)
      | (refine wpAny_ite_true (decide_eq_true (by exact c2)) ?_; wp_walk using wpAny_loadPart' hl)
      | (refine wpAny_ite_false (decide_eq_false (by decide)) ?_; wp_walk using wpAny_loadPart' hl))
    exact ⟨_, rfl, h⟩
theorem op_rep0 : OpR X (binaryOp .Mult) (fun x y H Q => ∃ l xs, x = .ref l ∧ y = .int 0 ∧ SqT X.K H l xs ∧ xs ≠ [] ∧ ∀ p, H p = none → Q (.ref p) (upd H p (.tup []))) := by
  intro pins s σ H x y v u Q I rx ry h
  obtain ⟨l, xs, rfl, rfl, hT, hne, q⟩ := h
  cases rx
  obtain ⟨t, rfl⟩ := ry
  obtain ⟨its, r, ⟨⟨cls, dd, data, sl⟩, ho, hc, n, hd⟩, hs⟩ := I.tuple hT
  simp only at hc hd
  subst hc hd
  have hle : its.length = xs.length := r.length.symm
  have hi : its.toArray.isEmpty = false := by
    cases its with
    | nil => exact absurd (List.eq_nil_of_length_eq_zero hle.symm) hne
    | cons a b => rfl
  refine wpAny_binaryOp_repeat_ref (T := "tuple") (U := "int") (by decide) ⟨_, ho, rfl⟩ (fun s' => typeIs_int s' 0 t) noFill_tuple_mul F.fills_int_mul F.slot_int_rmul repeat_tuple F.slot_int_index.lookup
    (call_meets F.slot_int_rmul (typeIs_int s 0 t) F.entry_int_rmul (F.args_int_rmul_2 _ _) (int_rmul_tuple 0 t l its.toArray n dd sl)
      ⟨ho, rfl, ⟨_, ho, rfl⟩, call_meets F.slot_tuple_mul ⟨_, ho, rfl⟩ F.entry_tuple_mul (F.args_tuple_mul_2 _ _) (tuple_mul0 l its.toArray n sl dd t hi) ⟨ho, ?_⟩⟩)
  refine ⟨.ref s.heap.objs.size, _, I.laid (t' := s.toks) (o := .tup []) (fun b ob q => Heap.get?_push_of_some _ q) (Nat.le_refl _) ?_, rfl, q _ (I.hok.fresh (Nat.le_refl _))⟩
  exact ⟨Nat.zero_le _, _, .nil, IsTup.new _ _⟩
theorem bop_mul : OpR X (binaryOp .Mult) (R2D c (opBin .mul)) := OpR.imp (OpR.or (OpR.or op_mul op_mulW) (OpR.or op_mulS (OpR.or (OpR.or (OpR.or op_rep0 op_rep1) op_repT) op_rep))) fun x y H Q ⟨F, d, a, b, z, w, ra, rb, e, k⟩ => by
  cases a <;> cases b <;> simp [opBin] at e
  · cases ra; cases rb
    obtain ⟨h0, e⟩ := e
    subst e
    unfold mulOk s64 at h0
    simp only [Bool.or_eq_true, Bool.and_eq_true, decide_eq_true_eq] at h0
    rcases h0 with h0 | ⟨h1, h2⟩
    · exact .inl (.inl ⟨_, _, rfl, rfl, h0, k.here w (.int _)⟩)
    · have a1 := small_log h1
      have a2 := small_log h2
      refine .inl (.inr ⟨_, _, rfl, rfl, ?_, k.here w (.int _)⟩)
      unfold CMulW
      omega
  · cases rb; cases ra with | str s h =>
    obtain ⟨⟨⟨h1, h2⟩, h3⟩, e⟩ := e
    subst e
    exact .inr (.inl ⟨_, _, rfl, rfl, h1, h2, h3, k.here w (.str _ fun c hc => h c (rep_mem hc))⟩)
  · cases rb; cases ra with | tup ha r =>
    obtain ⟨⟨⟨⟨h1, h2⟩, h3⟩, h4⟩, e⟩ := e
    subst e
    rename_i j _ _ _
    have hne' : ∀ {vs : List V} {ds : List D}, DqA c F H vs ds → ¬ ds = [] → vs ≠ [] := fun r h z => by
      subst z
      cases r
      simp at h
    have hne := hne' r h4
    by_cases hj0 : j = 0
    · subst hj0
      exact .inr (.inr (.inl (.inl (.inl ⟨_, _, rfl, rfl, SqT.of ha, hne, k.newT w .nil⟩))))
    by_cases hj : j = 1
    · subst hj
      refine .inr (.inr (.inl (.inl (.inr ⟨_, _, rfl, rfl, SqT.of ha, k.here w (.tup ha ?_)⟩))))
      have e1 : ∀ l : List D, rep 1 l = l := fun l => by simp [rep]
      rw [e1]
      exact r
    · refine .inr (.inr (.inl (.inr ⟨_, _, _, rfl, rfl, SqT.of ha, ?_, by omega, h2, by rw [r.length]; exact h3, k.newT w (r.rep _)⟩)))
      intro z
      subst z
      cases r
      simp at h4
  · cases rb; cases ra with | lst fa ha r =>
    obtain ⟨⟨⟨h1, h2⟩, h3⟩, e⟩ := e
    subst e
    refine .inr (.inr (.inr ⟨_, _, _, rfl, rfl, ha, by omega, by omega, ?_, k.newL w (r.rep _)⟩))
    exact Nat.le_trans (Nat.mul_le_mul (by rw [r.length]; exact h3) (by omega : _ ≤ 1000)) (by rw [sizeLine_eq]; decide)
theorem lt_py {x y : D} (h : PySem.W.alike x.py y.py = true) : D.lt x y = PySem.W.dataLt x.py y.py := by
  cases x <;> cases y <;> simp_all [D.lt, D.py, PySem.W.alike, PySem.W.dataLt_int]
theorem alike_symm_int {x y : D} (h : PySem.W.alike x.py y.py = true) : PySem.W.alike y.py x.py = true := PySem.W.alike_comm _ _ ▸ h
structure Ord (x y : D) : Prop where
  al : PySem.W.alike x.py y.py = true
  dx : x.dep ≤ 64
  dy : y.dep ≤ 64
  nn : x.py ≠ .none
theorem ord_of {x y : D} (h : D.ordB x y = true) : Ord x y := by
  unfold D.ordB at h
  simp only [Bool.and_eq_true, decide_eq_true_eq, Bool.not_eq_true'] at h
  obtain ⟨⟨⟨a, b⟩, c⟩, e⟩ := h
  refine ⟨a, b, c, ?_⟩
  cases x <;> simp_all [D.py, D.dep]
section
variable (hu : X.A.units + 66 < cLine)
include hu
theorem cop_eq : OpR X (compareOp .Eq) (R2D c fun a b => (opCmp .eq a b).map .bl) := OpR.imp (op_eqD (by omega)) fun x y H Q ⟨F, d, a, b, z, w, ra, rb, e, k⟩ => by
  simp [opCmp] at e
  obtain ⟨⟨h1, h2⟩, e⟩ := e
  subst e
  exact ⟨_, _, ra.dp h1, rb.dp h2, ra.shaped h1, rb.shaped h2, by rw [eq_py a b h1 h2]; exact k.here w (.bl _)⟩
theorem cop_ne : OpR X (compareOp .NotEq) (R2D c fun a b => (opCmp .ne a b).map .bl) := OpR.imp (op_neD (by omega)) fun x y H Q ⟨F, d, a, b, z, w, ra, rb, e, k⟩ => by
  simp [opCmp] at e
  obtain ⟨⟨h1, h2⟩, e⟩ := e
  subst e
  exact ⟨_, _, ra.dp h1, rb.dp h2, ra.shaped h1, rb.shaped h2, by rw [eq_py a b h1 h2]; exact k.here w (.bl _)⟩
theorem cop_lt : OpR X (compareOp .Lt) (R2D c fun a b => (opCmp .lt a b).map .bl) := by
  intro pins s σ H x y v u Q I rx ry ⟨F, d, a, b, z, w, ra, rb, e, k⟩
  simp [opCmp] at e
  obtain ⟨h1, e⟩ := e
  subst e
  have o := ord_of h1
  obtain ⟨as, p⟩ := Dp.reads I a.py x v (ra.dp o.dx) rx
  obtain ⟨bs, q⟩ := Dp.reads I b.py y u (rb.dp o.dy) ry
  refine PySem.W.lt_data p q o.al o.nn ?_ ⟨.bl _, H, I, rfl, ?_⟩
  · rw [dep_py o.dx, dep_py o.dy]; have := o.dx; omega
  · rw [← lt_py o.al]; exact k.here w (.bl _)
theorem cop_gt : OpR X (compareOp .Gt) (R2D c fun a b => (opCmp .gt a b).map .bl) := by
  intro pins s σ H x y v u Q I rx ry ⟨F, d, a, b, z, w, ra, rb, e, k⟩
  simp [opCmp] at e
  obtain ⟨h1, e⟩ := e
  subst e
  have o := ord_of h1
  obtain ⟨as, p⟩ := Dp.reads I a.py x v (ra.dp o.dx) rx
  obtain ⟨bs, q⟩ := Dp.reads I b.py y u (rb.dp o.dy) ry
  refine PySem.W.gt_data p q o.al o.nn ?_ ⟨.bl _, H, I, rfl, ?_⟩
  · rw [dep_py o.dx, dep_py o.dy]; have := o.dx; omega
  · rw [← lt_py (alike_symm_int o.al)]; exact k.here w (.bl _)
theorem cop_le : OpR X (compareOp .LtE) (R2D c fun a b => (opCmp .le a b).map .bl) := by
  intro pins s σ H x y v u Q I rx ry ⟨F, d, a, b, z, w, ra, rb, e, k⟩
  simp [opCmp] at e
  obtain ⟨h1, e⟩ := e
  subst e
  have o := ord_of h1
  obtain ⟨as, p⟩ := Dp.reads I a.py x v (ra.dp o.dx) rx
  obtain ⟨bs, q⟩ := Dp.reads I b.py y u (rb.dp o.dy) ry
  refine PySem.W.le_data p q o.al o.nn ?_ ⟨.bl _, H, I, rfl, ?_⟩
  · rw [dep_py o.dx, dep_py o.dy]; have := o.dx; omega
  · rw [← lt_py (alike_symm_int o.al)]; exact k.here w (.bl _)
theorem cop_ge : OpR X (compareOp .GtE) (R2D c fun a b => (opCmp .ge a b).map .bl) := by
  intro pins s σ H x y v u Q I rx ry ⟨F, d, a, b, z, w, ra, rb, e, k⟩
  simp [opCmp] at e
  obtain ⟨h1, e⟩ := e
  subst e
  have o := ord_of h1
  obtain ⟨as, p⟩ := Dp.reads I a.py x v (ra.dp o.dx) rx
  obtain ⟨bs, q⟩ := Dp.reads I b.py y u (rb.dp o.dy) ry
  refine PySem.W.ge_data p q o.al o.nn ?_ ⟨.bl _, H, I, rfl, ?_⟩
  · rw [dep_py o.dx, dep_py o.dy]; have := o.dx; omega
  · rw [← lt_py o.al]; exact k.here w (.bl _)
end
theorem flat_V {dc : Cn} {F : Addr → Prop} {H : Hp} {v : V} {x : D} (r : Dq dc F H v x) (f : flat x = true) : flatV v = true := by
  cases r <;> simp_all [flat, flatV]
theorem flat_all {dc : Cn} {F : Addr → Prop} {H : Hp} : ∀ {vs : List V} {xs : List D}, DqA dc F H vs xs → xs.all flat = true → vs.all flatV = true
  | _, _, .nil, _ => rfl
  | _, _, .cons r t, f => by
    simp only [List.all_cons, Bool.and_eq_true] at f ⊢
    exact ⟨flat_V r f.1, flat_all t f.2⟩
theorem eqV_D {dc : Cn} {F : Addr → Prop} {H : Hp} {v u : V} {x y : D} (r : Dq dc F H v x) (q : Dq dc F H u y) (f : flat x = true) (g : flat y = true) : eqV v u = D.eq x y := by
  cases r <;> cases q <;> simp_all [flat, eqV, D.eq]
  rename_i s h t h2
  by_cases e : s = t
  · subst e; simp
  · rw [beq_eq_false_iff_ne.mpr e, beq_eq_false_iff_ne]
    intro z
    exact e (by simpa using congrArg (fun a : Str => a.cps.toList) z)
theorem inV_D {dc : Cn} {F : Addr → Prop} {H : Hp} {v : V} {x : D} (r : Dq dc F H v x) (f : flat x = true) : ∀ {vs : List V} {xs : List D}, DqA dc F H vs xs → xs.all flat = true → inV v vs = xs.any fun z => D.eq z x
  | _, _, .nil, _ => rfl
  | _, _, .cons r' t, g => by
    simp only [List.all_cons, Bool.and_eq_true] at g
    have ih := inV_D r f t g.2
    unfold inV at ih ⊢
    rw [List.any_cons, List.any_cons, ih, eqV_D r' r g.1 f]
theorem pys_any {x : D} (h : x.dep ≤ 64) : ∀ {ys : List D}, D.deps ys ≤ 64 → ((D.pys ys).any fun z => PyData.eqv z x.py) = ys.any fun z => D.eq z x
  | [], _ => by simp [D.pys]
  | y :: ys, g => by
    have g' : D.dep y ≤ 64 ∧ D.deps ys ≤ 64 := by simp [D.deps] at g; omega
    rw [D.pys, List.any_cons, List.any_cons, pys_any h g'.2, eq_py y x g'.1 h]
theorem cop_in (hu : X.A.units + 66 < cLine) : OpR X (compareOp .In) (R2D c fun a b => (opCmp .inn a b).map .bl) := OpR.imp (OpR.or op_in_sign (OpR.or (op_inD (by omega)) op_in_seq)) fun x y H Q ⟨F, d, a, b, z, w, ra, rb, e, k⟩ => by
  cases b <;> simp [opCmp, inD] at e
  · rename_i t
    split at e <;> simp at e
    rename_i s ch
    cases rb
    cases ra
    refine .inl ⟨_, _, rfl, rfl, ?_⟩
    have : decide (ch ∈ (⟨t.toArray⟩ : Str).cps.toList) = decide (ch ∈ t) := by simp
    rw [this]
    rcases e with ⟨hm, e⟩ | ⟨hm, e⟩
    · subst e; rw [decide_eq_false hm]; exact k.here w (.bl _)
    · subst e; rw [decide_eq_true hm]; exact k.here w (.bl _)
  · obtain ⟨⟨h1, h2⟩, e⟩ := e
    subst e
    cases rb with | tup hb r =>
    refine .inr (.inr ⟨_, _, rfl, .inr (SqT.of hb), flat_V ra h1, flat_all r (by simpa using h2), ?_⟩)
    rw [if_neg (by decide), inV_D ra h1 r (by simpa using h2)]
    exact k.here w (.bl _)
  · obtain ⟨⟨h1, h2⟩, e⟩ := e
    subst e
    rename_i ys
    have g : (D.lst ys).dep ≤ 64 := by simp [D.dep]; omega
    refine .inr (.inl ⟨_, _, ra.dp (by omega), rb.dp g, ra.shaped (by omega), rb.shaped g, ?_⟩)
    rw [pys_any (by omega) (by omega)]
    exact k.here w (.bl _)
theorem cop_notin (hu : X.A.units + 66 < cLine) : OpR X (compareOp .NotIn) (R2D c fun a b => (opCmp .notin a b).map .bl) := OpR.imp (OpR.or op_notIn_sign (OpR.or (op_notInD (by omega)) op_notIn_seq)) fun x y H Q ⟨F, d, a, b, z, w, ra, rb, e, k⟩ => by
  cases b <;> simp [opCmp, inD] at e
  · rename_i t
    split at e <;> simp at e
    rename_i s ch
    cases rb
    cases ra
    refine .inl ⟨_, _, rfl, rfl, ?_⟩
    have : decide (ch ∈ (⟨t.toArray⟩ : Str).cps.toList) = decide (ch ∈ t) := by simp
    rw [this]
    rcases e with ⟨hm, e⟩ | ⟨hm, e⟩
    · subst e; rw [decide_eq_false hm]; exact k.here w (.bl _)
    · subst e; rw [decide_eq_true hm]; exact k.here w (.bl _)
  · obtain ⟨⟨h1, h2⟩, e⟩ := e
    subst e
    cases rb with | tup hb r =>
    refine .inr (.inr ⟨_, _, rfl, .inr (SqT.of hb), flat_V ra h1, flat_all r (by simpa using h2), ?_⟩)
    rw [if_pos rfl, inV_D ra h1 r (by simpa using h2)]
    exact k.here w (by simpa using Dq.bl _)
  · obtain ⟨⟨h1, h2⟩, e⟩ := e
    subst e
    rename_i ys
    have g : (D.lst ys).dep ≤ 64 := by simp [D.dep]; omega
    refine .inr (.inl ⟨_, _, ra.dp (by omega), rb.dp g, ra.shaped (by omega), rb.shaped g, ?_⟩)
    rw [pys_any (by omega) (by omega)]
    exact k.here w (by simpa using Dq.bl _)
end
end SG
namespace SG
open PySem PySem.Spec PyProof.Rows L2
def RLD (c : Cn) (f : List D → Option D) : List V → Hp → VK → Prop := fun xs H Q => ∃ F d as z, Wf c F H d ∧ DqA c F H xs as ∧ f as = some z ∧ Aft c F H d z Q
theorem CallR.imp {X : Cx} {f : Value} {r r' : List V → Hp → VK → Prop} (h : CallR X f r) (i : ∀ xs H Q, r' xs H Q → r xs H Q) : CallR X f r' := fun pins s σ H xs us Q I rx q => h pins s σ H xs us Q I rx (i xs H Q q)
theorem CallR.or' {X : Cx} {f : Value} {r r' : List V → Hp → VK → Prop} (h : CallR X f r) (h' : CallR X f r') : CallR X f (fun xs H Q => r xs H Q ∨ r' xs H Q) := fun pins s σ H xs us Q I rx q => q.elim (h pins s σ H xs us Q I rx) (h' pins s σ H xs us Q I rx)
section
variable {dc : Cn} {F : Addr → Prop} {H : Hp}
theorem DqA.one {vs : List V} {x : D} (r : DqA dc F H vs [x]) : ∃ v, vs = [v] ∧ Dq dc F H v x := by
  cases r with | cons r t => cases t; exact ⟨_, rfl, r⟩
theorem DqA.two {vs : List V} {x y : D} (r : DqA dc F H vs [x, y]) : ∃ v u, vs = [v, u] ∧ Dq dc F H v x ∧ Dq dc F H u y := by
  cases r with | cons r t => cases t with | cons r2 t => cases t; exact ⟨_, _, rfl, r, r2⟩
theorem DqA.bools : ∀ {vs : List V} {xs : List D} {bs : List Bool}, DqA dc F H vs xs → SG.bools xs = some bs → vs = bs.map V.bl
  | _, _, _, .nil, e => by simp [SG.bools] at e; subst e; rfl
  | _, x :: xs, bs, .cons r t, e => by
    cases x <;> simp [SG.bools] at e
    obtain ⟨b, e1, e2⟩ := e
    subst e2
    cases r
    simp [DqA.bools t e1]
theorem DqA.ints : ∀ {vs : List V} {xs : List D} {bs : List Int}, DqA dc F H vs xs → intsOf xs = some bs → vs = bs.map V.int
  | _, _, _, .nil, e => by simp [intsOf] at e; subst e; rfl
  | _, x :: xs, bs, .cons r t, e => by
    cases x <;> simp [intsOf] at e
    obtain ⟨b, e1, e2⟩ := e
    subst e2
    cases r
    simp [DqA.ints t e1]
theorem DqA.strs : ∀ {vs : List V} {xs : List D} {bs : List (List Nat)}, DqA dc F H vs xs → strsOf xs = some bs → vs = (bs.map fun s => (⟨s.toArray⟩ : Str)).map V.str ∧ ∀ s ∈ bs, ∀ c ∈ s, c < 128
  | _, _, _, .nil, e => by simp [strsOf] at e; subst e; exact ⟨rfl, by simp⟩
  | _, x :: xs, bs, .cons r t, e => by
    cases x <;> simp [strsOf] at e
    obtain ⟨b, e1, e2⟩ := e
    subst e2
    cases r with | str s h =>
    obtain ⟨h1, h2⟩ := DqA.strs t e1
    refine ⟨by rw [h1]; simp, fun s' hs => ?_⟩
    rcases List.mem_cons.mp hs with z | z
    · rw [z]; exact h
    · exact h2 s' z
end
section
variable {X : Cx} {c : Cn}
theorem bi_len : CallR X (.builtin "len") (RLD c (opBi .len)) := CallR.imp call_len fun xs H Q ⟨F, d, as, z, w, r, e, k⟩ => by
  replace e : biLen as = some z := e
  unfold biLen at e
  split at e <;> simp at e
  · obtain ⟨v, rfl, q⟩ := r.one
    obtain ⟨hl, e⟩ := e
    subst e
    cases q
    refine ⟨_, _, rfl, ⟨?_, rfl⟩, ?_⟩
    · rw [str_len]; exact Nat.le_trans hl lim_line
    · rw [str_len]; exact k.here w (.int _)
  · obtain ⟨v, rfl, q⟩ := r.one
    subst e
    cases q with | tup h r =>
    exact ⟨_, _, rfl, .inr ⟨_, SqT.of h, rfl⟩, by rw [r.length]; exact k.here w (.int _)⟩
  · obtain ⟨v, rfl, q⟩ := r.one
    subst e
    cases q with | lst f h r =>
    exact ⟨_, _, rfl, .inl ⟨_, SqL.of h, rfl⟩, by rw [r.length]; exact k.here w (.int _)⟩
theorem bi_all (hc : X.calm = true) : CallR X (.builtin "all") (RLD c (opBi .all)) := CallR.imp (cr_all hc) fun xs H Q ⟨F, d, as, z, w, r, e, k⟩ => by
  replace e : biAll as = some z := e
  unfold biAll at e
  split at e <;> simp at e
  obtain ⟨v, rfl, q⟩ := r.one
  obtain ⟨bs, e1, e2⟩ := e
  cases q with | lst f h r =>
  have := r.bools e1
  subst this
  subst e2
  exact ⟨_, bs, rfl, SqL.of h, by simpa using k.here w (.bl _)⟩
theorem bi_any (hc : X.calm = true) : CallR X (.builtin "any") (RLD c (opBi .any)) := CallR.imp (cr_any hc) fun xs H Q ⟨F, d, as, z, w, r, e, k⟩ => by
  replace e : biAny as = some z := e
  unfold biAny at e
  split at e <;> simp at e
  obtain ⟨v, rfl, q⟩ := r.one
  obtain ⟨bs, e1, e2⟩ := e
  cases q with | lst f h r =>
  have := r.bools e1
  subst this
  subst e2
  exact ⟨_, bs, rfl, SqL.of h, by simpa using k.here w (.bl _)⟩
theorem bi_sum (hc : X.calm = true) : CallR X (.builtin "sum") (RLD c (opBi .sum)) := CallR.imp (cr_sum hc) fun xs H Q ⟨F, d, as, z, w, r, e, k⟩ => by
  replace e : biSum as = some z := e
  unfold biSum at e
  split at e <;> simp at e
  obtain ⟨v, rfl, q⟩ := r.one
  obtain ⟨bs, e1, e2⟩ := e
  cases q with | lst f h r =>
  have := r.ints e1
  subst this
  subst e2
  exact ⟨_, bs, rfl, SqL.of h, k.here w (.int _)⟩
theorem bi_min2 (hc : X.calm = true) : CallR X (.builtin "min") (RLD c (opBi .min2)) := CallR.imp (call_min2 hc) fun xs H Q ⟨F, d, as, z, w, r, e, k⟩ => by
  replace e : biMin2 as = some z := e
  unfold biMin2 at e
  split at e <;> simp at e
  obtain ⟨v, u, rfl, q, q2⟩ := r.two
  subst e
  cases q; cases q2
  exact ⟨_, _, rfl, k.here w (.int _)⟩
theorem bi_max2 (hc : X.calm = true) : CallR X (.builtin "max") (RLD c (opBi .max2)) := CallR.imp (call_max2 hc) fun xs H Q ⟨F, d, as, z, w, r, e, k⟩ => by
  replace e : biMax2 as = some z := e
  unfold biMax2 at e
  split at e <;> simp at e
  obtain ⟨v, u, rfl, q, q2⟩ := r.two
  subst e
  cases q; cases q2
  exact ⟨_, _, rfl, k.here w (.int _)⟩
theorem bi_abs : CallR X (.builtin "abs") (RLD c (opBi .abs)) := CallR.imp call_abs fun xs H Q ⟨F, d, as, z, w, r, e, k⟩ => by
  replace e : biAbs as = some z := e
  unfold biAbs at e
  split at e <;> simp at e
  obtain ⟨v, rfl, q⟩ := r.one
  subst e
  cases q
  exact ⟨_, rfl, k.here w (.int _)⟩
theorem bi_int : CallR X (.type "int") (RLD c (opBi .int)) := CallR.imp call_int1 fun xs H Q ⟨F, d, as, z, w, r, e, k⟩ => by
  replace e : biInt as = some z := e
  unfold biInt at e
  split at e <;> simp at e
  · obtain ⟨v, rfl, q⟩ := r.one
    subst e
    cases q
    exact .inl ⟨_, rfl, k.here w (.int _)⟩
  · obtain ⟨v, rfl, q⟩ := r.one
    subst e
    cases q
    exact .inr ⟨_, rfl, k.here w (.int _)⟩
theorem bi_tuple : CallR X (.type "tuple") (RLD c (opBi .tuple)) := CallR.imp call_tuple_of fun xs H Q ⟨F, d, as, z, w, r, e, k⟩ => by
  replace e : biTuple as = some z := e
  unfold biTuple at e
  split at e <;> simp at e
  · obtain ⟨v, rfl, q⟩ := r.one
    subst e
    cases q with | lst f h r =>
    exact ⟨_, _, rfl, .inl ⟨SqL.of h, k.newT w r⟩⟩
  · obtain ⟨v, rfl, q⟩ := r.one
    subst e
    cases q with | tup h r =>
    exact ⟨_, _, rfl, .inr ⟨SqT.of h, k.here w (.tup h r)⟩⟩
theorem cr_list_str (hc : X.calm = true) : CallR X (.type "list") (fun xs H Q => ∃ z : List Nat, xs = [.str ⟨z.toArray⟩] ∧ z.length ≤ sizeLine ∧ ∀ p, H p = none → Q (.ref p) (upd H p (.lst (z.map fun ch => V.str ⟨#[ch]⟩)))) := by
  intro pins s σ H xs us Q I r h
  obtain ⟨z, rfl, hz, q⟩ := h
  obtain ⟨u, rfl, tk, rfl⟩ := vals1 r
  refine PySem.call_list_str (I.ok.hd hc) ⟨z.toArray⟩ tk (fun h' t' acc n kp e hacc => ?_) (by show z.toArray.size ≤ sizeLine; rw [List.size_toArray]; exact hz)
  have hsz : acc.size = z.length := by rw [hacc.1]; show z.toArray.size = _; rw [List.size_toArray]
  refine ⟨.ref s.heap.objs.size, _, I.laid (t' := t') kp (Nat.le_refl _) (show ObjOk X.prog X.w _ h' _ (.lst (z.map fun ch => V.str ⟨#[ch]⟩)) from ⟨by rw [List.length_map]; exact hz, acc.toList, n, ?_, by rw [Array.toArray_toList]; exact e⟩), rfl, q _ (I.hok.fresh (Nat.le_refl _))⟩
  refine vals_of_at (by rw [List.length_map]; have := hsz; simp only [← Array.length_toList] at this; omega) fun i x v h1 h2 => ?_
  rw [List.getElem?_map] at h1
  cases e1 : z[i]? with
  | none => rw [e1] at h1; cases h1
  | some ch =>
    rw [e1] at h1
    cases h1
    have := hacc.2 i v (by rw [← Array.getElem?_toList]; exact h2)
    obtain ⟨c2, t2, e2, rfl⟩ := this
    have e3 : z[i]? = some c2 := by simpa using e2
    rw [e1] at e3
    cases e3
    exact ⟨t2, rfl⟩
theorem DqA.signs {dc : Cn} {F : Addr → Prop} {H : Hp} : ∀ {z : List Nat}, (∀ ch ∈ z, ch < 128) → DqA dc F H (z.map fun ch => V.str ⟨#[ch]⟩) (z.map fun ch => D.str [ch])
  | [], _ => .nil
  | ch :: z, h => .cons (.str [ch] fun q hq => h q (by rw [List.mem_singleton] at hq; rw [hq]; exact List.mem_cons_self)) (DqA.signs fun q hq => h q (List.mem_cons_of_mem _ hq))
theorem bi_list (hc : X.calm = true) : CallR X (.type "list") (RLD c (opBi .list)) := CallR.imp (CallR.or' call_list_of (cr_list_str hc)) fun xs H Q ⟨F, d, as, z, w, r, e, k⟩ => by
  replace e : biList as = some z := e
  unfold biList at e
  split at e <;> simp at e
  · obtain ⟨v, rfl, q⟩ := r.one
    subst e
    cases q with | lst f h r =>
    exact .inl ⟨_, _, rfl, .inl (SqL.of h), k.newL w r⟩
  · obtain ⟨v, rfl, q⟩ := r.one
    subst e
    cases q with | tup h r =>
    exact .inl ⟨_, _, rfl, .inr (SqT.of h), k.newL w r⟩
  · obtain ⟨v, rfl, q⟩ := r.one
    obtain ⟨hl, e⟩ := e
    subst e
    cases q with | str s hs =>
    exact .inr ⟨_, rfl, Nat.le_trans hl lim_line, k.newL w (DqA.signs hs)⟩
mutual
theorem py_inj : ∀ {x y : D}, x.dep ≤ 64 → y.dep ≤ 64 → x.py = y.py → x = y
  | .die, _, h, _, _ => by simp [D.dep] at h
  | .exc _, _, h, _, _ => by simp [D.dep] at h
  | .obj, _, h, _, _ => by simp [D.dep] at h
  | .non, y, _, h, e => by cases y <;> simp_all [D.py, D.dep]
  | .bl _, y, _, h, e => by cases y <;> simp_all [D.py, D.dep]
  | .int _, y, _, h, e => by cases y <;> simp_all [D.py, D.dep]
  | .str _, y, _, h, e => by cases y <;> simp_all [D.py, D.dep]
  | .tup xs, y, h0, h, e => by
    cases y <;> simp_all [D.py, D.dep]
    rename_i ys
    exact pys_inj (by omega) (by omega) e
  | .lst xs, y, h0, h, e => by
    cases y <;> simp_all [D.py, D.dep]
    rename_i ys
    exact pys_inj (by omega) (by omega) e
theorem pys_inj : ∀ {x y : List D}, D.deps x ≤ 64 → D.deps y ≤ 64 → D.pys x = D.pys y → x = y
  | [], [], _, _, _ => rfl
  | [], y :: ys, _, _, e => by simp [D.pys] at e
  | x :: xs, [], _, _, e => by simp [D.pys] at e
  | x :: xs, y :: ys, h, h2, e => by
    simp [D.pys] at e
    simp [D.deps] at h h2
    rw [py_inj (by omega) (by omega) e.1, pys_inj (by omega) (by omega) e.2]
end
theorem pys_map : ∀ xs : List D, D.pys xs = xs.map D.py
  | [] => by simp [D.pys]
  | x :: xs => by simp [D.pys, pys_map xs]
theorem ordAll_get {xs : List D} (h : ordAll xs = true) {x y : D} (hx : x ∈ xs) (hy : y ∈ xs) : Ord x y := by
  unfold ordAll at h
  exact ord_of (List.all_eq_true.mp (List.all_eq_true.mp h x hx) y hy)
theorem deps_le {n : Nat} : ∀ {xs : List D}, (∀ x ∈ xs, x.dep ≤ n) → D.deps xs ≤ n
  | [], _ => by simp [D.deps]
  | x :: xs, h => by
    have h1 := h x (by simp)
    have h2 := deps_le (xs := xs) fun y hy => h y (by simp [hy])
    simp [D.deps]; omega
theorem ordAll_dep {xs : List D} (h : ordAll xs = true) : D.deps xs ≤ 64 := deps_le fun x hx => (ordAll_get h hx hx).dx
theorem ordAll_alike {xs : List D} (h : ordAll xs = true) : PySem.W.AlikeAll (D.pys xs) := by
  rw [pys_map]
  refine ⟨fun a ha b hb => ?_, fun a ha => ?_⟩
  · obtain ⟨x, hx, rfl⟩ := List.mem_map.mp ha
    obtain ⟨y, hy, rfl⟩ := List.mem_map.mp hb
    exact (ordAll_get h hx hy).al
  · obtain ⟨x, hx, rfl⟩ := List.mem_map.mp ha
    exact (ordAll_get h hx hx).nn
theorem least_mem : ∀ (xs : List D) (x : D), least x xs ∈ x :: xs
  | [], x => by simp [least]
  | y :: r, x => by
    have := least_mem r (if D.lt y x then y else x)
    unfold least
    rcases List.mem_cons.mp this with h | h
    · rw [h]; split <;> simp
    · simp [h]
theorem most_mem : ∀ (xs : List D) (x : D), most x xs ∈ x :: xs
  | [], x => by simp [most]
  | y :: r, x => by
    have := most_mem r (if D.lt x y then y else x)
    unfold most
    rcases List.mem_cons.mp this with h | h
    · rw [h]; split <;> simp
    · simp [h]
theorem mem_pick {p : Bool} {a x y : D} {r : List D} (h : a ∈ (if p = true then y else x) :: r) : a ∈ x :: y :: r := by
  rcases List.mem_cons.mp h with h | h
  · rw [h]; split <;> simp
  · simp [h]
theorem least_py : ∀ (xs : List D) (x : D), (∀ a ∈ x :: xs, ∀ b ∈ x :: xs, PySem.W.alike a.py b.py = true) → (least x xs).py = PySem.W.minD x.py (D.pys xs)
  | [], x, _ => by simp [least, D.pys, PySem.W.minD]
  | y :: r, x, h => by
    unfold least
    have e : D.lt y x = PySem.W.dataLt y.py x.py := lt_py (h y (by simp) x (by simp))
    rw [least_py r _ (fun a ha b hb => h a (mem_pick ha) b (mem_pick hb)), D.pys]
    unfold PySem.W.minD
    rw [List.foldl_cons, e]
    congr 1
    split <;> simp_all
theorem most_py : ∀ (xs : List D) (x : D), (∀ a ∈ x :: xs, ∀ b ∈ x :: xs, PySem.W.alike a.py b.py = true) → (most x xs).py = PySem.W.maxD x.py (D.pys xs)
  | [], x, _ => by simp [most, D.pys, PySem.W.maxD]
  | y :: r, x, h => by
    unfold most
    have e : D.lt x y = PySem.W.dataLt x.py y.py := lt_py (h x (by simp) y (by simp))
    rw [most_py r _ (fun a ha b hb => h a (mem_pick ha) b (mem_pick hb)), D.pys]
    unfold PySem.W.maxD
    rw [List.foldl_cons, e]
    congr 1
    split <;> simp_all
theorem list_get {xs : List D} {i : Nat} (h : i < (D.pys xs).length) : ∃ x, xs[i]? = some x ∧ (D.pys xs)[i]? = some x.py := by
  rw [pys_map] at h ⊢
  rw [List.length_map] at h
  exact ⟨xs[i], by simp [h], by simp [h]⟩
theorem Vals.get'' {vs : List V} {us : List Value} {i : Nat} {u : Value} (r : Vals vs us) (e : us[i]? = some u) : ∃ v, vs[i]? = some v ∧ RelV v u := by
  cases h : vs[i]? with
  | none => rw [Vals.none_of r h] at e; cases e
  | some v =>
    obtain ⟨u', e', q⟩ := Vals.get r h
    rw [e] at e'; cases e'
    exact ⟨v, rfl, q⟩
theorem pick_same {I : Prop} {c : Cn} {F : Addr → Prop} {H : Hp} {h : Heap} {xs : List D} {vs : List V} {us : List Value} {i : Nat} {u : Value} {z : D} {bs : List Addr} (o : ordAll xs = true) (hz : z ∈ xs) (r : DqA c F H vs xs) (rv : Vals vs us) (hu : us[i]? = some u)
    (rd : ∀ v x, Dq c F H v x → x.dep ≤ 64 → RelV v u → ∃ as, Reads h u x.py as) (q : Reads h u z.py bs) : ∃ v, RelV v u ∧ Dq c F H v z := by
  obtain ⟨v, hv, rl⟩ := Vals.get'' rv hu
  obtain ⟨x, hx, dq⟩ := r.get' hv
  have hm := List.mem_of_getElem? hx
  obtain ⟨as, q'⟩ := rd v x dq (ordAll_get o hm hm).dx rl
  have e := PySem.W.alike_unique x.py z.py u as bs (ordAll_get o hm hz).al q' q
  have := py_inj (ordAll_get o hm hm).dx (ordAll_get o hz hz).dx e
  subst this
  exact ⟨v, rl, dq⟩
theorem bi_min (hc : X.calm = true) (hu : X.A.units + 66 < cLine) : CallR X (.builtin "min") (RLD c (opBi .min)) := by
  intro pins s σ H vs us Q I rx ⟨F, d, as, z, w, r, e, k⟩
  replace e : biMin as = some z := e
  unfold biMin at e
  split at e <;> simp at e
  · rename_i x xs
    obtain ⟨o, e⟩ := e
    subst e
    obtain ⟨v, rfl, q⟩ := r.one
    cases q with | lst f h r =>
    rw [Vals.ref1 rx]
    obtain ⟨its, rv, hl, _⟩ := I.list (SqL.of h)
    obtain ⟨as, rds⟩ := Dp.readsAll I (D.pys (x :: xs)) _ its (r.dp (ordAll_dep o)) rv
    have al := ordAll_alike o
    rw [D.pys] at rds al
    refine PySem.W.min_list_data (vs := its.toArray) (I.ok.hd hc) hl.isList (by simpa using rds) al ?_ fun i u h' tk bs hi rd kp => ?_
    · have := deps_py (ordAll_dep o)
      rw [D.pys] at this
      rw [this]
      have := ordAll_dep o
      omega
    · have I' : Inv X pins σ H { s with heap := h', toks := tk } := I.kept kp
      rw [← least_py xs x (fun a ha b hb => (ordAll_get o ha hb).al)] at rd
      obtain ⟨v, rl, dq⟩ := pick_same (I := True) o (least_mem xs x) r rv (by simpa using hi) (fun v x dq g rl => Dp.reads I' x.py v u (dq.dp g) rl) rd
      exact ⟨v, H, I', rl, k.here w dq⟩
  · rename_i x xs
    obtain ⟨o, e⟩ := e
    subst e
    obtain ⟨v, rfl, q⟩ := r.one
    cases q with | tup h r =>
    rw [Vals.ref1 rx]
    obtain ⟨its, rv, hl, _⟩ := I.tuple (SqT.of h)
    obtain ⟨as, rds⟩ := Dp.readsAll I (D.pys (x :: xs)) _ its (r.dp (ordAll_dep o)) rv
    have al := ordAll_alike o
    rw [D.pys] at rds al
    refine PySem.W.min_tuple_data (vs := its.toArray) (I.ok.hd hc) hl (by simpa using rds) al ?_ fun i u h' tk bs hi rd kp => ?_
    · have := deps_py (ordAll_dep o)
      rw [D.pys] at this
      rw [this]
      have := ordAll_dep o
      omega
    · have I' : Inv X pins σ H { s with heap := h', toks := tk } := I.kept kp
      rw [← least_py xs x (fun a ha b hb => (ordAll_get o ha hb).al)] at rd
      obtain ⟨v, rl, dq⟩ := pick_same (I := True) o (least_mem xs x) r rv (by simpa using hi) (fun v x dq g rl => Dp.reads I' x.py v u (dq.dp g) rl) rd
      exact ⟨v, H, I', rl, k.here w dq⟩
theorem bi_max (hc : X.calm = true) (hu : X.A.units + 66 < cLine) : CallR X (.builtin "max") (RLD c (opBi .max)) := by
  intro pins s σ H vs us Q I rx ⟨F, d, as, z, w, r, e, k⟩
  replace e : biMax as = some z := e
  unfold biMax at e
  split at e <;> simp at e
  rename_i x xs
  obtain ⟨o, e⟩ := e
  subst e
  obtain ⟨v, rfl, q⟩ := r.one
  cases q with | lst f h r =>
  rw [Vals.ref1 rx]
  obtain ⟨its, rv, hl, _⟩ := I.list (SqL.of h)
  obtain ⟨as, rds⟩ := Dp.readsAll I (D.pys (x :: xs)) _ its (r.dp (ordAll_dep o)) rv
  have al := ordAll_alike o
  rw [D.pys] at rds al
  refine PySem.W.max_list_data (vs := its.toArray) (I.ok.hd hc) hl.isList (by simpa using rds) al ?_ fun i u h' tk bs hi rd kp => ?_
  · have := deps_py (ordAll_dep o)
    rw [D.pys] at this
    rw [this]
    have := ordAll_dep o
    omega
  · have I' : Inv X pins σ H { s with heap := h', toks := tk } := I.kept kp
    rw [← most_py xs x (fun a ha b hb => (ordAll_get o ha hb).al)] at rd
    obtain ⟨v, rl, dq⟩ := pick_same (I := True) o (most_mem xs x) r rv (by simpa using hi) (fun v x dq g rl => Dp.reads I' x.py v u (dq.dp g) rl) rd
    exact ⟨v, H, I', rl, k.here w dq⟩
theorem each_of {R : Value → D → Prop} : ∀ {us : List Value} {xs : List D}, us.length = xs.length → (∀ (i : Nat) u x, us[i]? = some u → xs[i]? = some x → R u x) → PySem.W.EachIs R us xs
  | [], [], _, _ => .nil
  | u :: us, x :: xs, hl, h => .cons (h 0 u x rfl rfl) (each_of (by simpa using hl) fun i v y e1 e2 => h (i + 1) v y (by simpa using e1) (by simpa using e2))
  | [], _ :: _, hl, _ => by simp at hl
  | _ :: _, [], hl, _ => by simp at hl
theorem vals_each {dc : Cn} {F : Addr → Prop} {H : Hp} : ∀ {us : List Value} {xs : List D}, PySem.W.EachIs (fun u x => ∃ v, RelV v u ∧ Dq dc F H v x) us xs → ∃ vs, Vals vs us ∧ DqA dc F H vs xs
  | _, _, .nil => ⟨[], .nil, .nil⟩
  | _, _, .cons ⟨v, r, q⟩ t => by
    obtain ⟨vs, h1, h2⟩ := vals_each t
    exact ⟨v :: vs, .cons r h1, .cons q h2⟩
theorem sort_same {xs : List D} (o : ordAll xs = true) : xs.mergeSort (fun a b => !D.lt b a) = xs.mergeSort (PySem.W.dataLe false D.py) := by
  refine PySem.W.sort_congr fun a ha b hb => ?_
  rw [lt_py (ordAll_get o hb ha).al]
  rfl
theorem bi_sorted (hu : X.A.units + 66 < cLine) : CallR X (.builtin "sorted") (RLD c (opBi .sorted)) := by
  intro pins s σ H vs us Q I rx ⟨F, d, as, z, w, r, e, k⟩
  replace e : biSorted as = some z := e
  unfold biSorted at e
  split at e <;> simp at e
  rename_i xs
  obtain ⟨ys, e, ez⟩ := e
  subst ez
  unfold sortD at e
  split at e <;> cases e
  rename_i oh
  simp only [Bool.and_eq_true] at oh
  obtain ⟨o, hh⟩ := oh
  obtain ⟨v, rfl, q⟩ := r.one
  cases q with | lst f h r =>
  rw [Vals.ref1 rx]
  obtain ⟨its, rv, hl, hz⟩ := I.list (SqL.of h)
  have len1 := rv.length
  have len2 := r.length
  rw [sort_same o] at k
  refine PySem.W.sorted_data (bs := xs) (enc := D.py) (R := fun u x => ∃ v, RelV v u ∧ Dq c F H v x) hl.isList (each_of (by omega) fun i u x e1 e2 => ?_) (each_of (by omega) fun i u x e1 e2 => ?_) ?_ ?_ (by omega) (fun b hb => ?_) fun out hlen eo => ?_
  · obtain ⟨v, hv, rl⟩ := Vals.get'' rv e1
    obtain ⟨x', hx', dq⟩ := r.get' hv
    rw [e2] at hx'; cases hx'
    exact ⟨v, rl, dq⟩
  · obtain ⟨v, hv, rl⟩ := Vals.get'' rv e1
    obtain ⟨x', hx', dq⟩ := r.get' hv
    rw [e2] at hx'; cases hx'
    have hm := List.mem_of_getElem? e2
    exact Dp.reads I x.py v u (dq.dp (ordAll_get o hm hm).dx) rl
  · intro a ha b hb
    obtain ⟨x, hx, rfl⟩ := List.mem_map.mp ha
    obtain ⟨y, hy, rfl⟩ := List.mem_map.mp hb
    exact (ordAll_get o hx hy).al
  · unfold headNoTup at hh
    simp only [Bool.or_eq_true] at hh
    rcases hh with hh | hh
    · refine .inr fun a ha => ?_
      obtain ⟨x, hx, rfl⟩ := List.mem_map.mp ha
      refine ⟨(ordAll_get o hx hx).nn, fun xs z => ?_⟩
      have := List.all_eq_true.mp hh x hx
      cases x <;> simp_all [D.py]
    · refine .inl fun a ha => ?_
      obtain ⟨x, hx, rfl⟩ := List.mem_map.mp ha
      have := List.all_eq_true.mp hh x hx
      cases x with
      | tup l =>
        cases l with
        | nil => exact absurd this (by simp)
        | cons y l => exact ⟨y.py, D.pys l, by simp [D.py, D.pys]⟩
      | _ => exact absurd this (by simp)
  · have g := (ordAll_get o hb hb).dx
    rw [dep_py g]; omega
  · obtain ⟨ws, rw1, rw2⟩ := vals_each eo
    obtain ⟨ep, he'⟩ := PyProof.Rows.sortedAll_at s.heap its out.toArray
    have lw := rw1.length
    exact ⟨.ref _, upd H (s.heap.objs.size + 1) (.lst ws), I.laid (t' := s.toks) (fun _ _ => PyProof.Rows.sortedAll_old) (Nat.le_succ _) ⟨by omega, out, ep, rw1, he'⟩, rfl, k.newL w rw2 _ (I.hok.fresh (Nat.le_succ _))⟩
theorem ixP_eq : ixP = ixN := by funext n i; rfl
theorem atP_eq {α : Type} (xs : List α) (i : Int) : atP xs i = atI xs i := by unfold atP atI; rw [ixP_eq]
theorem at_bind {vs : List V} {xs : List D} {dc : Cn} {F : Addr → Prop} {H : Hp} {i : Int} {x : D} (r : DqA dc F H vs xs) (e : atP xs i = some x) : ∃ v, atI vs i = some v ∧ Dq dc F H v x := by
  unfold atP at e
  cases h : ixP xs.length i with
  | none => rw [h] at e; cases e
  | some j =>
    rw [h] at e
    obtain ⟨v, hv, q⟩ := r.get (show xs[j]? = some x from e)
    refine ⟨v, ?_, q⟩
    unfold atI
    rw [← ixP_eq, r.length, h]
    exact hv
theorem IxR.imp {r r' : R2} (h : IxR X r) (i : ∀ x y H Q, r' x y H Q → r x y H Q) : IxR X r' := fun a b pins s σ H x y v u Q I rx ry q => h a b pins s σ H x y v u Q I rx ry (i x y H Q q)
theorem ix_D : IxR X (R2D c opIx) := IxR.imp ix_seq fun x y H Q ⟨F, d, a, b, z, w, ra, rb, e, k⟩ => by
  cases b <;> try (cases a <;> simp [opIx] at e; done)
  rename_i i
  cases rb
  cases a <;> simp [opIx] at e
  · rename_i s
    obtain ⟨hl, ch, e1, e2⟩ := e
    subst e2
    cases ra with | str _ h =>
    rw [atP_eq] at e1
    refine .inr (.inr ⟨_, _, ch, rfl, rfl, ?_, by simpa using e1, ?_⟩)
    · rw [str_len]; exact Nat.le_trans hl lim_line
    · refine k.here w (.str [ch] fun c' hc => ?_)
      have : ch ∈ s := by
        obtain ⟨j, _, h2, _⟩ := atI_get e1
        exact List.mem_of_getElem? h2
      simp at hc
      rw [hc]; exact h ch this
  · cases ra with | tup h r =>
    obtain ⟨v, e1, q⟩ := at_bind r e
    exact .inr (.inl ⟨_, _, _, v, rfl, rfl, SqT.of h, e1, k.here w q⟩)
  · cases ra with | lst f h r =>
    obtain ⟨v, e1, q⟩ := at_bind r e
    exact .inl ⟨_, _, _, v, rfl, rfl, SqL.of h, e1, k.here w q⟩
theorem sIx_eq : SG.sIx = HT.sIx := by
  funext n d o
  cases o <;> rfl
theorem DqA.cut {vs : List V} {xs : List D} {dc : Cn} {F : Addr → Prop} {H : Hp} (r : DqA dc F H vs xs) (lo hi : Option Int) : DqA dc F H (cutV vs lo hi) (SG.cut xs lo hi) := by
  unfold cutV SG.cut
  rw [sIx_eq, r.length]
  exact (r.drop _).take _
theorem SlR.imp {r r' : V → Option Int → Option Int → Hp → VK → Prop} (h : SlR X r) (i : ∀ x lo hi H Q, r' x lo hi H Q → r x lo hi H Q) : SlR X r' := fun pins s σ H x v vl vu lo hi sl Q I rx hs pl pu q => h pins s σ H x v vl vu lo hi sl Q I rx hs pl pu (i x lo hi H Q q)
def RSD (c : Cn) : V → Option Int → Option Int → Hp → VK → Prop := fun x lo hi H Q => ∃ F d a z, Wf c F H d ∧ Dq c F H x a ∧ opSl a lo hi = some z ∧ Aft c F H d z Q
theorem cut_all {α : Type} {xs : List α} {lo hi : Option Int} (h : HT.sIx xs.length 0 lo = 0 ∧ HT.sIx xs.length xs.length hi = xs.length) : SG.cut xs lo hi = xs := by
  unfold SG.cut
  rw [sIx_eq, h.1, h.2]
  simp
theorem sl_D : SlR X (RSD c) := SlR.imp (SlR.or sl_tupA (SlR.or sl_list sl_str)) fun x lo hi H Q ⟨F, d, a, z, w, ra, e, k⟩ => by
  cases a <;> simp [opSl] at e
  · rename_i s
    obtain ⟨hl, e⟩ := e
    subst e
    cases ra with | str _ h =>
    refine .inr (.inr ⟨_, rfl, ?_, ?_⟩)
    · rw [str_len]; exact Nat.le_trans hl lim_line
    · have : cutS ⟨s.toArray⟩ lo hi = ⟨(SG.cut s lo hi).toArray⟩ := by
        unfold cutS SG.cut
        rw [str_len, sIx_eq]
      rw [this]
      refine k.here w (.str _ fun c' hc => h c' ?_)
      unfold SG.cut at hc
      exact List.mem_of_mem_drop (List.mem_of_mem_take hc)
  · subst e
    cases ra with | tup h r =>
    refine .inl ⟨_, _, rfl, SqT.of h, fun g => ?_, fun _ => k.newT w (r.cut lo hi)⟩
    rw [r.length] at g
    rw [cut_all g] at k
    exact k.here w (.tup h r)
  · subst e
    cases ra with | lst f h r =>
    exact .inr (.inl ⟨_, _, rfl, SqL.of h, k.newL w (r.cut lo hi)⟩)
def RMD (c : Cn) (f : D → List D → Option D) : V → List V → Hp → VK → Prop := fun x xs H Q => ∃ F d a as z, Wf c F H d ∧ Dq c F H x a ∧ DqA c F H xs as ∧ f a as = some z ∧ Aft c F H d z Q
theorem MtR.imp {id : String} {r r' : V → List V → Hp → VK → Prop} (h : MtR X id r) (i : ∀ x xs H Q, r' x xs H Q → r x xs H Q) : MtR X id r' := fun pins s σ H x xs v us Q I rx rs q => h pins s σ H x xs v us Q I rx rs (i x xs H Q q)
theorem join_same (sep : List Nat) : ∀ ss : List (List Nat), Txt.join ⟨sep.toArray⟩ (ss.map fun s => (⟨s.toArray⟩ : Str)) = ⟨(joinS sep ss).toArray⟩ := fun ss => by
  rw [TL.join_eq]
  induction ss with
  | nil => rfl
  | cons x r ih =>
    cases r with
    | nil => rfl
    | cons y r =>
      rw [List.map_cons, List.map_cons, Str.join, joinS]
      · rw [List.map_cons] at ih
        rw [ih, str_app, str_app]
      · simp
theorem joinS_mem {sep : List Nat} {ch : Nat} : ∀ {ss : List (List Nat)}, ch ∈ joinS sep ss → ch ∈ sep ∨ ∃ s ∈ ss, ch ∈ s
  | [], h => by simp [joinS] at h
  | [x], h => .inr ⟨x, by simp, by simpa [joinS] using h⟩
  | x :: y :: r, h => by
    rw [joinS] at h
    rcases List.mem_append.mp h with h | h
    · rcases List.mem_append.mp h with h | h
      · exact .inr ⟨x, by simp, h⟩
      · exact .inl h
    · rcases joinS_mem h with h | ⟨s, hs, h⟩
      · exact .inl h
      · exact .inr ⟨s, by simp at hs ⊢; exact .inr hs, h⟩
theorem me_join : MtR X "str.join" (RMD c (opMe .join)) := MtR.imp mt_join fun x xs H Q ⟨F, d, a, as, z, w, ra, r, e, k⟩ => by
  replace e : meJoin a as = some z := e
  unfold meJoin at e
  have main : ∀ {p : Addr} {vs : List V} {ds : List D} {sep : List Nat}, (∀ c ∈ sep, c < 128) → DqA c F H vs ds → joinR sep ds = some z → (SqL X.K H p vs ∨ SqT X.K H p vs) →
      ∃ a_1 p_1, ∃ ys : List Str, V.str ⟨sep.toArray⟩ = .str a_1 ∧ [V.ref p] = [.ref p_1] ∧ (SqL X.K H p_1 (ys.map V.str) ∨ SqT X.K H p_1 (ys.map V.str)) ∧ (ys.map (·.length)).sum + ys.length * a_1.length ≤ 16777216 ∧ Q (.str (Txt.join a_1 ys)) H := by
    intro p vs ds sep hs r2 e2 hq
    unfold joinR at e2
    cases e3 : strsOf ds with
    | none => rw [e3] at e2; cases e2
    | some ss =>
      rw [e3] at e2
      simp at e2
      obtain ⟨hl, e2⟩ := e2
      subst e2
      obtain ⟨h1, h2⟩ := r2.strs e3
      subst h1
      refine ⟨_, _, _, rfl, rfl, hq, ?_, ?_⟩
      · have : (ss.map fun s => (⟨s.toArray⟩ : Str)).map (·.length) = ss.map (·.length) := by
          rw [List.map_map]; exact List.map_congr_left fun s _ => str_len s
        rw [this, List.length_map, str_len]
        unfold lim at hl
        omega
      · rw [join_same]
        refine k.here w (.str _ fun ch hc => ?_)
        rcases joinS_mem hc with h | ⟨s, hs', h⟩
        · exact hs ch h
        · exact h2 s hs' ch h
  split at e
  · obtain ⟨v, rfl, q⟩ := r.one
    cases ra with | str s h => cases q with | lst f h' r2 =>
    exact main h r2 e (.inl (SqL.of h'))
  · obtain ⟨v, rfl, q⟩ := r.one
    cases ra with | str s h => cases q with | tup h' r2 =>
    exact main h r2 e (.inr (SqT.of h'))
  · cases e
theorem me_index : MtR X "str.index" (RMD c (opMe .index)) := MtR.imp mt_sindex fun x xs H Q ⟨F, d, a, as, z, w, ra, r, e, k⟩ => by
  replace e : meIndex a as = some z := e
  unfold meIndex at e
  split at e <;> simp at e
  obtain ⟨v, rfl, q⟩ := r.one
  obtain ⟨hs, e⟩ := e
  subst hs
  cases ra; cases q
  split at e
  · rename_i h; subst h; cases e
    exact ⟨_, _, 0, [], rfl, rfl, by decide +kernel, k.here w (.int _)⟩
  · split at e
    · rename_i h; subst h; cases e
      exact ⟨_, _, 1, [], rfl, rfl, by decide +kernel, k.here w (.int _)⟩
    · split at e
      · rename_i h; subst h; cases e
        exact ⟨_, _, 2, [], rfl, rfl, by decide +kernel, k.here w (.int _)⟩
      · cases e
theorem cnt_count (ch : Nat) : ∀ l : List Nat, PyProof.Rows.cnt ch l = ((l.count ch : Nat) : Int)
  | [] => rfl
  | n :: r => by
    rw [PyProof.Rows.cnt_cons, cnt_count ch r, List.count_cons]
    by_cases h : n = ch <;> simp [h]
    omega
theorem me_count : MtR X "str.count" (RMD c (opMe .count)) := MtR.imp mt_count fun x xs H Q ⟨F, d, a, as, z, w, ra, r, e, k⟩ => by
  replace e : meCount a as = some z := e
  unfold meCount at e
  split at e <;> simp at e
  obtain ⟨v, rfl, q⟩ := r.one
  subst e
  cases ra; cases q
  refine ⟨_, _, rfl, rfl, ?_⟩
  rw [PyProof.Rows.count_cnt, cnt_count]
  exact k.here w (.int _)
theorem splitS_ok (ch : Nat) : ∀ (s acc : List Nat), ch ∉ acc → splitS ch acc s ≠ [] ∧ (∀ p ∈ splitS ch acc s, ch ∉ p ∧ ∀ x ∈ p, x ∈ acc ∨ x ∈ s) ∧ joinS [ch] (splitS ch acc s) = acc.reverse ++ s
  | [], acc, h => ⟨by simp [splitS], by simpa [splitS] using h, by simp [splitS, joinS]⟩
  | x :: r, acc, h => by
    unfold splitS
    by_cases e : x = ch
    · subst e
      obtain ⟨h1, h2, h3⟩ := splitS_ok x r [] (by simp)
      rw [if_pos rfl]
      refine ⟨by simp, fun p hp => ?_, ?_⟩
      · rcases List.mem_cons.mp hp with z | z
        · subst z; exact ⟨by simpa using h, fun y hy => .inl (by simpa using hy)⟩
        · obtain ⟨a, b⟩ := h2 p z
          exact ⟨a, fun y hy => .inr (List.mem_cons_of_mem _ ((b y hy).resolve_left (by simp)))⟩
      · cases hs : splitS x [] r with
        | nil => exact absurd hs h1
        | cons q qs => rw [joinS, ← hs, h3]; simp
    · rw [if_neg e]
      obtain ⟨h1, h2, h3⟩ := splitS_ok ch r (x :: acc) (by simp; exact ⟨fun z => e z.symm, h⟩)
      refine ⟨h1, fun p hp => ?_, by rw [h3]; simp⟩
      obtain ⟨a, b⟩ := h2 p hp
      exact ⟨a, fun y hy => by
        rcases b y hy with z | z
        · rcases List.mem_cons.mp z with z | z
          · exact .inr (by rw [z]; exact List.mem_cons_self)
          · exact .inl z
        · exact .inr (List.mem_cons_of_mem _ z)⟩
theorem split_same {ch : Nat} (hc : ch < 128) (s : List Nat) : Txt.split ⟨s.toArray⟩ ⟨[ch].toArray⟩ = (splitS ch [] s).map fun p => (⟨p.toArray⟩ : Str) := by
  obtain ⟨h1, h2, h3⟩ := splitS_ok ch s [] (by simp)
  have h4 : (⟨s.toArray⟩ : Str) = Txt.join ⟨[ch].toArray⟩ ((splitS ch [] s).map fun p => (⟨p.toArray⟩ : Str)) := by rw [join_same, h3]; rfl
  rw [h4]
  refine TL.split_join (s := ch) (S := []) rfl ?_ (by simpa using h1) fun p hp => ?_
  · simp; omega
  · obtain ⟨q, hq, rfl⟩ := List.mem_map.mp hp
    show ch ∉ q.toArray.toList
    simpa using (h2 q hq).1
theorem strs_dq {F : Addr → Prop} {H : Hp} : ∀ {l : List (List Nat)}, (∀ p ∈ l, ∀ x ∈ p, x < 128) → DqA c F H ((l.map fun p => (⟨p.toArray⟩ : Str)).map V.str) (l.map .str)
  | [], _ => .nil
  | p :: l, h => .cons (.str p (h p List.mem_cons_self)) (strs_dq fun q hq => h q (List.mem_cons_of_mem _ hq))
theorem me_split : MtR X "str.split" (RMD c (opMe .split)) := MtR.imp mt_split fun x xs H Q ⟨F, d, a, as, z, w, ra, r, e, k⟩ => by
  replace e : meSplit a as = some z := e
  unfold meSplit at e
  split at e <;> simp at e
  obtain ⟨v, rfl, q⟩ := r.one
  obtain ⟨hl, e⟩ := e
  subst e
  rename_i s ch _
  cases ra with | str _ hs => cases q with | str _ hc =>
  have hc' : ch < 128 := hc ch (by simp)
  refine ⟨_, _, rfl, rfl, rfl, ?_, ?_⟩
  · rw [str_len]; exact Nat.le_trans hl lim_line
  · rw [split_same hc']
    have h2 := (splitS_ok ch s [] (by simp)).2.1
    exact k.newL w (strs_dq fun p hp y hy => hs y (((h2 p hp).2 y hy).resolve_left (by simp)))
end
end SG
namespace SG
open PySem PySem.Spec PyProof.Rows L2
inductive Kd where | lst (a : Addr) | tup (a : Addr) | str (s : List Nat)
def Kd.val : Kd → V
  | .lst a => .ref a | .tup a => .ref a | .str s => .str ⟨s.toArray⟩
def IterAt : Kd → Addr → Nat → Heap → Prop
  | .lst a, it, i, h => h.IsListIter it a i
  | .tup a, it, i, h => h.IsTupleIter it a i
  | .str s, it, i, h => ∃ t, h.IsStrIter it (strIterType ⟨s.toArray⟩) ⟨s.toArray⟩ t i
def Gd : Kd → List V → Hp → Prop
  | .lst a, vs, H => H a = some (.lst vs)
  | .tup a, vs, H => H a = some (.tup vs)
  | .str s, vs, _ => vs = s.map fun c => V.str ⟨#[c]⟩
theorem IterAt.at {kd : Kd} {it : Addr} {i : Nat} {h h' : Heap} (x : IterAt kd it i h) (k : ∀ o, h.get? it = some o → h'.get? it = some o) : IterAt kd it i h' := by
  cases kd with
  | lst a => exact Heap.IsListIter.at x k
  | tup a => exact Heap.IsTupleIter.at x k
  | str s => obtain ⟨t, o, e, r⟩ := x; exact ⟨t, o, k o e, r⟩
theorem IterAt.obj {kd : Kd} {it : Addr} {i : Nat} {h : Heap} (x : IterAt kd it i h) : ∃ o, h.get? it = some o ∧ ∀ v, o.data ≠ .cell v := by
  cases kd with
  | lst a => obtain ⟨o, e, c, d⟩ := x; exact ⟨o, e, fun v z => by rw [d] at z; cases z⟩
  | tup a => obtain ⟨o, e, c, d⟩ := x; exact ⟨o, e, fun v z => by rw [d] at z; cases z⟩
  | str s => obtain ⟨t, o, e, c, d⟩ := x; exact ⟨o, e, fun v z => by rw [d] at z; cases z⟩
section
variable {X : Cx} {pins : List (Addr × Obj)} {σ : L2.St} {H : Hp} {s : Shared} {A : Around}
theorem draws_of (I : Inv X pins σ H s) (hh : A.handled = none) {kd : Kd} {vs : List V} (g : Gd kd vs H) {it : Addr} {i : Nat} (hit : H it = none) (st : IterAt kd it i s.heap) :
    ∃ fp P St, Draws X.prog X.w A it fp vs.length P St ∧ it ∈ fp ∧ (∀ b ∈ fp, b = it ∨ ∃ o, H b = some o) ∧ St i s.heap ∧ (∀ j h', St j h' → IterAt kd it j h') ∧ ∀ j v, P j v → ∃ x, vs[j]? = some x ∧ RelV x v := by
  cases kd with
  | lst a =>
    obtain ⟨its, rv, p, hz⟩ := I.list (SqL.of g)
    have hne : a ≠ it := ne_of_none g hit
    have D := Draws.list (prog := X.prog) (w := X.w) hh it a hne its.toArray
    rw [List.size_toArray, ← rv.length] at D
    refine ⟨_, _, _, D, by simp, fun b hb => ?_, ⟨st, p.isList⟩, fun j h' q => q.1, fun j v q => ?_⟩
    · rcases (by simpa using hb : b = it ∨ b = a) with z | z
      · exact .inl z
      · exact .inr ⟨_, by rw [z]; exact g⟩
    · obtain ⟨x, hx, rl⟩ := Vals.get'' rv (show its[j]? = some v by simpa using q)
      exact ⟨x, hx, rl⟩
  | tup a =>
    obtain ⟨its, rv, p, hz⟩ := I.tuple (SqT.of g)
    have hne : a ≠ it := ne_of_none g hit
    have D := Draws.tuple (prog := X.prog) (w := X.w) hh it a hne its.toArray
    rw [List.size_toArray, ← rv.length] at D
    refine ⟨_, _, _, D, by simp, fun b hb => ?_, ⟨st, p⟩, fun j h' q => q.1, fun j v q => ?_⟩
    · rcases (by simpa using hb : b = it ∨ b = a) with z | z
      · exact .inl z
      · exact .inr ⟨_, by rw [z]; exact g⟩
    · obtain ⟨x, hx, rl⟩ := Vals.get'' rv (show its[j]? = some v by simpa using q)
      exact ⟨x, hx, rl⟩
  | str t =>
    obtain ⟨tk, st⟩ := st
    have D := Draws.text (prog := X.prog) (w := X.w) hh it ⟨t.toArray⟩ tk
    have e : (⟨t.toArray⟩ : Str).cps.size = vs.length := by rw [show vs = _ from g]; simp
    rw [e] at D
    refine ⟨_, _, _, D, by simp, fun b hb => .inl (by simpa using hb), st, fun j h' q => ⟨tk, q⟩, fun j v q => ?_⟩
    obtain ⟨c, u, hc, rfl⟩ := q
    refine ⟨.str ⟨#[c]⟩, ?_, ⟨u, rfl⟩⟩
    rw [show vs = _ from g, List.getElem?_map]
    have : t[j]? = some c := by simpa using hc
    rw [this]; rfl
end
def Iek (kd : Kd) (vs : List V) : It :=
  ⟨fun i H => Gd kd vs H ∧ i < vs.length, fun i H v H' => ∃ T x, v = .ref T ∧ H T = none ∧ H' = upd H T (.tup [.int (i : Nat), x]) ∧ vs[i]? = some x, fun i H => Gd kd vs H ∧ vs.length ≤ i⟩
theorem turn_enumK {P : Program} {w : World} {K : PySem.W.Frag} {elts : List Expr} {kk : Nat} {tpos : Pos} (kd : Kd) (vs : List V) (e it : Addr) :
    Turn P w K (.Tuple elts kk tpos) (Iek kd vs) [e, it] e (fun i h => (∃ old, IsEnum h e it ((i : Nat) : Int) old) ∧ IterAt kd it i h ∧ e ≠ it ∧ i ≤ vs.length) where
  mem := by simp
  obj := fun i h st b hb => by
    obtain ⟨⟨old, he⟩, hi, _⟩ := st
    have e' : b = e ∨ b = it := by simpa using hb
    rcases e' with z | z
    · rw [z]; exact ⟨_, he, fun v q => nomatch q⟩
    · rw [z]; exact hi.obj
  keep := fun i h h' st k => let ⟨⟨old, he⟩, hi, hne⟩ := st; ⟨⟨old, k e (by simp) _ he⟩, hi.at fun o q => k it (by simp) o q, hne⟩
  item := by
    intro X hP hw hK hc i pins s σ H E I hf st hg
    subst hP hw hK
    obtain ⟨⟨old, he⟩, hit, hne, _⟩ := st
    obtain ⟨g, hlt⟩ := hg
    obtain ⟨fp, P, St, D, m1, m2, st0, m3, m4⟩ := draws_of (A := X.A.in1) I (I.ok.hd hc) g (hf it (by simp)).1 hit
    have hel : e < s.heap.objs.size := Heap.lt_size he
    have hil : it < s.heap.objs.size := by obtain ⟨_, q, _⟩ := hit.obj; exact Heap.lt_size q
    have hef : e ∉ fp := fun z => by
      rcases m2 e z with q | ⟨o, q⟩
      · exact hne q
      · rw [(hf e (by simp)).1] at q; cases q
    refine wpAny_pyNext_enum_itemD D he st0 hlt hne hef fun u h' tk hP ho hst' hT hsz hk => ?_
    obtain ⟨x, hx, ru⟩ := m4 i u hP
    have hit' := m3 _ _ hst'
    refine ⟨_, rfl, wpAny_letOwnedTupleGo_enum (s := { s with heap := h', toks := tk + 1 }) ho fun h'' he' sb => ?_⟩
    have hT2 : h''.get? s.heap.objs.size = some { cls := .type "tuple", data := .seq #[.int i tk, u] } := (sb.2 _ (Nat.ne_of_gt hel)).trans hT
    have new : ObjOk X.prog X.w (upd H s.heap.objs.size (.tup [.int (i : Nat), x])) h'' s.heap.objs.size (.tup [.int (i : Nat), x]) :=
      ⟨by show 2 ≤ sizeLine; decide, [.int i tk, u], .cons ⟨_, rfl⟩ (.cons ru .nil), ⟨_, hT2, rfl, _, rfl⟩⟩
    have I1 : Inv X pins σ (upd H s.heap.objs.size (.tup [.int (i : Nat), x])) { s with heap := h'', toks := tk + 1 } :=
      I.turnedNew (ch := [e, it]) (fun b ob hb q => (sb.2 b (fun z => hb (by simp [z]))).trans (hk b ob (fun z => hb (by simp [z])) (fun z => hb (by simp [z])) q)) hf (Nat.le_refl _) new
    refine ⟨.ref s.heap.objs.size, _, I1, rfl, ⟨_, x, rfl, I.hok.fresh (Nat.le_refl _), rfl, hx⟩, ⟨⟨u, ?_⟩, hit'.at fun o q => (sb.2 it (Ne.symm hne)).trans q, hne, hlt⟩, fun b hb => ?_⟩
    · have e1 : ((i + 1 : Nat) : Int) = (i : Int) + 1 := by omega
      rw [e1]; exact he'
    · have hb' : b < s.heap.objs.size := by
        have e' : b = e ∨ b = it := by simpa using hb
        rcases e' with z | z
        · rw [z]; exact hel
        · rw [z]; exact hil
      rw [upd_ne (Nat.ne_of_lt hb')]
      exact (hf b hb).1
  done := by
    intro X hP hw hK hc i pins s σ H E I hf st hg
    subst hP hw hK
    obtain ⟨⟨old, he⟩, hit, hne, hle⟩ := st
    obtain ⟨g, hge⟩ := hg
    obtain ⟨fp, P, St, D, m1, m2, st0, m3, m4⟩ := draws_of (A := X.A.in1) I (I.ok.hd hc) g (hf it (by simp)).1 hit
    obtain ⟨f0, f1, f2, f3, f4, f5⟩ := hf it (by simp)
    have ei : i = vs.length := Nat.le_antisymm hle hge
    subst ei
    exact wpAny_pyNext_enum_endD D he st0 fun h' eb => ⟨rfl, I.turned (t' := s.toks) (fun b o hb q => eb b o hb q) f0 f1 f3 f4 f5⟩
  self := fun A i s Q E st h => let ⟨⟨_, he⟩, _⟩ := st; wpAny_pyIter_enum he h
theorem meets_enum1 {v : Value} {o : Obj} {HH : Heap → Prop} (B : Begins v o HH) :
    Meets (Builtin.«enumerate.__new__» ⟨[.type "enumerate", v], []⟩) (fun _ R s => HH s.heap ∧
      R (.ok (.ret (.ref (s.heap.push o).objs.size)))
        { s with heap := (s.heap.push o).push { cls := .type "enumerate", data := .fields #[.none, .bool false, .ref s.heap.objs.size, rawInt 0, .none, .none] } }) :=
  .of_wp fun prog w A R s h => by
    obtain ⟨hp, g, d, tk, os⟩ := s; obtain ⟨hl, h⟩ := h
    have hsub := sub_enumerate
    have q1 : ∀ {A' : Around} {E : Value → Shared → Prop} {Q : Value → Shared → Prop}, Q (.ref hp.objs.size) ⟨(hp.push o), g, d, tk, os⟩ → wpAny (model prog w) A' (pyIter v) Q E ⟨hp, g, d, tk, os⟩ :=
      fun q => B.iter prog w _ _ ⟨hp, g, d, tk, os⟩ _ hl q
    wp_walk
    refine wpAny_stack_any fun st => wpAny_pure ?_
    split
    · rename_i c _ _ _ _ _
      cases (c == Value.type "enumerate")
      · wp_walk using q1
        exact ⟨_, rfl, h⟩
      · wp_walk using q1
        exact ⟨_, rfl, h⟩
    · wp_walk using q1
      exact ⟨_, rfl, h⟩
section
variable {prog : Program} {w : World} {A : Around} {E : Value → Shared → Prop} {s : Shared}
theorem call_enum1 {v : Value} {o : Obj} {HH : Heap → Prop} {Q : Value → Shared → Prop} (B : Begins v o HH) (hH : HH s.heap)
    (h : ∀ h', IsEnum h' (s.heap.objs.size + 1) s.heap.objs.size 0 .none → h'.get? s.heap.objs.size = some o →
      (∀ b o, s.heap.get? b = some o → h'.get? b = some o) → Q (.ref (s.heap.objs.size + 1)) { s with heap := h' }) :
    wpAny (model prog w) A (call (.type "enumerate") [v]) Q E s := by
  refine callType_new F.called_enumerate (by decide) (F.typeCall_enumerate_1 _) (F.newCall_enumerate_1 _) (fun obj => F.args_object_init_2 obj _) F.entry_enumerate_new
    (meets_enum1 B) ⟨hH, ?_⟩
  have hz : (s.heap.push o).objs.size = s.heap.objs.size + 1 := Heap.size_push ..
  show _ ∧ _
  rw [hz]
  have he : IsEnum ((s.heap.push o).push
      { cls := .type "enumerate", data := .fields #[.none, .bool false, .ref s.heap.objs.size, rawInt 0, .none, .none] }) (s.heap.objs.size + 1) s.heap.objs.size 0 .none := by
    have := Heap.get?_push_size (s.heap.push o)
      (o := { cls := .type "enumerate", data := .fields #[.none, .bool false, .ref s.heap.objs.size, rawInt 0, .none, .none] }) rfl
    rw [hz] at this; exact this
  exact ⟨⟨_, he, rfl⟩, h _ he (Heap.get?_push_of_some _ (Heap.get?_push_size _ B.free)) fun b o y => Heap.get?_push_of_some _ (Heap.get?_push_of_some _ y)⟩
end
section
variable {X : Cx} {pins : List (Addr × Obj)} {σ : L2.St} {H : Hp} {s : Shared}
theorem begins_of (I : Inv X pins σ H s) {kd : Kd} {vs : List V} (g : Gd kd vs H) {u : Value} (r : RelV kd.val u) :
    ∃ o HH, Begins u o HH ∧ HH s.heap ∧ ∀ it h, h.get? it = some o → IterAt kd it 0 h := by
  cases kd with
  | lst a =>
    cases r
    obtain ⟨its, rv, p, hz⟩ := I.list (SqL.of g)
    exact ⟨_, _, begins_list a its.toArray, p.isList, fun it h e => ⟨_, e, rfl, rfl⟩⟩
  | tup a =>
    cases r
    obtain ⟨its, rv, p, hz⟩ := I.tuple (SqT.of g)
    exact ⟨_, _, begins_tuple a its.toArray, p, fun it h e => ⟨_, e, rfl, rfl⟩⟩
  | str t =>
    obtain ⟨tk, rfl⟩ := r
    exact ⟨_, _, begins_text ⟨t.toArray⟩ tk, trivial, fun it h e => ⟨tk, _, e, rfl, rfl⟩⟩
def iEnumK (ta : TA) : TI := fun σ H R => ta σ H fun vs H1 => ∃ kd xs, vs = [Kd.val kd] ∧ Gd kd xs H1 ∧ R (Iek kd xs) H1
theorem pi_enumK {e : Expr} {ta : TA} {p pos tpos : Pos} {elts : List Expr} {kk : Nat} (hg : Gl X "enumerate") (hm : X.mg "enumerate" = none) (ha : PA X [e] ta) (hs : starEach [e] X.env = [(false, eval e X.env)]) :
    PI X (.Tuple elts kk tpos) (.Call (.Name "enumerate" p) [e] [] pos) (iEnumK ta) := by
  refine ⟨fun pins s σ H R I h => ?_⟩
  refine Call_ (ld_blt I hg hm boot_enumerate (PyProof.Rows.callWith_type1 (thn (ha.run pos pins s σ H _ I h) fun us s1 ⟨vs, H1, I1, r1, q1⟩ => ?_) hs rfl))
  obtain ⟨kd, xs, ex, hq, q⟩ := q1
  subst ex
  obtain ⟨u, rfl, rl⟩ := vals1 r1
  obtain ⟨o, HH, B, hB, hit⟩ := begins_of I1 hq rl
  refine call_enum1 B hB fun h' he ho hk => wpAny_pyIter_enum he ?_
  have I2 : Inv X pins σ H1 { s1 with heap := h' } := I1.kept (t' := s1.toks) hk
  refine ⟨s1.heap.objs.size + 1, [s1.heap.objs.size + 1, s1.heap.objs.size], _, _, H1, rfl, I2, turn_enumK kd xs (s1.heap.objs.size + 1) s1.heap.objs.size, ⟨⟨.none, he⟩, hit _ _ ho, Nat.succ_ne_self _, Nat.zero_le _⟩, fun b hb => ?_, q⟩
  have e' : b = s1.heap.objs.size + 1 ∨ b = s1.heap.objs.size := by simpa using hb
  have hle : s1.heap.objs.size ≤ b := by
    rcases e' with z | z
    · rw [z]; exact Nat.le_add_right _ _
    · rw [z]; exact Nat.le_refl _
  exact I1.fpOk hle (I1.hok.fresh hle)
end
theorem walk_enumK (kd : Kd) (vs : List V) : Walk (Iek kd vs) vs.length (fun H => Gd kd vs H) (YPair (fun i => some (.int (i : Nat))) (fun i => vs[i]?)) where
  goes := fun i H hi g => ⟨g, hi⟩
  stops := fun H g => ⟨g, Nat.le_refl _⟩
  yields := fun i H x H' hi g y => by
    obtain ⟨T, z, e1, e2, e3, e4⟩ := y
    exact ⟨T, .int (i : Nat), z, e1, e2, e3, rfl, e4⟩
def Izk (k1 k2 : Kd) (vs ws : List V) : It :=
  ⟨fun i H => Gd k1 vs H ∧ Gd k2 ws H ∧ i < vs.length ∧ i < ws.length, fun i H v H' => ∃ T x y, v = .ref T ∧ H T = none ∧ H' = upd H T (.tup [x, y]) ∧ vs[i]? = some x ∧ ws[i]? = some y, fun i H => Gd k1 vs H ∧ Gd k2 ws H ∧ (vs.length ≤ i ∨ ws.length ≤ i)⟩
structure Apart5 (z TI TO i1 i2 : Addr) : Prop where
  a1 : TI ≠ z
  a2 : TO ≠ z
  a3 : TI ≠ TO
  a4 : TI ≠ i1
  a5 : TI ≠ i2
  a6 : z ≠ i1
  a7 : z ≠ i2
  a8 : TO ≠ i1
  a9 : TO ≠ i2
  a10 : i1 ≠ i2
theorem apart_n (n : Nat) : Apart5 (n + 4) (n + 2) (n + 3) n (n + 1) := by
  constructor <;> exact fun (z : (_ : Nat) = _) => by omega
theorem turn_zipK {P : Program} {w : World} {K : PySem.W.Frag} {elts : List Expr} {kk : Nat} {tpos : Pos} (k1 k2 : Kd) (vs ws : List V) {z TI TO i1 i2 : Addr} (ap : Apart5 z TI TO i1 i2) :
    Turn P w K (.Tuple elts kk tpos) (Izk k1 k2 vs ws) [z, TI, TO, i1, i2] z
      (fun i h => IsZip h z TI TO .none ∧ IsTupOf2 h TI (.ref i1) (.ref i2) ∧ (∃ x y, IsTupOf2 h TO x y) ∧ IterAt k1 i1 i h ∧ IterAt k2 i2 i h ∧ i ≤ vs.length ∧ i ≤ ws.length) where
  mem := by simp
  obj := fun i h st b hb => by
    obtain ⟨hz, h1, ⟨x, y, h2⟩, h3, h4, _⟩ := st
    have e' : b = z ∨ b = TI ∨ b = TO ∨ b = i1 ∨ b = i2 := by simpa using hb
    rcases e' with q | q | q | q | q
    · rw [q]; exact ⟨_, hz, fun v q => nomatch q⟩
    · rw [q]; exact ⟨_, h1, fun v q => nomatch q⟩
    · rw [q]; exact ⟨_, h2, fun v q => nomatch q⟩
    · rw [q]; exact h3.obj
    · rw [q]; exact h4.obj
  keep := fun i h h' st k => let ⟨hz, h1, ⟨x, y, h2⟩, h3, h4, h5⟩ := st; ⟨k z (by simp) _ hz, k TI (by simp) _ h1, ⟨x, y, k TO (by simp) _ h2⟩, h3.at fun o q => k i1 (by simp) o q, h4.at fun o q => k i2 (by simp) o q, h5⟩
  item := by
    intro X hP hw hK hc i pins s σ H E I hf st hg
    subst hP hw hK
    obtain ⟨hz, h1, ⟨a1, a2, h2⟩, h3, h4, _, _⟩ := st
    obtain ⟨g1, g2, hl1, hl2⟩ := hg
    obtain ⟨fp1, P1, St1, D1, m1, m2, st1, m3, m4⟩ := draws_of (A := X.A.in1) I (I.ok.hd hc) g1 (hf i1 (by simp)).1 h3
    obtain ⟨fp2, P2, St2, D2, n1, n2, st2, n3, n4⟩ := draws_of (A := X.A.in1) I (I.ok.hd hc) g2 (hf i2 (by simp)).1 h4
    have nf1 : ∀ b, b ∈ [z, TI, TO, i1, i2] → b ≠ i1 → b ∉ fp1 := fun b hb hn hm => by
      rcases m2 b hm with q | ⟨o, q⟩
      · exact hn q
      · rw [(hf b hb).1] at q; cases q
    have nf2 : ∀ b, b ∈ [z, TI, TO, i1, i2] → b ≠ i2 → b ∉ fp2 := fun b hb hn hm => by
      rcases n2 b hm with q | ⟨o, q⟩
      · exact hn q
      · rw [(hf b hb).1] at q; cases q
    have S : ZipSep2 z TI TO i1 i2 fp1 fp2 := ⟨ap.a1, ap.a2, ap.a3, ap.a4, m1, nf1 z (by simp) ap.a6, nf1 TO (by simp) ap.a8, ap.a5, n1, nf2 z (by simp) ap.a7, nf2 TO (by simp) ap.a9, nf2 i1 (by simp) ap.a10, nf1 i2 (by simp) (Ne.symm ap.a10)⟩
    have lz : z < s.heap.objs.size := Heap.lt_size hz
    have lTI : TI < s.heap.objs.size := Heap.lt_size h1
    have lTO : TO < s.heap.objs.size := Heap.lt_size h2
    have l1 : i1 < s.heap.objs.size := by obtain ⟨_, q, _⟩ := h3.obj; exact Heap.lt_size q
    have l2 : i2 < s.heap.objs.size := by obtain ⟨_, q, _⟩ := h4.obj; exact Heap.lt_size q
    refine wpAny_pyNext_zipD2_item S D1 D2 hz h1 h2 st1 st2 hl1 hl2 fun u1 u2 h' tk p1 p2 hz' hTO' s1' s2' hT hsz hk => ?_
    obtain ⟨x, hx, rx⟩ := m4 i u1 p1
    obtain ⟨y, hy, ry⟩ := n4 i u2 p2
    refine ⟨_, rfl, wpAny_letOwnedTupleGo_zip (s := { s with heap := h', toks := tk }) hz' fun h'' hz2 sb => ?_⟩
    have hT2 : h''.get? s.heap.objs.size = some { cls := .type "tuple", data := .seq #[u1, u2] } := (sb.2 _ (Nat.ne_of_gt lz)).trans hT
    have new : ObjOk X.prog X.w (upd H s.heap.objs.size (.tup [x, y])) h'' s.heap.objs.size (.tup [x, y]) :=
      ⟨by show 2 ≤ sizeLine; decide, [u1, u2], .cons rx (.cons ry .nil), ⟨_, hT2, rfl, _, rfl⟩⟩
    have I1 : Inv X pins σ (upd H s.heap.objs.size (.tup [x, y])) { s with heap := h'', toks := tk } :=
      I.turnedNew (ch := [z, TI, TO, i1, i2]) (fun b ob hb q => (sb.2 b (fun e => hb (by simp [e]))).trans (hk b ob (fun e => hb (by simp [e])) (fun e => hb (by simp [e])) (fun e => hb (by simp [e])) (fun e => hb (by simp [e])) q)) hf (Nat.le_refl _) new
    refine ⟨.ref s.heap.objs.size, _, I1, rfl, ⟨_, x, y, rfl, I.hok.fresh (Nat.le_refl _), rfl, hx, hy⟩, ⟨hz2, ?_, ⟨u1, u2, ?_⟩, ?_, ?_, hl1, hl2⟩, fun b hb => ?_⟩
    · exact (sb.2 _ ap.a1).trans (hk _ _ ap.a1 ap.a3 ap.a4 ap.a5 h1)
    · exact (sb.2 _ ap.a2).trans hTO'
    · exact (m3 _ _ s1').at fun o q => (sb.2 i1 (Ne.symm ap.a6)).trans q
    · exact (n3 _ _ s2').at fun o q => (sb.2 i2 (Ne.symm ap.a7)).trans q
    · have hb' : b < s.heap.objs.size := by
        have e' : b = z ∨ b = TI ∨ b = TO ∨ b = i1 ∨ b = i2 := by simpa using hb
        rcases e' with q | q | q | q | q <;> rw [q] <;> assumption
      rw [upd_ne (Nat.ne_of_lt hb')]
      exact (hf b hb).1
  done := by
    intro X hP hw hK hc i pins s σ H E I hf st hg
    subst hP hw hK
    obtain ⟨hz, h1, ⟨a1, a2, h2⟩, h3, h4, le1, le2⟩ := st
    obtain ⟨g1, g2, hl⟩ := hg
    obtain ⟨fp1, P1, St1, D1, m1, m2, st1, m3, m4⟩ := draws_of (A := X.A.in1) I (I.ok.hd hc) g1 (hf i1 (by simp)).1 h3
    obtain ⟨fp2, P2, St2, D2, n1, n2, st2, n3, n4⟩ := draws_of (A := X.A.in1) I (I.ok.hd hc) g2 (hf i2 (by simp)).1 h4
    have nf1 : ∀ b, b ∈ [z, TI, TO, i1, i2] → b ≠ i1 → b ∉ fp1 := fun b hb hn hm => by
      rcases m2 b hm with q | ⟨o, q⟩
      · exact hn q
      · rw [(hf b hb).1] at q; cases q
    have nf2 : ∀ b, b ∈ [z, TI, TO, i1, i2] → b ≠ i2 → b ∉ fp2 := fun b hb hn hm => by
      rcases n2 b hm with q | ⟨o, q⟩
      · exact hn q
      · rw [(hf b hb).1] at q; cases q
    have S : ZipSep2 z TI TO i1 i2 fp1 fp2 := ⟨ap.a1, ap.a2, ap.a3, ap.a4, m1, nf1 z (by simp) ap.a6, nf1 TO (by simp) ap.a8, ap.a5, n1, nf2 z (by simp) ap.a7, nf2 TO (by simp) ap.a9, nf2 i1 (by simp) ap.a10, nf1 i2 (by simp) (Ne.symm ap.a10)⟩
    refine wpAny_pyNext_zipD2_end S D1 D2 hz h1 h2 st1 st2 le1 le2 (by omega) fun h' tk hk => ⟨rfl, ?_⟩
    exact I.turnedL (t' := tk) (ch := [z, TI, TO, i1, i2]) (fun b o hb q => hk b o (fun e => hb (by simp [e])) (fun e => hb (by simp [e])) (fun e => hb (by simp [e])) (fun e => hb (by simp [e])) q) hf
  self := fun A i s Q E st h => wpAny_pyIter_zip st.1 h
section
variable {X : Cx}
def iZipK (ta : TA) : TI := fun σ H R => ta σ H fun vs H1 => ∃ k1 k2 xs ys, vs = [Kd.val k1, Kd.val k2] ∧ Gd k1 xs H1 ∧ Gd k2 ys H1 ∧ R (Izk k1 k2 xs ys) H1
theorem pi_zipK {e e2 : Expr} {ta : TA} {p pos tpos : Pos} {elts : List Expr} {kk : Nat} (hg : Gl X "zip") (hm : X.mg "zip" = none) (ha : PA X [e, e2] ta)
    (hs : starEach [e, e2] X.env = (false, eval e X.env) :: starEach [e2] X.env) (hpl : (backTo pos (starEach [e2] X.env)).any (·.1) = false) :
    PI X (.Tuple elts kk tpos) (.Call (.Name "zip" p) [e, e2] [] pos) (iZipK ta) := by
  refine ⟨fun pins s σ H R I h => ?_⟩
  refine Call_ (ld_blt I hg hm boot_zip (PyProof.Rows.callWith_type1 (thn (ha.run pos pins s σ H _ I h) fun us s1 ⟨vs, H1, I1, r1, q1⟩ => ?_) hs hpl))
  obtain ⟨k1, k2, xs, ys, ex, hq, hq2, q⟩ := q1
  subst ex
  obtain ⟨u, u2, rfl, rl, rl2⟩ := vals2 r1
  obtain ⟨o, HH, B, hB, hit⟩ := begins_of I1 hq rl
  obtain ⟨o2, HH2, B2, hB2, hit2⟩ := begins_of I1 hq2 rl2
  refine zip_begins2 B B2 hB hB2 fun h' hz hTI hTO g1 g2 hsz hk => wpAny_pyIter_zip hz ?_
  have I2 : Inv X pins σ H1 { s1 with heap := h' } := I1.kept (t' := s1.toks) hk
  refine ⟨s1.heap.objs.size + 4, [s1.heap.objs.size + 4, s1.heap.objs.size + 2, s1.heap.objs.size + 3, s1.heap.objs.size, s1.heap.objs.size + 1], _, _, H1, rfl, I2,
    turn_zipK k1 k2 xs ys (apart_n _), ⟨hz, hTI, ⟨_, _, hTO⟩, hit _ _ g1, hit2 _ _ g2, Nat.zero_le _, Nat.zero_le _⟩, fun b hb => ?_, q⟩
  have hle : s1.heap.objs.size ≤ b := by
    have e' : b = s1.heap.objs.size + 4 ∨ b = s1.heap.objs.size + 2 ∨ b = s1.heap.objs.size + 3 ∨ b = s1.heap.objs.size ∨ b = s1.heap.objs.size + 1 := by simpa using hb
    rcases e' with z | z | z | z | z <;> rw [z] <;> first | exact Nat.le_add_right _ _ | exact Nat.le_refl _
  exact I1.fpOk hle (I1.hok.fresh hle)
theorem walk_zipK (k1 k2 : Kd) (vs ws : List V) : Walk (Izk k1 k2 vs ws) (min vs.length ws.length) (fun H => Gd k1 vs H ∧ Gd k2 ws H) (YPair (fun i => vs[i]?) (fun i => ws[i]?)) where
  goes := fun i H hi g => ⟨g.1, g.2, by omega, by omega⟩
  stops := fun H g => ⟨g.1, g.2, by omega⟩
  yields := fun i H x H' hi g y => by
    obtain ⟨T, a, b, e1, e2, e3, e4, e5⟩ := y
    exact ⟨T, a, b, e1, e2, e3, e4, e5⟩
end
end SG
namespace SG
open PySem PySem.Spec PyProof.Rows L2
structure CkX where
  mt : Nat → Option Str
  dk : Bool
  mkd : Bool
  xc : Bool
  met : Bool
def CkX.no : CkX := ⟨fun _ => none, false, false, false, false⟩
structure Ck where
  N : List Str
  fnm : Nat → Option Str
  er : Nat → Option Str
  lam : Bool
  ex : CkX
def Ck.off (ck : Ck) : Ck := { ck with lam := false, ex := { ck.ex with met := false, mkd := false } }
def Ck.offM (ck : Ck) : Ck := { ck with lam := false, ex := { ck.ex with met := false } }
inductive Syn where
  | ex (e : Expr) | exs (l : List Expr) | tg (e : Expr) | tgs (l : List Expr) | it (e : Expr)
def notStar : Expr → Bool
  | .Starred _ _ => false
  | _ => true
def notSlice : Expr → Bool
  | .Slice _ _ _ _ => false
  | _ => true
def notSet : Expr → Bool
  | .Set _ _ _ => false
  | _ => true
def isTupE : Expr → Bool
  | .Tuple _ _ _ => true
  | _ => false
def okName (x : Str) : Bool := !(x == ("__debug__" : Str)) && !(x == ("__classdict__" : Str))
def visB (sc : Scope) (x : Str) : Bool := match sc.names.lookup x with
  | some .local => true | some .cell => true | some .free => true | _ => false
def locB (sc : Scope) (x : Str) : Bool := match sc.names.lookup x with
  | some .local => true | some .cell => true | _ => false
def glB (sc : Scope) (x : Str) : Bool := match sc.names.lookup x with
  | some .globalImplicit => true | _ => false
def bopO : Bop → Operator
  | .add => .Add | .sub => .Sub | .mul => .Mult | .fdiv => .FloorDiv | .mod => .Mod | .pow => .Pow
def copO : Cop → CmpOp
  | .eq => .Eq | .ne => .NotEq | .lt => .Lt | .le => .LtE | .gt => .Gt | .ge => .GtE | .inn => .In | .notin => .NotIn
def bopB (o : Bop) (op : Operator) : Bool := decide (op = bopO o)
def copB (o : Cop) (op : CmpOp) : Bool := decide (op = copO o)
def biN : Bi → String
  | .len => "len" | .all => "all" | .any => "any" | .sum => "sum" | .min => "min" | .max => "max" | .min2 => "min" | .max2 => "max" | .sorted => "sorted" | .tuple => "tuple" | .list => "list" | .abs => "abs" | .int => "int"
def tyN : Ty → String
  | .str => "str" | .int => "int" | .bool => "bool" | .tuple => "tuple"
def biAr : Bi → Nat
  | .min2 => 2 | .max2 => 2 | _ => 1
def isIt : E → Bool
  | .rng1 _ => true | .rng2 _ _ => true | .enum _ => true | .zip _ _ => true | _ => false
def synIt (e : E) (x : Expr) : Syn := if isIt e then .it x else .ex x
def tgIt (e : E) (tg : Expr) : Bool := match e with
  | .enum _ => isTupE tg | .zip _ _ => isTupE tg | _ => true
def asciiB (s : List Nat) : Bool := s.all fun c => decide (c < 128)
def ownP (N : List Str) (own : List Nat) : List (Str × Nat) := own.filterMap fun i => (N[i]?).map fun x => (x, i)
def tgSl : E → List Nat
  | .var i => [i]
  | .tup es => tgSl es
  | .cons a r => tgSl a ++ tgSl r
  | _ => []
def isStrE : E → Bool
  | .str _ => true | _ => false
def strE (s : List Nat) (x : Str) : Bool := decide (x.cps.toList = s)
def kvI : List (List Nat × Int) := [([43], 1), ([45], -1), ([48], 0)]
def kvS : List (List Nat × List Nat) := [([43], [45]), ([45], [43]), ([48], [48])]
def isDI : Expr → Bool
  | .Dict [some (.Constant (.str a) _ _), some (.Constant (.str b) _ _), some (.Constant (.str c) _ _)] [.Constant (.int u) _ _, .UnaryOp .USub (.Constant (.int v) _ _) _, .Constant (.int w) _ _] _ => strE [43] a && strE [45] b && strE [48] c && decide (u = 1) && decide (v = 1) && decide (w = 0)
  | _ => false
def isDS : Expr → Bool
  | .Dict [some (.Constant (.str a) _ _), some (.Constant (.str b) _ _), some (.Constant (.str c) _ _)] [.Constant (.str u) _ _, .Constant (.str v) _ _, .Constant (.str w) _ _] _ => strE [43] a && strE [45] b && strE [48] c && strE [45] u && strE [43] v && strE [48] w
  | _ => false
def isRevE : Expr → Bool
  | .Slice none none (some (.UnaryOp .USub (.Constant (.int i) _ _) _)) _ => decide (i = 1)
  | _ => false
def isConE : Expr → Bool
  | .Constant _ _ _ => true | _ => false
def isNamE : Expr → Bool
  | .Name _ _ => true | _ => false
def noPar : Arguments → Bool
  | ⟨[], [], none, [], [], none, []⟩ => true
  | _ => false
def chk : Ck → E → Scope → Syn → Bool
  | ck, .nil, _, s => match s with
    | .exs [] => true
    | .tgs [] => true
    | _ => false
  | ck, .cons a r, sc, s => match s with
    | .exs (x :: xs) => notStar x && chk ck a sc (.ex x) && chk ck r sc (.exs xs)
    | .tgs (x :: xs) => notStar x && chk ck a sc (.tg x) && chk ck r sc (.tgs xs)
    | _ => false
  | ck, .var i, sc, s => match s with
    | .ex (.Name x _) => decide (ck.N[i]? = some x) && visB sc x && okName x
    | .tg (.Name x _) => decide (ck.N[i]? = some x) && locB sc x
    | _ => false
  | ck, .non, _, s => match s with
    | .ex (.Constant .none _ _) => true
    | _ => false
  | ck, .bl b, _, s => match s with
    | .ex (.Constant (.bool c) _ _) => b == c
    | _ => false
  | ck, .int i, _, s => match s with
    | .ex (.Constant (.int c) _ _) => decide (i = c)
    | _ => false
  | ck, .str t, _, s => match s with
    | .ex (.Constant (.str x) _ _) => strE t x && asciiB t
    | _ => false
  | ck, .tup es, sc, s => match s with
    | .ex (.Tuple l _ _) => decide (l.length ≤ 1000) && chk ck es sc (.exs l)
    | .tg (.Tuple l _ _) => chk ck es sc (.tgs l)
    | _ => false
  | ck, .lst es, sc, s => match s with
    | .ex (.List l _) => decide (l.length ≤ 1000) && chk ck es sc (.exs l)
    | _ => false
  | ck, .bin o a b, sc, s => match s with
    | .ex (.BinOp l op r _) => bopB o op && chk ck a sc (.ex l) && chk ck b sc (.ex r)
    | _ => false
  | ck, .neg a, sc, s => match s with
    | .ex (.UnaryOp .USub l _) => chk ck a sc (.ex l)
    | _ => false
  | ck, .cmp o a b, sc, s => match s with
    | .ex (.Compare l [op] [r] _) => copB o op && notSet r && chk ck a sc (.ex l) && chk ck b sc (.ex r)
    | _ => false
  | ck, .chain o p a b c, sc, s => match s with
    | .ex (.Compare l [op, op2] [m, r] _) => copB o op && copB p op2 && notSet r && chk ck a sc (.ex l) && chk ck b sc (.ex m) && chk ck c sc (.ex r)
    | _ => false
  | ck, .isn n a, sc, s => match s with
    | .ex (.Compare l [.Is] [.Constant .none _ _] _) => !n && chk ck a sc (.ex l)
    | .ex (.Compare l [.IsNot] [.Constant .none _ _] _) => n && chk ck a sc (.ex l)
    | _ => false
  | ck, .and a b, sc, s => match s with
    | .ex (.BoolOp .And [x, y] _) => chk ck a sc (.ex x) && chk ck b sc (.ex y)
    | _ => false
  | ck, .or a b, sc, s => match s with
    | .ex (.BoolOp .Or [x, y] _) => chk ck a sc (.ex x) && chk ck b sc (.ex y)
    | _ => false
  | ck, .and3 a b c, sc, s => match s with
    | .ex (.BoolOp .And [x, y, z] _) => chk ck a sc (.ex x) && chk ck b sc (.ex y) && chk ck c sc (.ex z)
    | _ => false
  | ck, .or3 a b c, sc, s => match s with
    | .ex (.BoolOp .Or [x, y, z] _) => chk ck a sc (.ex x) && chk ck b sc (.ex y) && chk ck c sc (.ex z)
    | _ => false
  | ck, .not a, sc, s => match s with
    | .ex (.UnaryOp .Not l _) => chk ck a sc (.ex l)
    | _ => false
  | ck, .ite c a b, sc, s => match s with
    | .ex (.IfExp t x y _) => chk ck c sc (.ex t) && chk ck a sc (.ex x) && chk ck b sc (.ex y)
    | _ => false
  | ck, .call f es, sc, s => match s with
    | .ex (.Call (.Name x _) (a :: l) [] _) => decide (ck.fnm f = some x) && glB sc x && chk ck es sc (.exs (a :: l))
    | _ => false
  | ck, .bi f es, sc, s => match s with
    | .ex (.Call (.Name x _) (a :: l) [] _) => decide (x = Str.ofString (biN f)) && glB sc x && decide ((a :: l).length = biAr f) && chk ck es sc (.exs (a :: l))
    | _ => false
  | ck, .isi t a, sc, s => match s with
    | .ex (.Call (.Name x _) [e, .Name y _] [] _) => decide (x = Str.ofString "isinstance") && glB sc x && decide (y = Str.ofString (tyN t)) && glB sc y && notStar e && chk ck a sc (.ex e)
    | _ => false
  | ck, .meth m o a, sc, s => match s with
    | .ex (.Call (.Attribute ob nm ap) [e] [] cp) => (match m with
        | .join => decide (nm = Str.ofString "join") && isConE ob && isStrE o
        | .index => decide (nm = Str.ofString "index") && isConE ob && isStrE o
        | .count => decide (nm = Str.ofString "count") && isNamE ob && isStrE a
        | .split => decide (nm = Str.ofString "split") && isNamE ob && isStrE a
        | _ => false) && (ap.endLine == cp.line) && notStar e && chk ck o sc (.ex ob) && chk ck a sc (.ex e)
    | _ => false
  | ck, .ix a b, sc, s => match s with
    | .ex (.Subscript l r _) => notSlice r && chk ck a sc (.ex l) && chk ck b sc (.ex r)
    | _ => false
  | ck, .sl a lo hi, sc, s => match s with
    | .ex (.Subscript l (.Slice x y none _) _) => chk ck a sc (.ex l) && (match x with | none => isNil lo | some x => chk ck lo sc (.ex x)) && (match y with | none => isNil hi | some y => chk ck hi sc (.ex y))
    | _ => false
  | ck, .rev a, sc, s => match s with
    | .ex (.Subscript l r _) => isRevE r && chk ck a sc (.ex l)
    | _ => false
  | ck, .rng1 a, sc, s => match s with
    | .it (.Call (.Name x _) [e] [] _) => decide (x = Str.ofString "range") && glB sc x && notStar e && chk ck a sc (.ex e)
    | _ => false
  | ck, .rng2 a b, sc, s => match s with
    | .it (.Call (.Name x _) [e, f] [] _) => decide (x = Str.ofString "range") && glB sc x && notStar e && notStar f && chk ck a sc (.ex e) && chk ck b sc (.ex f)
    | _ => false
  | ck, .enum a, sc, s => match s with
    | .it (.Call (.Name x _) [e] [] _) => decide (x = Str.ofString "enumerate") && glB sc x && notStar e && chk ck a sc (.ex e)
    | _ => false
  | ck, .zip a b, sc, s => match s with
    | .it (.Call (.Name x _) [e, f] [] _) => decide (x = Str.ofString "zip") && glB sc x && notStar e && notStar f && chk ck a sc (.ex e) && chk ck b sc (.ex f)
    | _ => false
  | ck, .trng a, sc, s => match s with
    | .ex (.Call (.Name x _) [.Call (.Name y _) [e] [] _] [] _) => decide (x = Str.ofString "tuple") && glB sc x && decide (y = Str.ofString "range") && glB sc y && notStar e && chk ck a sc (.ex e)
    | _ => false
  | ck, .lenum a, sc, s => match s with
    | .ex (.Call (.Name x _) [.Call (.Name y _) [e] [] _] [] _) => decide (x = Str.ofString "list") && glB sc x && decide (y = Str.ofString "enumerate") && glB sc y && notStar e && chk ck a sc (.ex e)
    | _ => false
  | ck, .ssort a, sc, s => match s with
    | .ex (.Call (.Name x _) [.Call (.Name y _) [e] [] _] [] _) => decide (x = Str.ofString "sorted") && glB sc x && decide (y = Str.ofString "set") && glB sc y && notStar e && chk ck a sc (.ex e)
    | _ => false
  | ck, .lc elt tg it own, sc, s => match s with
    | .ex (.ListComp el [⟨tg', it', [], 0⟩] scope _) => decide ((ownP ck.N own).map (·.2) = own) && blkC ck.N sc scope (ownP ck.N own) && tgIt it tg' && notSet it' && (tgSl tg).all (own.contains ·) && chk ck it sc (synIt it it') && chk ck tg scope (.tg tg') && chk ck elt (relS scope sc) (.ex el)
    | _ => false
  | ck, .lcif elt tg it c own, sc, s => match s with
    | .ex (.ListComp el [⟨tg', it', [cd], 0⟩] scope _) => decide ((ownP ck.N own).map (·.2) = own) && blkC ck.N sc scope (ownP ck.N own) && tgIt it tg' && notSet it' && (tgSl tg).all (own.contains ·) && chk ck it sc (synIt it it') && chk ck tg scope (.tg tg') && chk ck c (relS scope sc) (.ex cd) && chk ck elt (relS scope sc) (.ex el)
    | _ => false
  | ck, .lc2 elt tg1 it1 tg2 it2 own own2, sc, s => match s with
    | .ex (.ListComp el [⟨tg1', it1', [], 0⟩, ⟨tg2', it2', [], 0⟩] scope _) => decide ((ownP ck.N own).map (·.2) = own) && blkC ck.N sc scope (ownP ck.N own) && tgIt it1 tg1' && notSet it1' && (tgSl tg1).all (own.contains ·) && tgIt it2 tg2' && notSet it2' && (tgSl tg2).all (own2.contains ·) && own2.all (own.contains ·) && chk ck it1 sc (synIt it1 it1') && chk ck tg1 scope (.tg tg1') && chk ck it2 (relS scope sc) (synIt it2 it2') && chk ck tg2 scope (.tg tg2') && true && chk ck elt (relS scope sc) (.ex el)
    | _ => false
  | ck, .dget kvs e, sc, s => match s with
    | .ex (.Subscript l r _) => decide (kvs = kvI) && isDI l && notSlice r && chk ck e sc (.ex r)
    | _ => false
  | ck, .dgets kvs e, sc, s => match s with
    | .ex (.Subscript l r _) => decide (kvs = kvS) && isDS l && notSlice r && chk ck e sc (.ex r)
    | _ => false
  | ck, .oix _ _, _, _ => false
  | ck, .oit _, _, _ => false
  | ck, .olen _, _, _ => false
  | ck, .told e, sc, s => match s with
    | .ex (.Call (.Name x _) [.Lambda params body scope _] [] _) => ck.lam && decide (x = "_law_told") && glB sc x && LamX.lamSB sc scope && noPar params && chk ck.off e scope (.ex body)
    | _ => false
  | ck, .fld o j, sc, s => match s with
    | .ex (.Attribute (.Name x p) nm _) => ck.ex.dk && decide (j < 3) && decide (nm = fldN j) && chk ck o sc (.ex (.Name x p))
    | _ => false
  | ck, .mcall f o es, sc, s => false
  | ck, .tmp f es as, sc, s => match s with
    | .ex (.Call (.Attribute (.Call (.Name x _) (a :: l) [] _) nm ap) args [] cp) => ck.ex.mkd && decide (x = "Desk") && glB sc x && decide (ck.ex.mt f = some nm) && (ap.endLine == cp.line) && decide (args.length < 30) && chk ck es sc (.exs (a :: l)) && chk ck as sc (.exs args)
    | _ => false
  | ck, .met e, sc, s => match s with
    | .ex (.Call (.Name x _) [.Lambda params body scope _] [] _) => ck.ex.met && decide (x = "_law_met") && glB sc x && LamX.lamSB sc scope && noPar params && chk ck.offM e scope (.ex body)
    | _ => false
  | ck, .isx j a, sc, s => match s with
    | .ex (.Call (.Name x _) [.Name y p, .Name z _] [] _) => ck.ex.xc && decide (x = "isinstance") && glB sc x && (if j = 11 then decide (z = "ValueError") else decide (ck.er j = some z)) && glB sc z && chk ck a sc (.ex (.Name y p))
    | _ => false
  | ck, .dix i j, sc, s => match s with
    | .ex (.Subscript (.Name x _) (.Constant (.int z) _ _) _) => decide (ck.N[i]? = some x) && visB sc x && okName x && decide (z = (j : Int)) && decide (j < 2)
    | _ => false
structure ES (c : Cn) (env : Env) (d : Dice) (F : Addr → Prop) (σ : L2.St) (H : Hp) : Prop where
  wf : Wf c F H d
  len : env.length = σ.length
  sh : ∀ (i : Nat) x, env[i]? = some (.sh x) → ∃ v, σ[i]? = some (some v) ∧ Dq c F H v x
  ow : ∀ (i : Nat) xs, env[i]? = some (.ow xs) → ∃ p vs, σ[i]? = some (some (.ref p)) ∧ H p = some (.lst vs) ∧ DqA c F H vs xs ∧ ¬ F p ∧ p ≠ c.dc
  inj : ∀ (i j : Nat) xs ys p, env[i]? = some (.ow xs) → env[j]? = some (.ow ys) → σ[i]? = some (some (.ref p)) → σ[j]? = some (some (.ref p)) → i = j
section
variable {c : Cn} {env : Env} {d d' : Dice} {F F' : Addr → Prop} {σ : L2.St} {H H' : Hp}
theorem ES.step (es : ES c env d F σ H) (st : Step c F H F' H') (w : Wf c F' H' d') : ES c env d' F' σ H' where
  wf := w
  len := es.len
  sh := fun i x e => by
    obtain ⟨v, e1, q⟩ := es.sh i x e
    exact ⟨v, e1, q.mono (st.le es.wf)⟩
  ow := fun i xs e => by
    obtain ⟨p, vs, e1, h, r, nf, nd⟩ := es.ow i xs e
    refine ⟨p, vs, e1, st.keep p _ h nd trivial, r.mono (st.le es.wf), fun z => ?_, nd⟩
    rcases st.new p z with z | z | z
    · exact nf z
    · exact z.not h
    · exact nd z
  inj := es.inj
theorem ES.wipe (es : ES c env d F σ H) : ∀ vs : List Nat, ES c (env.wipe vs) d F (L2.wipe σ vs) H
  | [] => es
  | v :: vs => by
    have ih := ES.wipe es vs
    have key : ∀ (i : Nat) s, s ≠ Sl.no → ((Env.wipe env vs).set v .no)[i]? = some s → (Env.wipe env vs)[i]? = some s ∧ ((L2.wipe σ vs).set v none)[i]? = (L2.wipe σ vs)[i]? := fun i s hs e => by
      by_cases hv : i = v
      · subst hv
        rw [List.getElem?_set] at e
        simp at e
        exact absurd e.2.symm hs
      · rw [List.getElem?_set_ne (Ne.symm hv)] at e ⊢
        exact ⟨e, rfl⟩
    refine ⟨ih.wf, ?_, fun i x e => ?_, fun i xs e => ?_, fun i j xs ys p e1 e2 e3 e4 => ?_⟩
    · show ((Env.wipe env vs).set v .no).length = ((L2.wipe σ vs).set v none).length
      simpa using ih.len
    · obtain ⟨e', q⟩ := key i _ (by simp) e
      show ∃ w, ((L2.wipe σ vs).set v none)[i]? = some (some w) ∧ _
      rw [q]; exact ih.sh i x e'
    · obtain ⟨e', q⟩ := key i _ (by simp) e
      show ∃ p ws, ((L2.wipe σ vs).set v none)[i]? = some (some (.ref p)) ∧ _
      rw [q]; exact ih.ow i xs e'
    · obtain ⟨e1', q1⟩ := key i _ (by simp) e1
      obtain ⟨e2', q2⟩ := key j _ (by simp) e2
      replace e3 : ((L2.wipe σ vs).set v none)[i]? = some (some (.ref p)) := e3
      replace e4 : ((L2.wipe σ vs).set v none)[j]? = some (some (.ref p)) := e4
      rw [q1] at e3
      rw [q2] at e4
      exact ih.inj i j xs ys p e1' e2' e3 e4
theorem ES.put (es : ES c env d F σ H) {i : Nat} {x : D} {v : V} {env' : Env} (q : Dq c F H v x) (e : env.put i (.sh x) = some env') : ES c env' d F (σ.set i (some v)) H := by
  unfold Env.put at e
  split at e <;> cases e
  rename_i hi
  have hi' : i < σ.length := es.len ▸ hi
  refine ⟨es.wf, by simpa using es.len, fun j y e1 => ?_, fun j xs e1 => ?_, fun j k xs ys p e1 e2 e3 e4 => ?_⟩
  · by_cases hj : j = i
    · subst hj
      rw [List.getElem?_set_self hi] at e1
      cases e1
      exact ⟨v, by rw [List.getElem?_set_self hi'], q⟩
    · rw [List.getElem?_set_ne (Ne.symm hj)] at e1 ⊢
      exact es.sh j y e1
  · by_cases hj : j = i
    · subst hj
      rw [List.getElem?_set_self hi] at e1
      cases e1
    · rw [List.getElem?_set_ne (Ne.symm hj)] at e1 ⊢
      exact es.ow j xs e1
  · have hj : j ≠ i := fun z => by subst z; rw [List.getElem?_set_self hi] at e1; cases e1
    have hk : k ≠ i := fun z => by subst z; rw [List.getElem?_set_self hi] at e2; cases e2
    rw [List.getElem?_set_ne (Ne.symm hj)] at e1 e3
    rw [List.getElem?_set_ne (Ne.symm hk)] at e2 e4
    exact es.inj j k xs ys p e1 e2 e3 e4
end
theorem ES.sameOut {c : Cn} {env : Env} {d : Dice} {F : Addr → Prop} {σ : L2.St} {H : Hp} (es : ES c env d F σ H) {i : Nat} {v : V} {x : D} {env' : Env} (e : env.put i (.sh x) = some env') : (σ.set i (some v)).length = σ.length ∧ ∀ j : Nat, j ≠ i → (σ.set i (some v))[j]? = σ[j]? :=
  ⟨by simp, fun j hj => by rw [List.getElem?_set_ne (Ne.symm hj)]⟩
section
variable (c : Cn) (W : WX) (σ : L2.St)
def RG {α : Type} (F : Addr → Prop) (H : Hp) (r : Res α) (P : α → Dice → (Addr → Prop) → Hp → Prop) : Prop := match r with
  | .ok x d' => ∀ H' F', Step c F H F' H' → Wf c F' H' d' → P x d' F' H'
  | .err k d' => ∀ H' F', Step c F H F' H' → Wf c F' H' d' → W (.ref (c.cl k)) none σ H'
  | .bad => False
end
section
variable {c : Cn} {W : WX} {σ : L2.St} {α β : Type} {F F1 : Addr → Prop} {H H1 : Hp} {r : Res α} {P P' : α → Dice → (Addr → Prop) → Hp → Prop}
theorem RG.step (h : RG c W σ F H r P) (st : Step c F H F1 H1) : RG c W σ F1 H1 r P := by
  cases r with
  | ok x d => exact fun H' F' s w => h H' F' (st.trans s) w
  | err k d => exact fun H' F' s w => h H' F' (st.trans s) w
  | bad => exact h
theorem RG.bind {f : α → Dice → Res β} {P : β → Dice → (Addr → Prop) → Hp → Prop} (h : RG c W σ F H (r.bind f) P) : RG c W σ F H r (fun x d1 F1 H1 => RG c W σ F1 H1 (f x d1) P) := by
  cases r with
  | ok x d => exact fun H' F' s w => RG.step h s
  | err k d => exact h
  | bad => exact h
theorem RG.imp (h : RG c W σ F H r P) (i : ∀ x d' F' H', Step c F H F' H' → Wf c F' H' d' → P x d' F' H' → P' x d' F' H') : RG c W σ F H r P' := by
  cases r with
  | ok x d => exact fun H' F' s w => i x d F' H' s w (h H' F' s w)
  | err k d => exact h
  | bad => exact h
theorem RG.of {o : Option α} {d : Dice} (h : RG c W σ F H (Res.of o d) P) : ∃ x, o = some x ∧ ∀ H' F', Step c F H F' H' → Wf c F' H' d → P x d F' H' := by
  cases o with
  | some x => exact ⟨x, rfl, h⟩
  | none => exact h.elim
theorem RG.ok {x : α} {d : Dice} (h : RG c W σ F H (.ok x d) P) (w : Wf c F H d) : P x d F H := h H F .refl w
end
section
variable (c : Cn) (cf : CF) (W : WX) (e : E)
def tE : TE := fun σ H Q => ∃ env d F, ES c env d F σ H ∧ RG c W σ F H (ev cf e env d) fun x _ F' H' => ∀ v, Dq c F' H' v x → Q v H'
def tA : TA := fun σ H Q => ∃ env d F, ES c env d F σ H ∧ RG c W σ F H (ev cf e env d) fun x _ F' H' => ∀ vs, DqA c F' H' vs (tups x) → Q vs H'
def tT : TT := fun σ H Q => ∃ env d F, ES c env d F σ H ∧ RG c W σ F H (ev cf e env d) fun x _ F' H' => ∃ b, truth x = some b ∧ Q b H'
def ItOk (J : It) (F : Addr → Prop) (H : Hp) (l : List D) : Prop := ∃ G Y, Walk J l.length G Y ∧ (∀ H2 F2, Le F H F2 H2 → G H2) ∧
  ∀ (i : Nat) H2 F2 x H3 y, Le F H F2 H2 → l[i]? = some y → Y i H2 x H3 → (H3 = H2 ∧ Dq c F2 H2 x y) ∨ ∃ T xs ys, x = .ref T ∧ H2 T = none ∧ H3 = upd H2 T (.tup xs) ∧ y = .tup ys ∧ DqA c F2 H2 xs ys
def tI : TI := fun σ H R => ∃ env d F, ES c env d F σ H ∧ RG c W σ F H (ev cf e env d) fun x _ F' H' => ∃ l, items x = some l ∧ ∀ J, ItOk c J F' H' l → R J H'
def SameOut (vs : List Nat) (σ σ' : L2.St) : Prop := σ'.length = σ.length ∧ ∀ j : Nat, j ∉ vs → σ'[j]? = σ[j]?
def gT : TG := fun v σ H Q => ∃ env d F x, ES c env d F σ H ∧ Dq c F H v x ∧ ∃ env', asg e x env = some env' ∧ ∀ σ', ES c env' d F σ' H → SameOut (tgSl e) σ σ' → Q σ' H
def gTs : TGs := fun vs σ H Q => ∃ env d F xs, ES c env d F σ H ∧ DqA c F H vs xs ∧ ∃ env', asg e (.tup xs) env = some env' ∧ ∀ σ', ES c env' d F σ' H → SameOut (tgSl e) σ σ' → Q σ' H
end
theorem PE.imp {X : Cx} {x : Expr} {t t' : TE} (h : PE X x t) (i : ∀ σ H Q, t' σ H Q → t σ H Q) : PE X x t' := ⟨fun pins s σ H Q I q => h.run pins s σ H Q I (i σ H Q q)⟩
theorem PT.imp {X : Cx} {x : Expr} {t t' : TT} (h : PT X x t) (i : ∀ σ H Q, t' σ H Q → t σ H Q) : PT X x t' := ⟨fun pins s σ H Q I q => h.run pins s σ H Q I (i σ H Q q)⟩
theorem PA.imp {X : Cx} {x : List Expr} {t t' : TA} (h : PA X x t) (i : ∀ σ H Q, t' σ H Q → t σ H Q) : PA X x t' := ⟨fun pos pins s σ H Q I q => h.run pos pins s σ H Q I (i σ H Q q)⟩
theorem PI.imp {X : Cx} {tg x : Expr} {t t' : TI} (h : PI X tg x t) (i : ∀ σ H Q, t' σ H Q → t σ H Q) : PI X tg x t' := ⟨fun pins s σ H Q I q => h.run pins s σ H Q I (i σ H Q q)⟩
theorem PG.imp {X : Cx} {x : Expr} {t t' : TG} (h : PG X x t) (i : ∀ v σ H Q, t' v σ H Q → t v σ H Q) : PG X x t' := ⟨fun pins s σ H v u Q I r q => h.run pins s σ H v u Q I r (i v σ H Q q)⟩
theorem PGs.imp {X : Cx} {x : List Expr} {t t' : TGs} (h : PGs X x t) (i : ∀ v σ H Q, t' v σ H Q → t v σ H Q) : PGs X x t' := ⟨fun pins s σ H v u Q I r q => h.run pins s σ H v u Q I r (i v σ H Q q)⟩
theorem PS.imp {X : Cx} {x : Stmt} {t t' : TS} (h : PS X x t) (i : ∀ D σ H, t' D σ H → t D σ H) : PS X x t' := ⟨fun pins s σ H D I q => h.run pins s σ H D I (i D σ H q)⟩
theorem PSs.imp {X : Cx} {x : List Stmt} {t t' : TS} (h : PSs X x t) (i : ∀ D σ H, t' D σ H → t D σ H) : PSs X x t' := ⟨fun pins s σ H D I q => h.run pins s σ H D I (i D σ H q)⟩
def spF (c : Cn) (cf : CF) (f : Nat) : Sp := fun vs H Q E => ∃ F d xs, Wf c F H d ∧ DqA c F H vs xs ∧ match cf f xs d with
  | .ok z d' => ∀ v H' F', Step c F H F' H' → Wf c F' H' d' → Dq c F' H' v z → Q v H'
  | .err k d' => ∀ H' F', Step c F H F' H' → Wf c F' H' d' → E (.ref (c.cl k)) none H'
  | .bad => False
def bltNames : List String := ["len", "all", "any", "sum", "min", "max", "sorted", "tuple", "list", "abs", "int", "isinstance", "str", "bool", "range", "enumerate", "zip", "set"]
def tTold (c : Cn) (t : WX → TE) : TE := fun σ H Q => LamX.Tabs c.T H ∧ ∀ H1, LamX.ExtN H H1 → LamX.Tabs c.T H1 →
  t (fun cls dd _ H' => ∃ k, k < 11 ∧ cls = .ref (c.cl k) ∧ dd = none ∧ ∀ q H'', Same H' H'' → H'' q = some (.tup [.str ⟨errT.toArray⟩, .str ⟨(errS k).toArray⟩]) → Q (.ref q) H'') σ H1 Q
def CodeF (c : Cn) (X : Cx) : Prop := ∃ cc P, X.env.code = .ref cc ∧ LamX.TabB X.base X.mg cc P ∧ (P, X.env.qual ++ "<lambda>") ∈ c.T ∧ ∀ p ∈ c.T, p.1 = P → p.2 = X.env.qual ++ "<lambda>"
structure Alike (X Y : Cx) : Prop where
  prog : Y.prog = X.prog
  w : Y.w = X.w
  K : Y.K = X.K
  mg : Y.mg = X.mg
  base : Y.base = X.base
  N : Y.N = X.N
def ToldR (c : Cn) (k : Nat) (P : Program) (w : World) (K : PySem.W.Frag) (mg : Str → Option Value) (base : Heap) : Prop :=
  ∀ (X : Cx), X.prog = P → X.w = w → X.K = K → X.mg = mg → X.base = base → X.calm = true → Room (k + 2) X.A → CodeF c X →
    ∀ (params : Arguments) (body : Expr) (scope : Scope) (lpos p pos : Pos) (t : WX → TE), glB X.env.scope "_law_told" = true → LamX.lamSB X.env.scope scope = true → noPar params = true →
      (∀ (Y : Cx) (W : WX), Alike X Y → Y.calm = true → Room k Y.A → Y.env.scope = scope → L2N.Takes Y W → PE Y body (t W)) →
      PE X (.Call (.Name "_law_told" p) [.Lambda params body scope lpos] [] pos) (tTold c t)
def tMet (c : Cn) (t : WX → TE) : TE := fun σ H Q => LamX.Tabs c.T H ∧ ∀ H1, LamX.ExtN H H1 → LamX.Tabs c.T H1 →
  t (fun cls dd _ H' => ∃ k, k < 11 ∧ cls = .ref (c.cl k) ∧ dd = none ∧ ∀ a, H' a = none → Q (.ref a) (upd H' a (ExT (c.cl k) a))) σ H1 fun _ H' => Q .non H'
def MetR (c : Cn) (k : Nat) (P : Program) (w : World) (K : PySem.W.Frag) (mg : Str → Option Value) (base : Heap) : Prop :=
  ∀ (X : Cx), X.prog = P → X.w = w → X.K = K → X.mg = mg → X.base = base → X.calm = true → Room (k + 2) X.A → CodeF c X →
    ∀ (params : Arguments) (body : Expr) (scope : Scope) (lpos p pos : Pos) (t : WX → TE), glB X.env.scope "_law_met" = true → LamX.lamSB X.env.scope scope = true → noPar params = true →
      (∀ (Y : Cx) (W : WX), Alike X Y → Y.calm = true → Room k Y.A → Y.env.scope = scope → L2N.Takes Y W → PE Y body (t W)) →
      PE X (.Call (.Name "_law_met" p) [.Lambda params body scope lpos] [] pos) (tMet c t)
structure DeskC (dk : Addr) (K : PySem.W.Frag) : Prop where
  cls : Cls K dk
  no : ∀ j, j < 3 → NoAttr K dk (fldN j)
def spInit (c : Cn) (cf : CF) : Sp := fun vs H Q E => ∃ (F : Addr → Prop) (d : Dice) (t : D) (v : V) (x dx : Addr) (H1 : Hp), vs = [.ref x, v] ∧ H = upd (upd H1 dx (.own x)) x (.ins c.dk dx []) ∧ H1 x = none ∧ H1 dx = none ∧ dx ≠ x ∧ Wf c F H1 d ∧ Dq c F H1 v t ∧ match cf 900 [t] d with
  | .ok _ d' => d'.k = none ∧ ((∀ b, F b → ∃ xs, H1 b = some (.lst xs)) → ∀ H' F' fs, Step c F H1 F' H' → Wf c F' H' ⟨d'.a, d'.b, some (t, .lst [], .lst [])⟩ → F' x → H' x = some (.ins c.dk dx fs) → Q .non H')
  | .err k d' => ∀ H' F', Step c F H1 F' H' → Wf c F' H' d' → E (.ref (c.cl k)) none H'
  | .bad => False
structure ClsI (c : Cn) (K : PySem.W.Frag) (mg : Str → Option Value) (er : Nat → Option Str) : Prop where
  at_ : ∀ j nm, er j = some nm → j < 11 ∧ mg nm = some (.ref (c.cl j)) ∧ (nm == ("__debug__" : Str)) = false
  ne : ∀ j k, j < 11 → k < 11 → PySem.W.kitOne K (.ref (c.cl k)) (.ref (c.cl j)) = some (decide (k = j))
  ve : ∀ k, k < 11 → PySem.W.kitOne K (.ref (c.cl k)) (.type "ValueError") = some true
  ex : ∀ k, k < 11 → ExcC K (c.cl k)
  vn : mg "ValueError" = none
structure MkR (c : Cn) (ck : Ck) (cf : CF) (k : Nat) (X : Cx) : Prop where
  room : Room (k + 1) X.A
  mg : X.mg "Desk" = some (.ref c.dk)
  dk : DeskC c.dk X.K
  init : ∃ fi fd ps, Mk X.K c.dk fi ∧ Binds X.K fd ps [] ∧ FnOk X.prog X.w X.K X.mg X.base (L2N.CX X.prog X.w) k fi fd ps (spInit c cf)
  mt : ∀ f nm, ck.ex.mt f = some nm → ∃ fa fd ps, Meth X.K c.dk nm fa ∧ (∀ j, j < 3 → fldN j ≠ nm) ∧ Binds X.K fd ps [] ∧ FnOk X.prog X.w X.K X.mg X.base (L2N.CX X.prog X.w) k fa fd ps (spF c cf f)
structure Good (c : Cn) (ck : Ck) (cf : CF) (k : Nat) (X : Cx) : Prop where
  N : X.N = ck.N
  nd : ck.N.Nodup
  calm : X.calm = true
  room : Room k X.A
  blt : ∀ x ∈ bltNames, X.mg (Str.ofString x) = none
  fns : ∀ f nm, ck.fnm f = some nm → (nm == ("__debug__" : Str)) = false ∧ ∃ fa fd ps, X.mg nm = some (.ref fa) ∧ PySem.W.keepIn X.K (.ref fa) = true ∧ Binds X.K fd ps [] ∧ FnOk X.prog X.w X.K X.mg X.base (L2N.CX X.prog X.w) k fa fd ps (spF c cf f)
  lam : ck.lam = true → CodeF c X ∧ Room (k + 2) X.A ∧ ToldR c k X.prog X.w X.K X.mg X.base
  dk : ck.ex.dk = true → DeskC c.dk X.K
  xc : ck.ex.xc = true → ClsI c X.K X.mg ck.er
  mkd : ck.ex.mkd = true → MkR c ck cf k X
  met : ck.ex.met = true → CodeF c X ∧ Room (k + 3) X.A ∧ MetR c (k + 1) X.prog X.w X.K X.mg X.base
def TgOk (X : Cx) (sc : Scope) : Prop := ∀ x, locB sc x = true → L2.Loc X.env.scope x ∧ (X.fn x = true ∨ X.env.scope.names.lookup x = some .local)
def Snd (c : Cn) (cf : CF) (X : Cx) (W : WX) (sc : Scope) (e : E) : Syn → Prop
  | .ex x => PE X x (tE c cf W e) ∧ PT X x (tT c cf W e)
  | .exs l => PA X l (tA c cf W e)
  | .tg x => TgOk X sc → PG X x (gT c e)
  | .tgs l => TgOk X sc → PGs X l (gTs c e)
  | .it x => ∀ tg, tgIt e tg = true → PI X tg x (tI c cf W e)
end SG
namespace SG
open PySem PySem.Spec PyProof.Rows L2
section
variable {c : Cn} {ck : Ck} {cf : CF} {k : Nat} {X : Cx} {W : WX}
theorem star1 {x : Expr} {l : List Expr} {env : PySem.Env} (h : notStar x = true) : starEach (x :: l) env = (false, eval x env) :: starEach l env := by
  cases x <;> first | rfl | (simp [notStar] at h)
theorem chk_star {e : E} {sc : Scope} : ∀ {l : List Expr}, chk ck e sc (.exs l) = true → l.all notStar = true := by
  induction e with
  | nil => intro l h; cases l with | nil => rfl | cons x r => exact absurd h (by simp [chk])
  | cons a r iha ihr =>
    intro l h
    cases l with
    | nil => rfl
    | cons x xs =>
      simp only [chk, Bool.and_eq_true] at h
      rw [List.all_cons, h.1.1, ihr h.2]; rfl
  | _ => intro l h; exact absurd h (by simp [chk])
theorem star_any {env : PySem.Env} {pos : Pos} : ∀ {l : List Expr}, l.all notStar = true → (backTo pos (starEach l env)).any (·.1) = false
  | [], _ => rfl
  | x :: l, h => by
    rw [List.all_cons, Bool.and_eq_true] at h
    rw [star1 h.1]
    have ih := star_any (pos := pos) (env := env) h.2
    simp only [backTo, List.map_cons, List.any_cons] at ih ⊢
    rw [ih]; rfl
theorem gl_of {x : Str} (h : glB X.env.scope x = true) : Gl X x := by
  show X.env.scope.names.lookup x = some .globalImplicit
  unfold glB at h
  split at h <;> simp_all
theorem vis_of {sc : Scope} {x : Str} (h : visB sc x = true) : Vis sc x := by
  unfold visB at h
  unfold Vis
  split at h <;> simp_all
theorem loc_of {sc : Scope} {x : Str} (h : locB sc x = true) : L2.Loc sc x := by
  unfold locB at h
  unfold L2.Loc
  split at h <;> simp_all
theorem nm_of {x : Str} (h : okName x = true) : (x == ("__debug__" : Str)) = false ∧ (x == ("__classdict__" : Str)) = false := by
  unfold okName at h
  simpa using h
theorem pt_of {x : Expr} {e : E} (h : PE X x (tE c cf W e)) (he : ∀ whole, isTrue x X.env whole = (do let v ← whole; standAt x.pos; holding [v] (truthy v))) : PT X x (tT c cf W e) :=
  PT.imp (pt_truth h he) fun σ H Q ⟨env, d, F, es, r⟩ => ⟨env, d, F, es, r.imp fun y d' F' H' st w ⟨b, hb, q⟩ v dq => by
    cases y <;> simp [truth] at hb
    · cases dq; subst hb; exact ⟨_, rfl, q⟩
    · cases dq
      refine ⟨b, ?_, q⟩
      show b = (_ != 0)
      cases b <;> simp_all [bne]⟩
theorem snd_ex {sc : Scope} {x : Expr} {e : E} (p : PE X x (tE c cf W e)) (he : ∀ whole, isTrue x X.env whole = (do let v ← whole; standAt x.pos; holding [v] (truthy v))) : Snd c cf X W sc e (.ex x) := ⟨p, pt_of p he⟩
theorem opBin_rule (o : Bop) {op : Operator} (h : bopB o op = true) : OpR X (binaryOp op) (R2D c (opBin o)) := by
  have e := of_decide_eq_true h
  subst e
  cases o
  · exact bop_add
  · exact bop_sub
  · exact bop_mul
  · exact bop_fdiv
  · exact bop_mod
  · exact bop_pow
theorem opCmp_rule (hu : X.A.units + 66 < cLine) (o : Cop) {op : CmpOp} (h : copB o op = true) : OpR X (compareOp op) (R2D c fun a b => (opCmp o a b).map .bl) := by
  have e := of_decide_eq_true h
  subst e
  cases o
  · exact cop_eq hu
  · exact cop_ne hu
  · exact cop_lt hu
  · exact cop_le hu
  · exact cop_gt hu
  · exact cop_ge hu
  · exact cop_in hu
  · exact cop_notin hu
theorem mark_of {op : CmpOp} {x : Expr} (h : notSet x = true) : behindInMarks op x = false := by
  cases x <;> first | rfl | (simp [notSet] at h)
theorem Good.units (G : Good c ck cf k X) : X.A.units + 66 < cLine := by have := G.room.un; omega
theorem s_nil {sc : Scope} {s : Syn} (h : chk ck .nil sc s = true) : Snd c cf X W sc .nil s := by
  simp only [chk] at h
  split at h
  · exact PA.imp pa_nil fun σ H Q ⟨env, d, F, es, r⟩ => r.ok es.wf _ .nil
  · exact fun _ => PGs.imp pgs_nil fun vs σ H Q ⟨env, d, F, xs, es, r, env', e, q⟩ => by
      cases xs with
      | nil =>
        cases r
        simp only [asg] at e
        cases e
        exact ⟨rfl, q σ es ⟨rfl, fun _ _ => rfl⟩⟩
      | cons x xs => simp [asg] at e
  · cases h
theorem tups_tup (x : D) (l : List D) : tups (.tup (x :: l)) = x :: l := rfl
theorem s_cons {a r : E} {sc : Scope} {s : Syn} (iha : ∀ s, chk ck a sc s = true → Snd c cf X W sc a s) (ihr : ∀ s, chk ck r sc s = true → Snd c cf X W sc r s) (h : chk ck (.cons a r) sc s = true) : Snd c cf X W sc (.cons a r) s := by
  simp only [chk] at h
  split at h
  · simp only [Bool.and_eq_true] at h
    obtain ⟨⟨h1, h2⟩, h3⟩ := h
    have pa := (iha _ h2).1
    have pr : PA X _ (tA c cf W r) := ihr _ h3
    exact PA.imp (pa_cons pa pr (star1 h1)) fun σ H Q ⟨env, d, F, es, q⟩ => by
      simp only [ev] at q
      exact ⟨env, d, F, es, q.bind.imp fun x d1 F1 H1 st w q1 v dq => ⟨env, d1, F1, es.step st w, q1.bind.imp fun y d2 F2 H2 st2 w2 q2 vs dqs => q2.ok w2 _ (.cons (dq.mono (st2.le w)) dqs)⟩⟩
  · simp only [Bool.and_eq_true] at h
    obtain ⟨⟨h1, h2⟩, h3⟩ := h
    rename_i x xs
    intro tgok
    have pa : PG X _ (gT c a) := iha _ h2 tgok
    have pr : PGs X _ (gTs c r) := ihr _ h3 tgok
    refine PGs.imp (pgs_cons pa pr ?_) fun vs σ H Q ⟨env, d, F, ys, es, q, env', e, k⟩ => ?_
    · cases x <;> first | rfl | (simp [notStar] at h1)
    · cases ys with
      | nil => simp [asg] at e
      | cons y ys =>
        cases q with
        | cons q qs =>
          simp only [asg] at e
          cases e1 : asg a y env with
          | none => rw [e1] at e; cases e
          | some env1 =>
            rw [e1] at e
            refine ⟨_, _, rfl, env, d, F, y, es, q, env1, e1, fun σ' es' so => ?_⟩
            refine ⟨env1, d, F, ys, es', qs, env', e, fun σ2 es2 so2 => k σ2 es2 ⟨so2.1.trans so.1, fun j hj => ?_⟩⟩
            simp only [tgSl, List.mem_append, not_or] at hj
            exact (so2.2 j hj.2).trans (so.2 j hj.1)
  · cases h
theorem s_var {i : Nat} {s : Syn} (G : Good c ck cf k X) (h : chk ck (.var i) X.env.scope s = true) : Snd c cf X W X.env.scope (.var i) s := by
  simp only [chk] at h
  split at h
  · simp only [Bool.and_eq_true] at h
    obtain ⟨⟨h1, h2⟩, h3⟩ := h
    have hn := of_decide_eq_true h1
    refine snd_ex (PE.imp (pe_var (i := i) (by rw [G.N]; exact hn) (vis_of h2) (nm_of h3).1 (nm_of h3).2) fun σ H Q ⟨env, d, F, es, q⟩ => by
      simp only [ev] at q
      obtain ⟨x, e, q⟩ := q.of
      unfold Env.get at e
      split at e <;> cases e
      rename_i he
      obtain ⟨v, e1, dq⟩ := es.sh i _ he
      exact ⟨v, e1, q H F .refl es.wf v dq⟩) fun _ => rfl
  · simp only [Bool.and_eq_true] at h
    obtain ⟨h1, h2⟩ := h
    have hn := of_decide_eq_true h1
    intro tgok
    exact PG.imp (pg_name (i := i) (by rw [G.N]; exact G.nd) (by rw [G.N]; exact hn) (tgok _ h2).1 (tgok _ h2).2) fun v σ H Q ⟨env, d, F, x, es, dq, env', e, q⟩ => by
      simp only [asg] at e
      refine q _ (es.put dq e) ?_
      have := es.sameOut (v := v) e
      exact ⟨this.1, fun j hj => this.2 j (by simpa [tgSl] using hj)⟩
  · cases h
theorem s_varT {i : Nat} {sc : Scope} {x : Expr} (G : Good c ck cf k X) (h : chk ck (.var i) sc (.tg x) = true) : Snd c cf X W sc (.var i) (.tg x) := by
  cases x with
  | Name x p =>
    simp only [chk, Bool.and_eq_true] at h
    obtain ⟨h1, h2⟩ := h
    have hn := of_decide_eq_true h1
    intro tgok
    exact PG.imp (pg_name (i := i) (by rw [G.N]; exact G.nd) (by rw [G.N]; exact hn) (tgok _ h2).1 (tgok _ h2).2) fun v σ H Q ⟨env, d, F, x, es, dq, env', e, q⟩ => by
      simp only [asg] at e
      refine q _ (es.put dq e) ?_
      have := es.sameOut (v := v) e
      exact ⟨this.1, fun j hj => this.2 j (by simpa [tgSl] using hj)⟩
  | _ => simp [chk] at h
theorem s_const {sc : Scope} {x : Expr} {v : V} {y : D} {e : E} (h : PE X x (tC v)) (he : ∀ whole, isTrue x X.env whole = (do let v ← whole; standAt x.pos; holding [v] (truthy v))) (hy : ∀ dc F H, Dq dc F H v y) (hev : ∀ env d, ev cf e env d = .ok y d) : Snd c cf X W sc e (.ex x) := by
  have p : PE X x (tE c cf W e) := PE.imp h fun σ H Q ⟨env, d, F, es, q⟩ => by
    rw [hev] at q
    exact q.ok es.wf _ (hy _ _ _)
  exact ⟨p, pt_of p he⟩
theorem str_of {t : List Nat} {x : Str} (h : strE t x = true) : x = ⟨t.toArray⟩ := by
  have := of_decide_eq_true h
  rw [← this]
theorem ascii_of {t : List Nat} (h : asciiB t = true) : ∀ c ∈ t, c < 128 := fun c hc => of_decide_eq_true (List.all_eq_true.mp h c hc)
theorem s_tupT {a : E} {sc : Scope} {l : List Expr} {q : Nat} {p : Pos} (G : Good c ck cf k X) (iha : ∀ l, chk ck a sc (.tgs l) = true → Snd c cf X W sc a (.tgs l)) (h : chk ck (.tup a) sc (.tg (.Tuple l q p)) = true) : Snd c cf X W sc (.tup a) (.tg (.Tuple l q p)) := by
  simp only [chk] at h
  intro tgok
  have pa : PGs X _ (gTs c a) := iha _ h tgok
  have hnn : ∀ (a : E) (l : List Expr), chk ck a sc (.tgs l) = true → l.all notStar = true := by
    intro a
    induction a with
    | nil => intro l h; cases l with | nil => rfl | cons x r => simp [chk] at h
    | cons a r iha ihr =>
      intro l h
      cases l with
      | nil => rfl
      | cons x xs =>
        simp only [chk, Bool.and_eq_true] at h
        rw [List.all_cons, h.1.1, ihr _ h.2]; rfl
    | _ => intro l h; simp [chk] at h
  have ns := hnn a l h
  have h1 : (assignEach l X.env).length = l.length ∧ (assignEach l X.env).findIdx? (·.1) = none := by
    clear h pa
    induction l with
    | nil => exact ⟨rfl, rfl⟩
    | cons x xs ih =>
      rw [List.all_cons, Bool.and_eq_true] at ns
      have e : assignEach (x :: xs) X.env = (false, assign x X.env) :: assignEach xs X.env := by
        cases x <;> first | rfl | (simp [notStar] at ns)
      obtain ⟨i1, i2⟩ := ih ns.2
      rw [e]
      refine ⟨by simp [i1], ?_⟩
      rw [List.findIdx?_cons, i2]; rfl
  have hlen : ∀ (a : E) (l : List Expr) (xs : List D) env env', chk ck a sc (.tgs l) = true → asg a (.tup xs) env = some env' → xs.length = l.length := by
    intro a
    induction a with
    | nil =>
      intro l xs env env' h e
      cases l with
      | nil => cases xs with | nil => rfl | cons x xs => simp [asg] at e
      | cons y l => simp [chk] at h
    | cons a r iha ihr =>
      intro l xs env env' h e
      cases l with
      | nil => simp [chk] at h
      | cons y l =>
        cases xs with
        | nil => simp [asg] at e
        | cons x xs =>
          simp only [chk, Bool.and_eq_true] at h
          simp only [asg] at e
          cases e1 : asg a x env with
          | none => rw [e1] at e; cases e
          | some env1 =>
            rw [e1] at e
            simp [ihr l xs env1 env' h.2 e]
    | _ => intro l xs env env' h e; simp [chk] at h
  exact PG.imp (pg_tup (n := l.length) G.calm pa h1.1 h1.2) fun v σ H Q ⟨env, d, F, x, es, dq, env', e, q⟩ => by
    cases x <;> simp [asg] at e
    cases dq with
    | tup ha r =>
      refine ⟨_, _, rfl, SqT.of ha, ?_, env, d, F, _, es, r, env', e, fun σ' es' so => q σ' es' so⟩
      rw [r.length]
      exact hlen a l _ _ _ h e
theorem s_tup {a : E} {sc : Scope} {s : Syn} (G : Good c ck cf k X) (iha : ∀ s, chk ck a sc s = true → Snd c cf X W sc a s) (tup : ∀ env d x d', ev cf a env d = .ok x d' → (∃ l, chk ck a sc (.exs l) = true) → x = .tup (tups x) ∧ ∀ l, chk ck a sc (.exs l) = true → (tups x).length = l.length) (h : chk ck (.tup a) sc s = true) : Snd c cf X W sc (.tup a) s := by
  simp only [chk] at h
  split at h
  · simp only [Bool.and_eq_true] at h
    obtain ⟨h1, h2⟩ := h
    have pa : PA X _ (tA c cf W a) := iha _ h2
    refine snd_ex (PE.imp (pe_tup pa) fun σ H Q ⟨env, d, F, es, q⟩ => by
      simp only [ev] at q
      refine ⟨env, d, F, es, ?_⟩
      cases e : ev cf a env d with
      | ok x d' =>
        rw [e] at q
        have ht := tup env d x d' e ⟨_, h2⟩
        intro H' F' st w vs dqs
        refine ⟨?_, fun p hp => ?_⟩
        · rw [dqs.length, ht.2 _ h2]
          have := of_decide_eq_true h1
          rw [sizeLine_eq]; omega
        · rw [ht.1] at q
          exact q _ F' (st.trans (.new' hp)) (w.new' hp) _ (.newT w hp dqs)
      | err n d' => rw [e] at q; exact q
      | bad => rw [e] at q; exact q) fun _ => rfl
  · exact s_tupT G (fun l h => iha _ h) (by simp only [chk]; exact h)
  · cases h
end
end SG
namespace SG
open PySem PySem.Spec PyProof.Rows L2
section
variable {c : Cn} {ck : Ck} {cf : CF} {k : Nat} {X : Cx} {W : WX}
theorem ev_list {a : E} {sc : Scope} : ∀ {l : List Expr} {env : Env} {d d' : Dice} {x : D}, chk ck a sc (.exs l) = true → ev cf a env d = .ok x d' → x = .tup (tups x) ∧ (tups x).length = l.length := by
  induction a with
  | nil =>
    intro l env d d' x h e
    cases l with
    | nil => simp only [ev] at e; cases e; exact ⟨rfl, rfl⟩
    | cons y l => simp [chk] at h
  | cons a r iha ihr =>
    intro l env d d' x h e
    cases l with
    | nil => simp [chk] at h
    | cons y l =>
      simp only [chk, Bool.and_eq_true] at h
      simp only [ev] at e
      cases e1 : ev cf a env d with
      | ok x1 d1 =>
        rw [e1] at e
        simp only [Res.bind] at e
        cases e2 : ev cf r env d1 with
        | ok x2 d2 =>
          rw [e2] at e
          cases e
          refine ⟨rfl, ?_⟩
          show (tups x2).length + 1 = l.length + 1
          rw [(ihr h.2 e2).2]
        | err n d2 => rw [e2] at e; cases e
        | bad => rw [e2] at e; cases e
      | err n d1 => rw [e1] at e; cases e
      | bad => rw [e1] at e; cases e
  | _ => intro l env d d' x h e; simp [chk] at h
theorem s_lst {a : E} {sc : Scope} {s : Syn} (iha : ∀ s, chk ck a sc s = true → Snd c cf X W sc a s) (h : chk ck (.lst a) sc s = true) : Snd c cf X W sc (.lst a) s := by
  simp only [chk] at h
  split at h
  · simp only [Bool.and_eq_true] at h
    obtain ⟨h1, h2⟩ := h
    have pa : PA X _ (tA c cf W a) := iha _ h2
    refine snd_ex (PE.imp (pe_lst pa) fun σ H Q ⟨env, d, F, es, q⟩ => ?_) fun _ => rfl
    simp only [ev] at q
    refine ⟨env, d, F, es, ?_⟩
    cases e : ev cf a env d with
    | ok x d' =>
      rw [e] at q
      have ht := ev_list h2 e
      intro H' F' st w vs dqs
      refine ⟨?_, fun p hp => ?_⟩
      · rw [dqs.length, ht.2]
        have := of_decide_eq_true h1
        rw [sizeLine_eq]; omega
      · exact q _ _ (st.trans (.newF hp)) (w.newF hp) _ (.newL w hp dqs)
    | err n d' => rw [e] at q; exact q
    | bad => rw [e] at q; exact q
  · cases h
theorem s_bin {o : Bop} {a b : E} {sc : Scope} {s : Syn} (iha : ∀ s, chk ck a sc s = true → Snd c cf X W sc a s) (ihb : ∀ s, chk ck b sc s = true → Snd c cf X W sc b s) (h : chk ck (.bin o a b) sc s = true) : Snd c cf X W sc (.bin o a b) s := by
  simp only [chk] at h
  split at h
  · simp only [Bool.and_eq_true] at h
    obtain ⟨⟨h1, h2⟩, h3⟩ := h
    refine snd_ex (PE.imp (pe_op (opBin_rule (c := c) o h1) (iha _ h2).1 (ihb _ h3).1) fun σ H Q ⟨env, d, F, es, q⟩ => ?_) fun _ => rfl
    simp only [ev] at q
    refine ⟨env, d, F, es, q.bind.imp fun x d1 F1 H1 st w q1 v dq => ⟨env, d1, F1, es.step st w, q1.bind.imp fun y d2 F2 H2 st2 w2 q2 u dq2 => ?_⟩⟩
    obtain ⟨z, ez, q3⟩ := q2.of
    exact ⟨F2, d2, x, y, z, w2, dq.mono (st2.le w), dq2, ez, fun v' H' F' s' w' r => q3 H' F' s' w' v' r⟩
  · cases h
theorem s_neg {a : E} {sc : Scope} {s : Syn} (iha : ∀ s, chk ck a sc s = true → Snd c cf X W sc a s) (h : chk ck (.neg a) sc s = true) : Snd c cf X W sc (.neg a) s := by
  simp only [chk] at h
  split at h
  · refine snd_ex (PE.imp (pe_un un_neg (iha _ h).1) fun σ H Q ⟨env, d, F, es, q⟩ => ?_) fun _ => rfl
    simp only [ev] at q
    refine ⟨env, d, F, es, q.bind.imp fun x d1 F1 H1 st w q1 v dq => ?_⟩
    cases x <;> first | exact q1.elim | skip
    cases dq
    exact ⟨_, rfl, q1.ok w _ (.int _)⟩
  · cases h
theorem cmp_go {o : Cop} {a b : E} {σ : L2.St} {H : Hp} {Q : VK} (h : tE c cf W (.cmp o a b) σ H Q) : tOp (R2D c fun a b => (opCmp o a b).map .bl) (tE c cf W a) (tE c cf W b) σ H Q := by
  obtain ⟨env, d, F, es, q⟩ := h
  simp only [ev] at q
  refine ⟨env, d, F, es, q.bind.imp fun x d1 F1 H1 st w q1 v dq => ⟨env, d1, F1, es.step st w, q1.bind.imp fun y d2 F2 H2 st2 w2 q2 u dq2 => ?_⟩⟩
  obtain ⟨z, ez, q3⟩ := q2.of
  exact ⟨F2, d2, x, y, z, w2, dq.mono (st2.le w), dq2, ez, fun v' H' F' s' w' r => q3 H' F' s' w' v' r⟩
theorem tT_of {e : E} {σ : L2.St} {H : Hp} {Q : Bool → Hp → Prop} (h : tT c cf W e σ H Q) (hb : ∀ env d x d', ev cf e env d = .ok x d' → ∃ b, x = .bl b) : tE c cf W e σ H (fun x H' => ∃ k, x = .bl k ∧ Q k H') := by
  obtain ⟨env, d, F, es, q⟩ := h
  refine ⟨env, d, F, es, ?_⟩
  cases e1 : ev cf e env d with
  | ok x d' =>
    rw [e1] at q
    obtain ⟨b, rfl⟩ := hb _ _ _ _ e1
    intro H' F' st w v dq
    obtain ⟨b', e2, q⟩ := q H' F' st w
    cases e2
    cases dq
    exact ⟨_, rfl, q⟩
  | err n d' => rw [e1] at q; exact q
  | bad => rw [e1] at q; exact q
theorem of_ok {α : Type} {o : Option α} {d d' : Dice} {x : α} (h : Res.of o d = .ok x d') : o = some x := by
  cases o <;> simp [Res.of] at h
  rw [h.1]
theorem bind_ok {α β : Type} {r : Res α} {f : α → Dice → Res β} {y : β} {d' : Dice} (h : r.bind f = .ok y d') : ∃ x d1, r = .ok x d1 ∧ f x d1 = .ok y d' := by
  cases r with
  | ok x d1 => exact ⟨x, d1, rfl, h⟩
  | err n d1 => cases h
  | bad => cases h
theorem map_bl {o : Option Bool} {x : D} (h : o.map D.bl = some x) : ∃ k, x = D.bl k := by
  cases o <;> cases h
  exact ⟨_, rfl⟩
theorem cmp_bl {o : Cop} {a b : E} {env : Env} {d d' : Dice} {x : D} (h : ev cf (.cmp o a b) env d = .ok x d') : ∃ k, x = .bl k := by
  simp only [ev] at h
  obtain ⟨y, d1, _, h⟩ := bind_ok h
  obtain ⟨z, d2, _, h⟩ := bind_ok h
  exact map_bl (of_ok h)
theorem s_cmp {o : Cop} {a b : E} {sc : Scope} {s : Syn} (G : Good c ck cf k X) (iha : ∀ s, chk ck a sc s = true → Snd c cf X W sc a s) (ihb : ∀ s, chk ck b sc s = true → Snd c cf X W sc b s) (h : chk ck (.cmp o a b) sc s = true) : Snd c cf X W sc (.cmp o a b) s := by
  simp only [chk] at h
  split at h
  · simp only [Bool.and_eq_true] at h
    obtain ⟨⟨⟨h0, h1⟩, h2⟩, h3⟩ := h
    refine ⟨PE.imp (pe_cmpR (opCmp_rule (c := c) G.units o h0) (iha _ h2).1 (ihb _ h3).1 (mark_of h1)) fun σ H Q h => cmp_go h, PT.imp (pt_cmpR (opCmp_rule (c := c) G.units o h0) (iha _ h2).1 (ihb _ h3).1 (mark_of h1)) fun σ H Q h => ?_⟩
    exact cmp_go (tT_of h fun _ _ _ _ e => cmp_bl e)
  · cases h
theorem r2_bl {o : Cop} {x y : V} {H : Hp} {Q : VK} {F : Addr → Prop} {d : Dice} {a b : D} {k : Bool} (w : Wf c F H d) (ra : Dq c F H x a) (rb : Dq c F H y b) (e : opCmp o a b = some k) (q : ∀ H' F', Step c F H F' H' → Wf c F' H' d → Q (.bl k) H') : R2D c (fun a b => (opCmp o a b).map .bl) x y H Q :=
  ⟨F, d, a, b, .bl k, w, ra, rb, by show (opCmp o a b).map D.bl = _; rw [e]; rfl, fun v H' F' st w' dq => by cases dq; exact q H' F' st w'⟩
theorem chain_go {o p : Cop} {a b e : E} {σ : L2.St} {H : Hp} {Q : VK} (h : tE c cf W (.chain o p a b e) σ H Q) :
    tChain (R2D c fun a b => (opCmp o a b).map .bl) (R2D c fun a b => (opCmp p a b).map .bl) (tE c cf W a) (tE c cf W b) (tE c cf W e) σ H Q := by
  obtain ⟨env, d, F, es, q⟩ := h
  simp only [ev] at q
  refine ⟨env, d, F, es, q.bind.imp fun x d1 F1 H1 st w q1 v dq => ⟨env, d1, F1, es.step st w, q1.bind.imp fun y d2 F2 H2 st2 w2 q2 u dq2 => ?_⟩⟩
  have es2 := (es.step st w).step st2 w2
  cases ec : opCmp o x y with
  | none => rw [ec] at q2; exact q2.elim
  | some t =>
    rw [ec] at q2
    refine r2_bl w2 (dq.mono (st2.le w)) dq2 ec fun H3 F3 st3 w3 => ⟨t, rfl, ?_⟩
    cases t with
    | true =>
      rw [if_pos rfl]
      have q2' := q2.step st3
      refine ⟨env, d2, F3, es2.step st3 w3, q2'.bind.imp fun z d4 F4 H4 st4 w4 q4 u' dq4 => ?_⟩
      obtain ⟨z', ez, q5⟩ := q4.of
      exact ⟨F4, d4, y, z, z', w4, (dq2.mono (st3.le w2)).mono (st4.le w3), dq4, ez, fun v' H' F' s' w' r => q5 H' F' s' w' v' r⟩
    | false =>
      rw [if_neg Bool.false_ne_true]
      exact (q2.step st3).ok w3 _ (.bl _)
theorem s_chain {o p : Cop} {a b e : E} {sc : Scope} {s : Syn} (G : Good c ck cf k X) (iha : ∀ s, chk ck a sc s = true → Snd c cf X W sc a s) (ihb : ∀ s, chk ck b sc s = true → Snd c cf X W sc b s) (ihe : ∀ s, chk ck e sc s = true → Snd c cf X W sc e s) (h : chk ck (.chain o p a b e) sc s = true) : Snd c cf X W sc (.chain o p a b e) s := by
  simp only [chk] at h
  split at h
  · simp only [Bool.and_eq_true] at h
    obtain ⟨⟨⟨⟨⟨h0, h0'⟩, h1⟩, h2⟩, h3⟩, h4⟩ := h
    refine ⟨PE.imp (pe_chain (opCmp_rule (c := c) G.units o h0) (opCmp_rule (c := c) G.units p h0') (iha _ h2).1 (ihb _ h3).1 (ihe _ h4).1 (mark_of h1)) fun σ H Q h => chain_go h,
      PT.imp (pt_chain (opCmp_rule (c := c) G.units o h0) (opCmp_rule (c := c) G.units p h0') (iha _ h2).1 (ihb _ h3).1 (ihe _ h4).1 (mark_of h1)) fun σ H Q h => chain_go (tT_of h fun env d x d' e => ?_)⟩
    simp only [ev] at e
    obtain ⟨y, d1, _, e⟩ := bind_ok e
    obtain ⟨z, d2, _, e⟩ := bind_ok e
    split at e
    · obtain ⟨z, d3, _, e⟩ := bind_ok e
      exact map_bl (of_ok e)
    · cases e; exact ⟨_, rfl⟩
    · cases e
  · cases h
theorem non_dec {F : Addr → Prop} {H : Hp} {v : V} {x : D} (dq : Dq c F H v x) : decide (v = .non) = (match x with | .non => true | _ => false) := by
  cases dq <;> simp
theorem s_isn {n : Bool} {a : E} {sc : Scope} {s : Syn} (iha : ∀ s, chk ck a sc s = true → Snd c cf X W sc a s) (h : chk ck (.isn n a) sc s = true) : Snd c cf X W sc (.isn n a) s := by
  have bl : ∀ env d x d', ev cf (.isn n a) env d = .ok x d' → ∃ b, x = .bl b := fun env d x d' e => by
    simp only [ev] at e
    obtain ⟨y, d1, _, e⟩ := bind_ok e
    cases e; exact ⟨_, rfl⟩
  simp only [chk] at h
  split at h
  · simp only [Bool.and_eq_true] at h
    obtain ⟨hn, h⟩ := h
    have go : ∀ σ H Q, tE c cf W (.isn n a) σ H Q → tIsN (tE c cf W a) σ H Q := fun σ H Q ⟨env, d, F, es, q⟩ => by
      simp only [ev] at q
      refine ⟨env, d, F, es, q.bind.imp fun x d1 F1 H1 st w q1 v dq => ?_⟩
      show Q (.bl _) H1
      rw [non_dec dq]
      have := q1.ok w
      refine this _ ?_
      cases n <;> cases x <;> first | exact .bl _ | (simp at hn)
    refine ⟨PE.imp (pe_cmp (pc_isN (iha _ h).1) (by rfl)) go, PT.imp (pt_cmp (pc_isN (iha _ h).1) (by rfl)) fun σ H Q hh => go _ _ _ (tT_of hh bl)⟩
  · simp only [Bool.and_eq_true] at h
    obtain ⟨hn, h⟩ := h
    have go : ∀ σ H Q, tE c cf W (.isn n a) σ H Q → tNotN (tE c cf W a) σ H Q := fun σ H Q ⟨env, d, F, es, q⟩ => by
      simp only [ev] at q
      refine ⟨env, d, F, es, q.bind.imp fun x d1 F1 H1 st w q1 v dq => ?_⟩
      show Q (.bl _) H1
      rw [non_dec dq]
      have := q1.ok w
      refine this _ ?_
      cases n <;> cases x <;> first | exact .bl _ | (simp at hn)
    refine ⟨PE.imp (pe_cmp (pc_notN (iha _ h).1) (by rfl)) go, PT.imp (pt_cmp (pc_notN (iha _ h).1) (by rfl)) fun σ H Q hh => go _ _ _ (tT_of hh bl)⟩
  · cases h
theorem iteT' {A B : Prop} (h : A) : if (true = true) then A else B := by rw [if_pos rfl]; exact h
theorem iteF' {A B : Prop} (h : B) : if (false = true) then A else B := by rw [if_neg Bool.false_ne_true]; exact h
theorem and_ok {a b : E} {env : Env} {d d' : Dice} {x : D} {t : Bool} (h : ev cf (.and a b) env d = .ok x d') (ht : truth x = some t) : ∃ y d1, ev cf a env d = .ok y d1 := by
  simp only [ev] at h
  obtain ⟨y, d1, e, _⟩ := bind_ok h
  exact ⟨y, d1, e⟩
theorem s_and {a b : E} {sc : Scope} {s : Syn} (iha : ∀ s, chk ck a sc s = true → Snd c cf X W sc a s) (ihb : ∀ s, chk ck b sc s = true → Snd c cf X W sc b s) (h : chk ck (.and a b) sc s = true) : Snd c cf X W sc (.and a b) s := by
  simp only [chk] at h
  split at h
  · simp only [Bool.and_eq_true] at h
    obtain ⟨h1, h2⟩ := h
    refine ⟨PE.imp (pe_and (iha _ h1).1 (pe_one (ihb _ h2).1)) fun σ H Q ⟨env, d, F, es, q⟩ => ?_, PT.imp (PW.pt (pw_and (iha _ h1).2 (pw_and1 (ihb _ h2).2))) fun σ H Q ⟨env, d, F, es, q⟩ => ?_⟩
    · simp only [ev] at q
      refine ⟨env, d, F, es, q.bind.imp fun x d1 F1 H1 st w q1 v dq => ?_⟩
      cases x with
      | bl t =>
        cases dq
        cases t with
        | true => exact ⟨true, rfl, iteT' ⟨env, d1, F1, es.step st w, q1⟩⟩
        | false => exact ⟨false, rfl, iteF' (q1.ok w _ (.bl _))⟩
      | _ => exact q1.elim
    · simp only [ev] at q
      refine ⟨env, d, F, es, q.bind.imp fun x d1 F1 H1 st w q1 => ?_⟩
      cases x with
      | bl t =>
        cases t with
        | true => exact ⟨true, rfl, iteT' ⟨env, d1, F1, es.step st w, q1⟩⟩
        | false =>
          obtain ⟨t, e, q⟩ := q1.ok w
          cases e
          exact ⟨false, rfl, iteF' q⟩
      | _ => exact q1.elim
  · cases h
theorem s_or {a b : E} {sc : Scope} {s : Syn} (iha : ∀ s, chk ck a sc s = true → Snd c cf X W sc a s) (ihb : ∀ s, chk ck b sc s = true → Snd c cf X W sc b s) (h : chk ck (.or a b) sc s = true) : Snd c cf X W sc (.or a b) s := by
  simp only [chk] at h
  split at h
  · simp only [Bool.and_eq_true] at h
    obtain ⟨h1, h2⟩ := h
    refine ⟨PE.imp (pe_or (iha _ h1).1 (pe_one (ihb _ h2).1)) fun σ H Q ⟨env, d, F, es, q⟩ => ?_, PT.imp (PW.pt (pw_or (iha _ h1).2 (pw_or1 (ihb _ h2).2))) fun σ H Q ⟨env, d, F, es, q⟩ => ?_⟩
    · simp only [ev] at q
      refine ⟨env, d, F, es, q.bind.imp fun x d1 F1 H1 st w q1 v dq => ?_⟩
      cases x with
      | bl t =>
        cases dq
        cases t with
        | false => exact ⟨false, rfl, iteF' ⟨env, d1, F1, es.step st w, q1⟩⟩
        | true => exact ⟨true, rfl, iteT' (q1.ok w _ (.bl _))⟩
      | _ => exact q1.elim
    · simp only [ev] at q
      refine ⟨env, d, F, es, q.bind.imp fun x d1 F1 H1 st w q1 => ?_⟩
      cases x with
      | bl t =>
        cases t with
        | false => exact ⟨false, rfl, iteF' ⟨env, d1, F1, es.step st w, q1⟩⟩
        | true =>
          obtain ⟨t, e, q⟩ := q1.ok w
          cases e
          exact ⟨true, rfl, iteT' q⟩
      | _ => exact q1.elim
  · cases h
theorem s_and3 {a b e : E} {sc : Scope} {s : Syn} (iha : ∀ s, chk ck a sc s = true → Snd c cf X W sc a s) (ihb : ∀ s, chk ck b sc s = true → Snd c cf X W sc b s) (ihe : ∀ s, chk ck e sc s = true → Snd c cf X W sc e s) (h : chk ck (.and3 a b e) sc s = true) : Snd c cf X W sc (.and3 a b e) s := by
  simp only [chk] at h
  split at h
  · simp only [Bool.and_eq_true] at h
    obtain ⟨⟨h1, h2⟩, h3⟩ := h
    refine ⟨PE.imp (pe_and (iha _ h1).1 (pe_and (ihb _ h2).1 (pe_one (ihe _ h3).1))) fun σ H Q ⟨env, d, F, es, q⟩ => ?_, PT.imp (PW.pt (pw_and (iha _ h1).2 (pw_and (ihb _ h2).2 (pw_and1 (ihe _ h3).2)))) fun σ H Q ⟨env, d, F, es, q⟩ => ?_⟩
    · simp only [ev] at q
      refine ⟨env, d, F, es, q.bind.imp fun x d1 F1 H1 st w q1 v dq => ?_⟩
      cases x with
      | bl t =>
        cases dq
        cases t with
        | true =>
          refine ⟨true, rfl, iteT' ⟨env, d1, F1, es.step st w, q1.bind.imp fun x d2 F2 H2 st2 w2 q2 v dq => ?_⟩⟩
          cases x with
          | bl t =>
            cases dq
            cases t with
            | true => exact ⟨true, rfl, iteT' ⟨env, d2, F2, (es.step st w).step st2 w2, q2⟩⟩
            | false => exact ⟨false, rfl, iteF' (q2.ok w2 _ (.bl _))⟩
          | _ => exact q2.elim
        | false => exact ⟨false, rfl, iteF' (q1.ok w _ (.bl _))⟩
      | _ => exact q1.elim
    · simp only [ev] at q
      refine ⟨env, d, F, es, q.bind.imp fun x d1 F1 H1 st w q1 => ?_⟩
      cases x with
      | bl t =>
        cases t with
        | true =>
          refine ⟨true, rfl, iteT' ⟨env, d1, F1, es.step st w, q1.bind.imp fun x d2 F2 H2 st2 w2 q2 => ?_⟩⟩
          cases x with
          | bl t =>
            cases t with
            | true => exact ⟨true, rfl, iteT' ⟨env, d2, F2, (es.step st w).step st2 w2, q2⟩⟩
            | false =>
              obtain ⟨t, e, q⟩ := q2.ok w2
              cases e
              exact ⟨false, rfl, iteF' q⟩
          | _ => exact q2.elim
        | false =>
          obtain ⟨t, e, q⟩ := q1.ok w
          cases e
          exact ⟨false, rfl, iteF' q⟩
      | _ => exact q1.elim
  · cases h
theorem s_or3 {a b e : E} {sc : Scope} {s : Syn} (iha : ∀ s, chk ck a sc s = true → Snd c cf X W sc a s) (ihb : ∀ s, chk ck b sc s = true → Snd c cf X W sc b s) (ihe : ∀ s, chk ck e sc s = true → Snd c cf X W sc e s) (h : chk ck (.or3 a b e) sc s = true) : Snd c cf X W sc (.or3 a b e) s := by
  simp only [chk] at h
  split at h
  · simp only [Bool.and_eq_true] at h
    obtain ⟨⟨h1, h2⟩, h3⟩ := h
    refine ⟨PE.imp (pe_or (iha _ h1).1 (pe_or (ihb _ h2).1 (pe_one (ihe _ h3).1))) fun σ H Q ⟨env, d, F, es, q⟩ => ?_, PT.imp (PW.pt (pw_or (iha _ h1).2 (pw_or (ihb _ h2).2 (pw_or1 (ihe _ h3).2)))) fun σ H Q ⟨env, d, F, es, q⟩ => ?_⟩
    · simp only [ev] at q
      refine ⟨env, d, F, es, q.bind.imp fun x d1 F1 H1 st w q1 v dq => ?_⟩
      cases x with
      | bl t =>
        cases dq
        cases t with
        | false =>
          refine ⟨false, rfl, iteF' ⟨env, d1, F1, es.step st w, q1.bind.imp fun x d2 F2 H2 st2 w2 q2 v dq => ?_⟩⟩
          cases x with
          | bl t =>
            cases dq
            cases t with
            | false => exact ⟨false, rfl, iteF' ⟨env, d2, F2, (es.step st w).step st2 w2, q2⟩⟩
            | true => exact ⟨true, rfl, iteT' (q2.ok w2 _ (.bl _))⟩
          | _ => exact q2.elim
        | true => exact ⟨true, rfl, iteT' (q1.ok w _ (.bl _))⟩
      | _ => exact q1.elim
    · simp only [ev] at q
      refine ⟨env, d, F, es, q.bind.imp fun x d1 F1 H1 st w q1 => ?_⟩
      cases x with
      | bl t =>
        cases t with
        | false =>
          refine ⟨false, rfl, iteF' ⟨env, d1, F1, es.step st w, q1.bind.imp fun x d2 F2 H2 st2 w2 q2 => ?_⟩⟩
          cases x with
          | bl t =>
            cases t with
            | false => exact ⟨false, rfl, iteF' ⟨env, d2, F2, (es.step st w).step st2 w2, q2⟩⟩
            | true =>
              obtain ⟨t, e, q⟩ := q2.ok w2
              cases e
              exact ⟨true, rfl, iteT' q⟩
          | _ => exact q2.elim
        | true =>
          obtain ⟨t, e, q⟩ := q1.ok w
          cases e
          exact ⟨true, rfl, iteT' q⟩
      | _ => exact q1.elim
  · cases h
theorem s_not {a : E} {sc : Scope} {s : Syn} (iha : ∀ s, chk ck a sc s = true → Snd c cf X W sc a s) (h : chk ck (.not a) sc s = true) : Snd c cf X W sc (.not a) s := by
  simp only [chk] at h
  split at h
  · refine ⟨PE.imp (pe_not (iha _ h).1) fun σ H Q ⟨env, d, F, es, q⟩ => ?_, PT.imp (pt_not (iha _ h).2) fun σ H Q ⟨env, d, F, es, q⟩ => ?_⟩
    · simp only [ev] at q
      refine ⟨env, d, F, es, q.bind.imp fun x d1 F1 H1 st w q1 v dq => ?_⟩
      cases x with
      | bl t => cases dq; exact ⟨_, rfl, q1.ok w _ (.bl _)⟩
      | _ => exact q1.elim
    · simp only [ev] at q
      refine ⟨env, d, F, es, q.bind.imp fun x d1 F1 H1 st w q1 => ?_⟩
      cases x with
      | bl t =>
        obtain ⟨t', e, q⟩ := q1.ok w
        cases e
        exact ⟨t, rfl, q⟩
      | _ => exact q1.elim
  · cases h
theorem pt_ifExp {t x y : Expr} {pos : Pos} {tt tx ty : TT} (ht : PT X t tt) (hx : PT X x tx) (hy : PT X y ty) : PT X (.IfExp t x y pos) (fun σ H Q => tt σ H fun b H1 => if b = true then tx σ H1 Q else ty σ H1 Q) := by
  refine ⟨fun pins s σ H Q I h => ?_⟩
  show wpAny _ _ (do if ← isTrue t X.env (eval t X.env) then isTrue x X.env (eval x X.env) else isTrue y X.env (eval y X.env)) _ _ _
  refine wpAny_bind (thn (ht.run pins s σ H _ I h) fun b s1 ⟨H1, I1, q1⟩ => ?_)
  cases b with
  | true =>
    rw [if_pos rfl] at q1
    simp only [if_true]
    exact hx.run pins s1 σ H1 Q I1 q1
  | false =>
    rw [if_neg Bool.false_ne_true] at q1
    simp only [Bool.false_eq_true, if_false]
    exact hy.run pins s1 σ H1 Q I1 q1
theorem s_ite {t a b : E} {sc : Scope} {s : Syn} (iht : ∀ s, chk ck t sc s = true → Snd c cf X W sc t s) (iha : ∀ s, chk ck a sc s = true → Snd c cf X W sc a s) (ihb : ∀ s, chk ck b sc s = true → Snd c cf X W sc b s) (h : chk ck (.ite t a b) sc s = true) : Snd c cf X W sc (.ite t a b) s := by
  simp only [chk] at h
  split at h
  · simp only [Bool.and_eq_true] at h
    obtain ⟨⟨h1, h2⟩, h3⟩ := h
    refine ⟨PE.imp (pe_ifExp (iht _ h1).2 (iha _ h2).1 (ihb _ h3).1) fun σ H Q ⟨env, d, F, es, q⟩ => ?_, PT.imp (pt_ifExp (iht _ h1).2 (iha _ h2).2 (ihb _ h3).2) fun σ H Q ⟨env, d, F, es, q⟩ => ?_⟩
    · simp only [ev] at q
      refine ⟨env, d, F, es, q.bind.imp fun x d1 F1 H1 st w q1 => ?_⟩
      cases ht : truth x with
      | none => rw [ht] at q1; exact q1.elim
      | some u =>
        rw [ht] at q1
        refine ⟨u, rfl, ?_⟩
        cases u with
        | true => exact iteT' ⟨env, d1, F1, es.step st w, q1⟩
        | false => exact iteF' ⟨env, d1, F1, es.step st w, q1⟩
    · simp only [ev] at q
      refine ⟨env, d, F, es, q.bind.imp fun x d1 F1 H1 st w q1 => ?_⟩
      cases ht : truth x with
      | none => rw [ht] at q1; exact q1.elim
      | some u =>
        rw [ht] at q1
        refine ⟨u, rfl, ?_⟩
        cases u with
        | true => exact iteT' ⟨env, d1, F1, es.step st w, q1⟩
        | false => exact iteF' ⟨env, d1, F1, es.step st w, q1⟩
  · cases h
theorem s_call {f : Nat} {a : E} {s : Syn} (G : Good c ck cf k X) (tk : L2N.Takes X W) (iha : ∀ s, chk ck a X.env.scope s = true → Snd c cf X W X.env.scope a s) (h : chk ck (.call f a) X.env.scope s = true) : Snd c cf X W X.env.scope (.call f a) s := by
  simp only [chk] at h
  split at h
  · simp only [Bool.and_eq_true] at h
    obtain ⟨⟨h1, h2⟩, h3⟩ := h
    have hs := chk_star h3
    rw [List.all_cons, Bool.and_eq_true] at hs
    obtain ⟨nd, fa, fd, ps, m1, m2, m3, m4⟩ := G.fns f _ (of_decide_eq_true h1)
    have pa : PA X _ (tA c cf W a) := iha _ h3
    refine snd_ex (PE.imp (pe_callS m4 G.room (gl_of h2) m1 m2 m3 (fun σ => L2N.passAt tk σ) pa nd (star1 hs.1) (star_any hs.2)) fun σ H Q ⟨env, d, F, es, q⟩ => ?_) fun _ => rfl
    simp only [ev] at q
    refine ⟨env, d, F, es, q.bind.imp fun x d1 F1 H1 st w q1 vs dqs => ⟨F1, d1, tups x, w, dqs, ?_⟩⟩
    cases e : cf f (tups x) d1 with
    | ok z d2 => rw [e] at q1; exact fun v H' F' s' w' r => q1 H' F' s' w' v r
    | err n d2 => rw [e] at q1; exact fun H' F' s' w' => q1 H' F' s' w'
    | bad => rw [e] at q1; exact q1
  · cases h
theorem bi_go {f : Bi} {a : E} {σ : L2.St} {H : Hp} {Q : VK} (h : tE c cf W (.bi f a) σ H Q) : tCB (RLD c (opBi f)) (tA c cf W a) σ H Q := by
  obtain ⟨env, d, F, es, q⟩ := h
  simp only [ev] at q
  refine ⟨env, d, F, es, q.bind.imp fun x d1 F1 H1 st w q1 vs dqs => ?_⟩
  obtain ⟨z, ez, q2⟩ := q1.of
  exact ⟨F1, d1, tups x, z, w, dqs, ez, fun v H' F' s' w' r => q2 H' F' s' w' v r⟩
theorem s_bi {f : Bi} {a : E} {s : Syn} (G : Good c ck cf k X) (iha : ∀ s, chk ck a X.env.scope s = true → Snd c cf X W X.env.scope a s) (h : chk ck (.bi f a) X.env.scope s = true) : Snd c cf X W X.env.scope (.bi f a) s := by
  simp only [chk] at h
  split at h
  · simp only [Bool.and_eq_true] at h
    obtain ⟨⟨⟨h1, h2⟩, h4⟩, h3⟩ := h
    have hx := of_decide_eq_true h1
    subst hx
    have hs := chk_star h3
    rw [List.all_cons, Bool.and_eq_true] at hs
    have pa : PA X _ (tA c cf W a) := iha _ h3
    have hg := gl_of (X := X) h2
    have hu := G.units
    have cb : ∀ {id : String} {nm : String}, nm ∈ bltNames → Gl X (Str.ofString nm) → CallR X (.builtin id) (RLD c (opBi f)) → bootBuiltins (Str.ofString nm) = some (.builtin id) → Str.ofString nm ≠ "__name__" → (Str.ofString nm == ("__debug__" : Str)) = false →
        ∀ {p pos : Pos}, Snd c cf X W X.env.scope (.bi f a) (.ex (.Call (.Name (Str.ofString nm) p) _ [] pos)) := fun hn hg hr hv n1 n2 p pos =>
      snd_ex (PE.imp (pe_callB hr hg (G.blt _ hn) hv pa n1 n2 (star1 hs.1) (star_any hs.2)) fun σ H Q h => bi_go h) fun _ => rfl
    have ct : ∀ {id : String} {nm : String}, nm ∈ bltNames → Gl X (Str.ofString nm) → CallR X (.type id) (RLD c (opBi f)) → bootBuiltins (Str.ofString nm) = some (.type id) → Str.ofString nm ≠ "__name__" → (Str.ofString nm == ("__debug__" : Str)) = false →
        ∀ {p pos : Pos}, Snd c cf X W X.env.scope (.bi f a) (.ex (.Call (.Name (Str.ofString nm) p) _ [] pos)) := fun hn hg hr hv n1 n2 p pos =>
      snd_ex (PE.imp (pe_callTy hr hg (G.blt _ hn) hv pa n1 n2 (star1 hs.1) (star_any hs.2)) fun σ H Q h => bi_go h) fun _ => rfl
    cases f
    · exact cb (nm := "len") (by decide) hg bi_len (by decide +kernel) (by decide) (by decide)
    · exact cb (nm := "all") (by decide) hg (bi_all G.calm) (by decide +kernel) (by decide) (by decide)
    · exact cb (nm := "any") (by decide) hg (bi_any G.calm) (by decide +kernel) (by decide) (by decide)
    · exact cb (nm := "sum") (by decide) hg (bi_sum G.calm) (by decide +kernel) (by decide) (by decide)
    · exact cb (nm := "min") (by decide) hg (bi_min G.calm hu) (by decide +kernel) (by decide) (by decide)
    · exact cb (nm := "max") (by decide) hg (bi_max G.calm hu) (by decide +kernel) (by decide) (by decide)
    · exact cb (nm := "min") (by decide) hg (bi_min2 G.calm) (by decide +kernel) (by decide) (by decide)
    · exact cb (nm := "max") (by decide) hg (bi_max2 G.calm) (by decide +kernel) (by decide) (by decide)
    · exact cb (nm := "sorted") (by decide) hg (bi_sorted hu) (by decide +kernel) (by decide) (by decide)
    · exact ct (nm := "tuple") (by decide) hg bi_tuple (by decide +kernel) (by decide) (by decide)
    · exact ct (nm := "list") (by decide) hg (bi_list G.calm) (by decide +kernel) (by decide) (by decide)
    · exact cb (nm := "abs") (by decide) hg bi_abs (by decide +kernel) (by decide) (by decide)
    · exact ct (nm := "int") (by decide) hg bi_int (by decide +kernel) (by decide) (by decide)
  · cases h
end
end SG
namespace SG
open PySem PySem.Spec PyProof.Rows L2
section
variable {c : Cn} {ck : Ck} {cf : CF} {k : Nat} {X : Cx} {W : WX}
theorem ty_of {F : Addr → Prop} {H : Hp} {K : PySem.W.Frag} {v : V} {x : D} (dq : Dq c F H v x) (hn : ∃ ty b, isI ty x = some b) : ∃ t : String, TyX K H v (.type t) ∧ ∀ ty : Ty, ∀ b, isI ty x = some b → kitB t (tyN ty) = some b := by
  cases dq with
  | non => exact ⟨_, .base .non, fun ty b e => by cases ty <;> simp [isI] at e <;> subst e <;> decide +kernel⟩
  | bl b => exact ⟨_, .base (.bl _), fun ty b e => by cases ty <;> simp [isI] at e <;> subst e <;> decide +kernel⟩
  | int i => exact ⟨_, .base (.int _), fun ty b e => by cases ty <;> simp [isI] at e <;> subst e <;> decide +kernel⟩
  | str s h => exact ⟨_, .base (.str _), fun ty b e => by cases ty <;> simp [isI] at e <;> subst e <;> decide +kernel⟩
  | tup h r => exact ⟨_, .base (.tup h), fun ty b e => by cases ty <;> simp [isI] at e <;> subst e <;> decide +kernel⟩
  | lst f h r => exact ⟨_, .base (.lst h), fun ty b e => by cases ty <;> simp [isI] at e <;> subst e <;> decide +kernel⟩
  | die => obtain ⟨_, _, z⟩ := hn; cases z
  | exc h => obtain ⟨_, _, z⟩ := hn; cases z
  | obj f h => obtain ⟨_, _, z⟩ := hn; cases z
theorem s_isi {t : Ty} {a : E} {s : Syn} (G : Good c ck cf k X) (iha : ∀ s, chk ck a X.env.scope s = true → Snd c cf X W X.env.scope a s) (h : chk ck (.isi t a) X.env.scope s = true) : Snd c cf X W X.env.scope (.isi t a) s := by
  simp only [chk] at h
  split at h
  · simp only [Bool.and_eq_true] at h
    obtain ⟨⟨⟨⟨⟨h1, h2⟩, h3⟩, h4⟩, h5⟩, h6⟩ := h
    have hx := of_decide_eq_true h1
    have hy := of_decide_eq_true h3
    subst hx hy
    have tyb : bootBuiltins (Str.ofString (tyN t)) = some (.type (tyN t)) ∧ Str.ofString (tyN t) ≠ "__name__" ∧ (Str.ofString (tyN t) == ("__debug__" : Str)) = false ∧ tyN t ∈ bltNames := by
      cases t
      · exact ⟨by decide +kernel, by decide, by decide, by decide⟩
      · exact ⟨by decide +kernel, by decide, by decide, by decide⟩
      · exact ⟨by decide +kernel, by decide, by decide, by decide⟩
      · exact ⟨by decide +kernel, by decide, by decide, by decide⟩
    have pt : ∀ {p : Pos}, PE X (.Name (Str.ofString (tyN t)) p) (tC (.ty (tyN t))) := fun {p} => pe_bltn (gl_of h4) (G.blt _ tyb.2.2.2) tyb.1 rfl tyb.2.1 tyb.2.2.1
    refine snd_ex (PE.imp (pe_callB (x := Str.ofString "isinstance") call_isi (gl_of h2) (G.blt "isinstance" (by decide)) (by decide +kernel) (pa_cons (iha _ h6).1 (pa_cons pt pa_nil rfl) (star1 h5)) (by decide) (by decide) (star1 h5) rfl) fun σ H Q ⟨env, d, F, es, q⟩ => ?_) fun _ => rfl
    simp only [ev] at q
    refine ⟨env, d, F, es, q.bind.imp fun x d1 F1 H1 st w q1 v dq => ?_⟩
    obtain ⟨z, ez, q2⟩ := q1.of
    cases eb : isI t x with
    | none => rw [eb] at ez; cases ez
    | some b =>
      rw [eb] at ez
      cases ez
      obtain ⟨ts, tx, hk⟩ := ty_of (K := X.K) dq ⟨t, b, eb⟩
      exact ⟨v, .ty (tyN t), .type ts, .type (tyN t), b, rfl, .ty _, tx, kit_ty (hk t b eb), q2 H1 F1 .refl w _ (.bl _)⟩
  · cases h
theorem s_meth {m : Me} {o a : E} {sc : Scope} {s : Syn} (iho : ∀ s, chk ck o sc s = true → Snd c cf X W sc o s) (iha : ∀ s, chk ck a sc s = true → Snd c cf X W sc a s) (h : chk ck (.meth m o a) sc s = true) : Snd c cf X W sc (.meth m o a) s := by
  simp only [chk] at h
  split at h
  · simp only [Bool.and_eq_true] at h
    obtain ⟨⟨⟨⟨h1, h2⟩, h7⟩, h4⟩, h5⟩ := h
    rename_i ob nm ap e cp
    have go : isStrE o = true → ∀ σ H Q, tE c cf W (.meth m o a) σ H Q → tM1 (RMD c (opMe m)) (tE c cf W o) (tE c cf W a) σ H Q := fun ho σ H Q ⟨env, d, F, es, q⟩ => by
      cases o <;> first | (simp [isStrE] at ho; done) | skip
      rename_i t _
      simp only [ev] at q
      refine ⟨env, d, F, es, ?_⟩
      simp only [ev]
      intro H1 F1 st w v dq
      have q1 : RG c W σ F1 H1 ((ev cf a env d).bind fun y d => .of (opMe m (.str t) [y]) d) _ := RG.step q st
      have dq' := dq
      cases dq'
      refine ⟨⟨_, rfl⟩, env, d, F1, es.step st w, q1.bind.imp fun y d2 F2 H2 st2 w2 q2 u dq2 => ?_⟩
      obtain ⟨z, ez, q3⟩ := q2.of
      exact ⟨F2, d2, _, [y], z, w2, dq.mono (st2.le w), .cons dq2 .nil, ez, fun v' H' F' s' w' r => q3 H' F' s' w' v' r⟩
    have go2 : isStrE a = true → (∀ x y z, opMe m x [y] = some z → ∃ t, x = .str t) → ∀ σ H Q, tE c cf W (.meth m o a) σ H Q → tM1 (RMD c (opMe m)) (tE c cf W o) (tE c cf W a) σ H Q := fun ha hm σ H Q ⟨env, d, F, es, q⟩ => by
      cases a <;> first | (simp [isStrE] at ha; done) | skip
      rename_i t _
      simp only [ev] at q
      refine ⟨env, d, F, es, q.bind.imp fun x d1 F1 H1 st w q1 v dq => ?_⟩
      have q1' : RG c W σ F1 H1 (.of (opMe m x [.str t]) d1) _ := q1
      obtain ⟨z, ez, q3⟩ := q1'.of
      obtain ⟨tx, rfl⟩ := hm _ _ _ ez
      have dq' := dq
      cases dq'
      refine ⟨⟨_, rfl⟩, env, d1, F1, es.step st w, ?_⟩
      simp only [ev]
      intro H2 F2 st2 w2 u dq2
      exact ⟨F2, d1, _, [.str t], z, w2, dq.mono (st2.le w), .cons dq2 .nil, ez, fun v' H' F' s' w' r => q3 H' F' (st2.trans s') w' v' r⟩
    cases m with
    | join =>
      simp only [Bool.and_eq_true] at h1
      have e1 := of_decide_eq_true h1.1.1
      subst e1
      exact snd_ex (PE.imp (pe_m1 PySem.F.slot_str_join PySem.F.type_str_join me_join (iho _ h4).1 (iha _ h5).1 (star1 h7) (by have := h1.1.2; cases ob <;> first | rfl | (simp [isConE] at this)) h2) (go h1.2)) fun _ => rfl
    | index =>
      simp only [Bool.and_eq_true] at h1
      have e1 := of_decide_eq_true h1.1.1
      subst e1
      exact snd_ex (PE.imp (pe_m1 PySem.F.slot_str_index PySem.F.type_str_index me_index (iho _ h4).1 (iha _ h5).1 (star1 h7) (by have := h1.1.2; cases ob <;> first | rfl | (simp [isConE] at this)) h2) (go h1.2)) fun _ => rfl
    | count =>
      simp only [Bool.and_eq_true] at h1
      have e1 := of_decide_eq_true h1.1.1
      subst e1
      exact snd_ex (PE.imp (pe_m1 PySem.F.slot_str_count PySem.F.type_str_count me_count (iho _ h4).1 (iha _ h5).1 (star1 h7) (by have := h1.1.2; cases ob <;> first | rfl | (simp [isNamE] at this)) h2) (go2 h1.2 fun x y z hz => by
        replace hz : meCount x [y] = some z := hz
        unfold meCount at hz
        split at hz
        · exact ⟨_, rfl⟩
        · cases hz)) fun _ => rfl
    | split =>
      simp only [Bool.and_eq_true] at h1
      have e1 := of_decide_eq_true h1.1.1
      subst e1
      exact snd_ex (PE.imp (pe_m1 PySem.F.slot_str_split PySem.F.type_str_split me_split (iho _ h4).1 (iha _ h5).1 (star1 h7) (by have := h1.1.2; cases ob <;> first | rfl | (simp [isNamE] at this)) h2) (go2 h1.2 fun x y z hz => by
        replace hz : meSplit x [y] = some z := hz
        unfold meSplit at hz
        split at hz
        · exact ⟨_, rfl⟩
        · cases hz)) fun _ => rfl
    | _ => simp at h1
  · cases h
theorem plain_ix {x : Expr} (h : notSlice x = true) : PlainIx x := by
  intro o i
  cases x <;> first | rfl | (simp [notSlice] at h)
theorem s_ix {a b : E} {sc : Scope} {s : Syn} (iha : ∀ s, chk ck a sc s = true → Snd c cf X W sc a s) (ihb : ∀ s, chk ck b sc s = true → Snd c cf X W sc b s) (h : chk ck (.ix a b) sc s = true) : Snd c cf X W sc (.ix a b) s := by
  simp only [chk] at h
  split at h
  · simp only [Bool.and_eq_true] at h
    obtain ⟨⟨h1, h2⟩, h3⟩ := h
    refine snd_ex (PE.imp (pe_ix (ix_D (c := c)) (iha _ h2).1 (ihb _ h3).1 (plain_ix h1)) fun σ H Q ⟨env, d, F, es, q⟩ => ?_) fun _ => rfl
    simp only [ev] at q
    refine ⟨env, d, F, es, q.bind.imp fun x d1 F1 H1 st w q1 v dq => ⟨env, d1, F1, es.step st w, q1.bind.imp fun y d2 F2 H2 st2 w2 q2 u dq2 => ?_⟩⟩
    obtain ⟨z, ez, q3⟩ := q2.of
    exact ⟨F2, d2, x, y, z, w2, dq.mono (st2.le w), dq2, ez, fun v' H' F' s' w' r => q3 H' F' s' w' v' r⟩
  · cases h
def tP (c : Cn) (cf : CF) (W : WX) (e : E) : TO := fun σ H Q => ∃ env d F, ES c env d F σ H ∧ RG c W σ F H (ev cf e env d) fun x _ F' H' => ∃ l, part e x = some l ∧ Q l H'
theorem part_of {a : E} {sc : Scope} {o : Option Expr} (iha : ∀ s, chk ck a sc s = true → Snd c cf X W sc a s) (h : (match o with | none => isNil a | some x => chk ck a sc (.ex x)) = true) : ∃ t, PO X o t ∧ ∀ σ H Q, tP c cf W a σ H Q → t σ H Q := by
  cases o with
  | none =>
    refine ⟨_, po_none, fun σ H Q ⟨env, d, F, es, q⟩ => ?_⟩
    cases a <;> first | (simp [isNil] at h; done) | skip
    simp only [ev] at q
    obtain ⟨l, e, q⟩ := q.ok es.wf
    simp [part, isNil] at e
    subst e
    exact q
  | some x =>
    have hn : isNil a = false := by
      cases a <;> first | rfl | (simp [chk] at h)
    refine ⟨_, po_some (iha _ h).1, fun σ H Q ⟨env, d, F, es, q⟩ => ⟨env, d, F, es, q.imp fun y d1 F1 H1 st w ⟨l, e, q1⟩ v dq => ?_⟩⟩
    unfold part at e
    rw [hn, if_neg Bool.false_ne_true] at e
    cases y <;> simp at e
    subst e
    cases dq
    exact ⟨_, rfl, q1⟩
theorem s_sl {a lo hi : E} {sc : Scope} {s : Syn} (iha : ∀ s, chk ck a sc s = true → Snd c cf X W sc a s) (ihl : ∀ s, chk ck lo sc s = true → Snd c cf X W sc lo s) (ihh : ∀ s, chk ck hi sc s = true → Snd c cf X W sc hi s) (h : chk ck (.sl a lo hi) sc s = true) : Snd c cf X W sc (.sl a lo hi) s := by
  simp only [chk] at h
  split at h
  · simp only [Bool.and_eq_true] at h
    obtain ⟨⟨h1, h2⟩, h3⟩ := h
    obtain ⟨tl, pl, il⟩ := part_of ihl h2
    obtain ⟨th, ph, ih⟩ := part_of ihh h3
    refine snd_ex (PE.imp (pe_slice (sl_D (c := c)) (iha _ h1).1 pl ph) fun σ H Q ⟨env, d, F, es, q⟩ => ?_) fun _ => rfl
    simp only [ev] at q
    refine ⟨env, d, F, es, q.bind.imp fun x d1 F1 H1 st w q1 v dq => il _ _ _ ?_⟩
    refine ⟨env, d1, F1, es.step st w, q1.bind.imp fun y d2 F2 H2 st2 w2 q2 => ?_⟩
    obtain ⟨l, el, q2⟩ := q2.bind.of
    have q2 := q2 H2 F2 .refl w2
    refine ⟨l, el, ih _ _ _ ⟨env, d2, F2, (es.step st w).step st2 w2, q2.bind.imp fun z d3 F3 H3 st3 w3 q3 => ?_⟩⟩
    obtain ⟨hh, eh, q3⟩ := q3.bind.of
    have q3 := q3 H3 F3 .refl w3
    obtain ⟨y', ez, q4⟩ := q3.of
    exact ⟨hh, eh, F3, d3, x, y', w3, (dq.mono (st2.le w)).mono (st3.le w2), ez, fun v' H' F' s' w' r => q4 H' F' s' w' v' r⟩
  · cases h
theorem kd_of {F : Addr → Prop} {H : Hp} {v : V} {x : D} {l : List D} (dq : Dq c F H v x) (e : items x = some l) :
    ∃ kd vs, v = Kd.val kd ∧ DqA c F H vs l ∧ ∀ F2 H2, Le F H F2 H2 → Gd kd vs H2 := by
  cases dq <;> simp [items] at e
  · rename_i s h
    subst e
    refine ⟨.str s, s.map fun c => V.str ⟨#[c]⟩, rfl, ?_, fun _ _ _ => rfl⟩
    induction s with
    | nil => exact .nil
    | cons a s ih => exact .cons (.str [a] (by intro c hc; simp at hc; subst hc; exact h _ (by simp))) (ih fun c hc => h c (by simp [hc]))
  · rename_i a xs ds h r
    subst e
    exact ⟨.tup a, xs, rfl, r, fun F2 H2 le => le.tup _ _ h⟩
  · rename_i a xs ds f h r
    subst e
    exact ⟨.lst a, xs, rfl, r, fun F2 H2 le => le.lst _ _ f h⟩
theorem itok_of {J : It} {F : Addr → Prop} {H : Hp} {vs : List V} {l : List D} {G : Hp → Prop} {Y : Nat → Hp → V → Hp → Prop} (r : DqA c F H vs l) (w : Walk J vs.length G Y) (g : ∀ H2 F2, Le F H F2 H2 → G H2) (y : ∀ i H2 x H3, Y i H2 x H3 → H3 = H2 ∧ vs[i]? = some x) : ItOk c J F H l := by
  refine ⟨G, Y, r.length ▸ w, g, fun i H2 F2 x H3 z le ez hy => .inl ?_⟩
  obtain ⟨e, hx⟩ := y i H2 x H3 hy
  obtain ⟨z', ez', dq⟩ := r.get' hx
  rw [ez] at ez'; cases ez'
  exact ⟨e, dq.mono le⟩
theorem pi_any {tg x : Expr} {e : E} (hp : PE X x (tE c cf W e)) : PI X tg x (tI c cf W e) := by
  refine ⟨fun pins s σ H R I ⟨env, d, F, es, q⟩ => ?_⟩
  refine thn (hp.run pins s σ H (fun v H1 => ∃ F1 d1 y l, Wf c F1 H1 d1 ∧ Dq c F1 H1 v y ∧ items y = some l ∧ ∀ J, ItOk c J F1 H1 l → R J H1) I ⟨env, d, F, es, q.imp fun y d1 F1 H1 st w ⟨l, el, k⟩ v dq => ⟨F1, d1, y, l, w, dq, el, k⟩⟩) fun u s1 ⟨v, H1, I1, r1, F1, d1, y, l, w, dq, el, k⟩ => ?_
  obtain ⟨kd, vs, ev, r, g⟩ := kd_of dq el
  subst ev
  have fp : ∀ b ∈ [s1.heap.objs.size], FpOk X pins H1 b := fun b hb => by
    have e : b = s1.heap.objs.size := by simpa using hb
    subst e
    exact I1.fpOk (Nat.le_refl _) (I1.hok.fresh (Nat.le_refl _))
  have le0 : Le F1 H1 F1 H1 := .refl
  cases kd with
  | lst a =>
    cases r1
    obtain ⟨its, rv, p, hz⟩ := I1.list (SqL.of (g _ _ le0))
    exact wpAny_pyIter_list p.isList ⟨s1.heap.objs.size, [s1.heap.objs.size], _, _, H1, rfl, I1.kept (t' := s1.toks) fun b o e => Heap.get?_push_of_some _ e, turn_list a _, ⟨_, Heap.get?_push_size _ rfl, rfl, rfl⟩, fp,
      k _ (itok_of r walk_list (fun H2 F2 le => SqL.of (g _ _ le)) fun i H2 x H3 h => h)⟩
  | tup a =>
    cases r1
    obtain ⟨its, rv, p, hz⟩ := I1.tuple (SqT.of (g _ _ le0))
    exact wpAny_pyIter_tuple (show s1.heap.IsTuple a its.toArray from p) ⟨s1.heap.objs.size, [s1.heap.objs.size], _, _, H1, rfl, I1.kept (t' := s1.toks) fun b o e => Heap.get?_push_of_some _ e, turn_tuple a _, ⟨_, Heap.get?_push_size _ rfl, rfl, rfl⟩, fp,
      k _ (itok_of r walk_tup (fun H2 F2 le => SqT.of (g _ _ le)) fun i H2 x H3 h => h)⟩
  | str t =>
    obtain ⟨tk, rfl⟩ := r1
    have gv : vs = t.map fun c => V.str ⟨#[c]⟩ := g _ _ le0
    have hty : strIterType ⟨t.toArray⟩ = "str_ascii_iterator" ∨ strIterType ⟨t.toArray⟩ = "str_iterator" := by
      unfold strIterType
      split <;> simp
    have wk : Walk (Its ⟨t.toArray⟩) vs.length (fun _ => True) (fun i H v H' => H' = H ∧ ∃ c, (⟨t.toArray⟩ : Str).cps[i]? = some c ∧ v = .str ⟨#[c]⟩) := by
      have := walk_str (z := ⟨t.toArray⟩)
      have e : vs.length = (⟨t.toArray⟩ : Str).cps.size := by rw [gv]; simp
      rw [e]; exact this
    refine wpAny_pyIter_strU ⟨s1.heap.objs.size, [s1.heap.objs.size], _, _, H1, rfl, I1.kept (t' := s1.toks) fun b o e => Heap.get?_push_of_some _ e, turn_str _ ⟨t.toArray⟩ tk _ hty, ⟨_, Heap.get?_push_size _ rfl, rfl, rfl⟩, fp,
      k _ (itok_of r wk (fun H2 F2 le => trivial) fun i H2 x H3 h => ⟨h.1, ?_⟩)⟩
    obtain ⟨c', h1, h2⟩ := h.2
    rw [gv, List.getElem?_map, show t[i]? = some c' by simpa using h1, h2]; rfl
theorem rangeL_get {a b : Int} {i : Nat} {y : D} (h : (rangeL a b)[i]? = some y) : y = .int (a + i) := by
  unfold rangeL at h
  rw [List.getElem?_map] at h
  cases e : (List.range (b - a).toNat)[i]? with
  | none => rw [e] at h; cases h
  | some j =>
    rw [e] at h
    have : j = i := by
      obtain ⟨h1, h2⟩ := List.getElem?_eq_some_iff.mp e
      rw [← h2]; simp
    subst this
    cases h; rfl
theorem rangeL_len (a b : Int) : (rangeL a b).length = (b - a).toNat := by simp [rangeL]
theorem range_ok {F : Addr → Prop} {H : Hp} {a b : Int} : ItOk c (Itr a (b - a).toNat) F H (rangeL a b) := by
  refine ⟨fun _ => True, YFn fun i => .int (a + i), ?_, fun _ _ _ => trivial, fun i H2 F2 x H3 y le ey hy => .inl ⟨hy.1, ?_⟩⟩
  · rw [rangeL_len]; exact walk_range
  · rw [rangeL_get ey, hy.2]; exact .int _
theorem small_62 {a b : Int} (h : smallR a b = true) : -(2 ^ 62) ≤ a ∧ a < 2 ^ 62 ∧ -(2 ^ 62) ≤ b ∧ b < 2 ^ 62 := by
  unfold smallR at h
  simp only [Bool.and_eq_true, decide_eq_true_eq] at h
  omega
theorem s_rng1 {a : E} {s : Syn} (G : Good c ck cf k X) (iha : ∀ s, chk ck a X.env.scope s = true → Snd c cf X W X.env.scope a s) (h : chk ck (.rng1 a) X.env.scope s = true) : Snd c cf X W X.env.scope (.rng1 a) s := by
  simp only [chk] at h
  split at h
  · simp only [Bool.and_eq_true] at h
    obtain ⟨⟨⟨h1, h2⟩, h3⟩, h4⟩ := h
    have hx := of_decide_eq_true h1
    subst hx
    intro tg htg
    refine PI.imp (pi_range1 (gl_of h2) (G.blt "range" (by decide)) (pa_cons (iha _ h4).1 pa_nil (star1 h3)) (star1 h3)) fun σ H R ⟨env, d, F, es, q⟩ => ?_
    simp only [ev] at q
    refine ⟨env, d, F, es, q.bind.imp fun x d1 F1 H1 st w q1 v dq => ?_⟩
    cases x <;> first | exact q1.elim | skip
    rename_i n
    cases dq
    dsimp only at q1
    by_cases hs : smallR 0 n = true
    · rw [if_pos hs] at q1
      obtain ⟨l, el, k⟩ := q1.ok w
      simp [items] at el
      subst el
      have b := small_62 hs
      refine ⟨n, rfl, b.2.2.1, b.2.2.2, k _ ?_⟩
      have := range_ok (c := c) (F := F1) (H := H1) (a := 0) (b := n)
      rw [show n - 0 = n by omega] at this
      exact this
    · rw [if_neg hs] at q1; exact q1.elim
  · cases h
theorem s_rng2 {a b : E} {s : Syn} (G : Good c ck cf k X) (iha : ∀ s, chk ck a X.env.scope s = true → Snd c cf X W X.env.scope a s) (ihb : ∀ s, chk ck b X.env.scope s = true → Snd c cf X W X.env.scope b s) (h : chk ck (.rng2 a b) X.env.scope s = true) : Snd c cf X W X.env.scope (.rng2 a b) s := by
  simp only [chk] at h
  split at h
  · simp only [Bool.and_eq_true] at h
    obtain ⟨⟨⟨⟨⟨h1, h2⟩, h3⟩, h5⟩, h4⟩, h6⟩ := h
    have hx := of_decide_eq_true h1
    subst hx
    intro tg htg
    refine PI.imp (pi_range2 (gl_of h2) (G.blt "range" (by decide)) (pa_cons (iha _ h4).1 (pa_cons (ihb _ h6).1 pa_nil (star1 h5)) (star1 h3)) (by rw [star1 h3, star1 h5]; rfl) (star1 h5)) fun σ H R ⟨env, d, F, es, q⟩ => ?_
    simp only [ev] at q
    refine ⟨env, d, F, es, q.bind.imp fun x d1 F1 H1 st w q1 v dq => ⟨env, d1, F1, es.step st w, q1.bind.imp fun y d2 F2 H2 st2 w2 q2 u dq2 => ?_⟩⟩
    cases x <;> first | exact q2.elim | skip
    cases y <;> first | exact q2.elim | skip
    rename_i m n
    cases dq
    cases dq2
    dsimp only at q2
    by_cases hs : smallR m n = true
    · rw [if_pos hs] at q2
      obtain ⟨l, el, k⟩ := q2.ok w2
      simp [items] at el
      subst el
      exact ⟨m, n, rfl, small_62 hs, k _ range_ok⟩
    · rw [if_neg hs] at q2; exact q2.elim
  · cases h
theorem enum_get : ∀ {l : List D} {n i : Nat} {y : D}, (enumL n l)[i]? = some y → ∃ z, l[i]? = some z ∧ y = .tup [.int ((n + i : Nat) : Int), z]
  | [], n, i, y, h => by simp [enumL] at h
  | x :: l, n, 0, y, h => by simp [enumL] at h; exact ⟨x, rfl, by rw [← h]; simp⟩
  | x :: l, n, i + 1, y, h => by
    simp [enumL] at h
    obtain ⟨z, h1, h2⟩ := enum_get (l := l) (n := n + 1) (i := i) h
    exact ⟨z, by simpa using h1, by rw [h2, show n + 1 + i = n + (i + 1) by omega]⟩
theorem enum_len : ∀ (l : List D) (n : Nat), (enumL n l).length = l.length
  | [], _ => rfl
  | x :: l, n => by simp [enumL, enum_len l (n + 1)]
theorem zip_get : ∀ {l m : List D} {i : Nat} {y : D}, (zipL l m)[i]? = some y → ∃ a b, l[i]? = some a ∧ m[i]? = some b ∧ y = .tup [a, b]
  | [], m, i, y, h => by simp [zipL] at h
  | x :: l, [], i, y, h => by simp [zipL] at h
  | x :: l, z :: m, 0, y, h => by simp [zipL] at h; exact ⟨x, z, rfl, rfl, h.symm⟩
  | x :: l, z :: m, i + 1, y, h => by
    simp [zipL] at h
    obtain ⟨a, b, h1, h2, h3⟩ := zip_get (l := l) (m := m) (i := i) h
    exact ⟨a, b, by simpa using h1, by simpa using h2, h3⟩
theorem zip_len : ∀ (l m : List D), (zipL l m).length = min l.length m.length
  | [], m => by simp [zipL]
  | x :: l, [] => by simp [zipL]
  | x :: l, z :: m => by simp [zipL, zip_len l m]
theorem tup_of {tg : Expr} (h : isTupE tg = true) : ∃ es kk p, tg = .Tuple es kk p := by
  cases tg <;> first | exact ⟨_, _, _, rfl⟩ | (simp [isTupE] at h)
theorem s_enum {a : E} {s : Syn} (G : Good c ck cf k X) (iha : ∀ s, chk ck a X.env.scope s = true → Snd c cf X W X.env.scope a s) (h : chk ck (.enum a) X.env.scope s = true) : Snd c cf X W X.env.scope (.enum a) s := by
  simp only [chk] at h
  split at h
  · simp only [Bool.and_eq_true] at h
    obtain ⟨⟨⟨h1, h2⟩, h3⟩, h4⟩ := h
    have hx := of_decide_eq_true h1
    subst hx
    intro tg htg
    obtain ⟨es, kk, p, rfl⟩ := tup_of htg
    refine PI.imp (pi_enumK (gl_of h2) (G.blt "enumerate" (by decide)) (pa_cons (iha _ h4).1 pa_nil (star1 h3)) (star1 h3)) fun σ H R ⟨env, d, F, es, q⟩ => ?_
    simp only [ev] at q
    refine ⟨env, d, F, es, q.bind.imp fun x d1 F1 H1 st w q1 v dq => ?_⟩
    obtain ⟨z, ez, q2⟩ := q1.of
    cases ei : items x with
    | none => rw [ei] at ez; cases ez
    | some l =>
      rw [ei] at ez
      cases ez
      obtain ⟨m, em, k⟩ := q2 H1 F1 .refl w
      simp [items] at em
      subst em
      obtain ⟨kd, vs, ev, r, g⟩ := kd_of dq ei
      refine ⟨kd, vs, by rw [ev], g _ _ .refl, k _ ?_⟩
      refine ⟨_, YPair (fun i => some (.int (i : Nat))) (fun i => vs[i]?), ?_, fun H2 F2 le => g _ _ le, fun i H2 F2 x H3 y le ey hy => .inr ?_⟩
      · rw [enum_len, ← r.length]; exact walk_enumK kd vs
      · obtain ⟨T, a, b, e1, e2, e3, e4, e5⟩ := hy
        obtain ⟨z, h1, h2⟩ := enum_get ey
        cases e4
        obtain ⟨z', h1', dq'⟩ := r.get' e5
        rw [h1] at h1'; cases h1'
        exact ⟨T, _, _, e1, e2, e3, h2, .cons (by simpa using Dq.int _) (.cons (dq'.mono le) .nil)⟩
  · cases h
theorem s_zip {a b : E} {s : Syn} (G : Good c ck cf k X) (iha : ∀ s, chk ck a X.env.scope s = true → Snd c cf X W X.env.scope a s) (ihb : ∀ s, chk ck b X.env.scope s = true → Snd c cf X W X.env.scope b s) (h : chk ck (.zip a b) X.env.scope s = true) : Snd c cf X W X.env.scope (.zip a b) s := by
  simp only [chk] at h
  split at h
  · simp only [Bool.and_eq_true] at h
    obtain ⟨⟨⟨⟨⟨h1, h2⟩, h3⟩, h5⟩, h4⟩, h6⟩ := h
    have hx := of_decide_eq_true h1
    subst hx
    intro tg htg
    obtain ⟨es, kk, p, rfl⟩ := tup_of htg
    refine PI.imp (pi_zipK (gl_of h2) (G.blt "zip" (by decide)) (pa_cons (iha _ h4).1 (pa_cons (ihb _ h6).1 pa_nil (star1 h5)) (star1 h3)) (star1 h3) (by rw [star1 h5]; rfl)) fun σ H R ⟨env, d, F, es, q⟩ => ?_
    simp only [ev] at q
    refine ⟨env, d, F, es, q.bind.imp fun x d1 F1 H1 st w q1 v dq => ⟨env, d1, F1, es.step st w, q1.bind.imp fun y d2 F2 H2 st2 w2 q2 u dq2 => ?_⟩⟩
    obtain ⟨z, ez, q3⟩ := q2.of
    cases ei : items x with
    | none => rw [ei] at ez; cases ez
    | some l =>
      rw [ei] at ez
      cases ej : items y with
      | none => rw [ej] at ez; cases ez
      | some m =>
        rw [ej] at ez
        cases ez
        obtain ⟨n, en, k⟩ := q3 H2 F2 .refl w2
        simp [items] at en
        subst en
        obtain ⟨k1, vs, ev1, r1, g1⟩ := kd_of (dq.mono (st2.le w)) ei
        obtain ⟨k2, ws, ev2, r2, g2⟩ := kd_of dq2 ej
        have le0 : Le F2 H2 F2 H2 := .refl
        refine ⟨k1, k2, vs, ws, by rw [ev1, ev2], g1 _ _ le0, g2 _ _ le0, k _ ?_⟩
        refine ⟨fun H => Gd k1 vs H ∧ Gd k2 ws H, YPair (fun i => vs[i]?) (fun i => ws[i]?), ?_, fun H2 F2 le => ⟨g1 _ _ le, g2 _ _ le⟩, fun i H2 F2 x H3 y le ey hy => .inr ?_⟩
        · rw [zip_len, ← r1.length, ← r2.length]; exact walk_zipK k1 k2 vs ws
        · obtain ⟨T, a, b, e1, e2, e3, e4, e5⟩ := hy
          obtain ⟨z1, z2, h1, h2, h3⟩ := zip_get ey
          obtain ⟨z1', h1', dq1'⟩ := r1.get' e4
          obtain ⟨z2', h2', dq2'⟩ := r2.get' e5
          rw [h1] at h1'; cases h1'
          rw [h2] at h2'; cases h2'
          exact ⟨T, _, _, e1, e2, e3, h3, .cons (dq1'.mono le) (.cons (dq2'.mono le) .nil)⟩
  · cases h
theorem s_trng {a : E} {s : Syn} (G : Good c ck cf k X) (iha : ∀ s, chk ck a X.env.scope s = true → Snd c cf X W X.env.scope a s) (h : chk ck (.trng a) X.env.scope s = true) : Snd c cf X W X.env.scope (.trng a) s := by
  simp only [chk] at h
  split at h
  · simp only [Bool.and_eq_true] at h
    obtain ⟨⟨⟨⟨⟨h1, h2⟩, h3⟩, h5⟩, h4⟩, h6⟩ := h
    have hx := of_decide_eq_true h1
    have hy := of_decide_eq_true h3
    subst hx hy
    refine snd_ex (PE.imp (pe_tupRg G.calm (gl_of h2) (G.blt "tuple" (by decide)) (prg_1 (gl_of h5) (G.blt "range" (by decide)) (iha _ h6).1 (star1 h4)) rfl) fun σ H Q ⟨env, d, F, es, q⟩ => ?_) fun _ => rfl
    simp only [ev] at q
    refine ⟨env, d, F, es, q.bind.imp fun x d1 F1 H1 st w q1 v dq => ?_⟩
    cases x <;> first | exact q1.elim | skip
    rename_i n
    cases dq
    dsimp only at q1
    by_cases hs : smallR 0 n = true
    · rw [if_pos hs] at q1
      refine ⟨n, rfl, ?_, fun p hp => ?_⟩
      · unfold smallR at hs
        simp only [Bool.and_eq_true, decide_eq_true_eq] at hs
        exact ⟨by omega, by omega, by omega, by omega, by omega⟩
      · refine q1 _ F1 (.new' hp) (w.new' hp) _ (.newT w hp (.of ?_ fun i v y e1 e2 => ?_))
        · rw [rgV_length, rangeL_len]
        · rw [rangeL_get e2]
          unfold rgV at e1
          rw [List.getElem?_map] at e1
          cases er : (List.range (n - 0).toNat)[i]? with
          | none => rw [er] at e1; cases e1
          | some j =>
            rw [er] at e1
            have : j = i := by
              obtain ⟨h1, h2⟩ := List.getElem?_eq_some_iff.mp er
              rw [← h2]; simp
            subst this
            cases e1
            exact .int _
    · rw [if_neg hs] at q1; exact q1.elim
  · cases h
end
end SG
namespace SG
open PySem PySem.Spec PyProof.Rows L2
section
variable {prog : Program} {w : World} {A : Around} {E : Value → Shared → Prop} {s : Shared}
theorem sliceApplied_rev {sl : Addr} {vl vu vs : Value} {n : Nat} {Q : Int × Int × Nat → Shared → Prop} (hs : s.heap.IsSliceOf sl vl vu vs) (pl : IsPart vl none) (pu : IsPart vu none) (ps : IsPart vs (some (-1)))
    (h : Q ((n : Int) - 1, -1, n) s) : wpAny (model prog w) A (Builtin.Slice.sliceApplied (.ref sl) (pure (n : Int))) Q E s := by
  obtain ⟨os, hos, hcs, hds⟩ := id hs
  unfold Builtin.Slice.sliceApplied Builtin.Slice.sliceFields
  refine wpAny_bind (wpAny_bind (wpAny_field hos hds (x := vl) rfl (wpAny_bind (wpAny_field hos hds (x := vu) rfl (wpAny_bind (wpAny_field hos hds (x := vs) rfl (wpAny_pure ?_)))))))
  refine wpAny_bind (HT.slicePart_ ps ?_)
  show wpAny _ _ (if ((-1 : Int) == 0) = true then _ else _) _ _ s
  rw [if_neg (by decide)]
  refine wpAny_bind (HT.slicePart_ pl (wpAny_bind (HT.slicePart_ pu (wpAny_bind (wpAny_pure ?_)))))
  show wpAny _ _ (match Builtin.Slice.sliceAdjust none none (-1) (n : Int) with | (lo, hi) => pure (lo, (-1 : Int), Builtin.Slice.slicePlaces lo hi (-1))) _ _ s
  have e1 : Builtin.Slice.sliceAdjust none none (-1) (n : Int) = ((n : Int) - 1, -1) := by
    unfold Builtin.Slice.sliceAdjust
    simp
  have e2 : Builtin.Slice.slicePlaces ((n : Int) - 1) (-1) (-1) = n := by
    unfold Builtin.Slice.slicePlaces
    have h1 : ¬ ((-1 : Int) > 0) := by omega
    have e : -(-1 : Int) = 1 := rfl
    simp only [h1, if_false, e, Int.ediv_one]
    split <;> omega
  rw [e1]
  show wpAny _ _ (pure ((n : Int) - 1, (-1 : Int), Builtin.Slice.slicePlaces ((n : Int) - 1) (-1) (-1))) _ _ s
  rw [e2]
  exact wpAny_pure h
theorem pick_rev (xs : Array Value) : ((List.range xs.size).filterMap fun (m : Nat) => xs[((xs.size : Int) - 1 + (m : Int) * (-1)).toNat]?).toArray = xs.toList.reverse.toArray := by
  have e : (List.range xs.size).filterMap (fun (m : Nat) => xs[((xs.size : Int) - 1 + (m : Int) * (-1)).toNat]?) = ((List.range xs.size).map fun k => xs.size - 1 - k).filterMap (xs[·]?) := by
    rw [List.filterMap_map]
    congr 1
    funext m
    have : ((xs.size : Int) - 1 + (m : Int) * (-1)).toNat = xs.size - 1 - m := by omega
    rw [this]; rfl
  rw [e, PySem.W.krv_range, List.filterMap_reverse, PySem.W.krv_all]
theorem getItem_tuple_rev {t sl : Addr} {items : Array Value} {vl vu vs : Value} {Q : Value → Shared → Prop} (ht : IsTup s.heap t items) (hs : s.heap.IsSliceOf sl vl vu vs) (pl : IsPart vl none) (pu : IsPart vu none) (ps : IsPart vs (some (-1)))
    (h : Q (.ref s.heap.objs.size) { s with heap := s.heap.push { cls := .type "tuple", data := .seq items.toList.reverse.toArray } })
    (hsz : items.size ≤ sizeLine) : wpAny (model prog w) A (getItem (.ref t) (.ref sl)) Q E s := by
  have htake : sizeOk (.seq items.toList.reverse.toArray) := by
    show items.toList.reverse.toArray.size ≤ sizeLine
    rw [List.size_toArray, List.length_reverse, Array.length_toList]
    exact hsz
  obtain ⟨os, hos, hcs, hds⟩ := id hs
  have hTs : s.TypeIs (.ref sl) "slice" := ⟨os, hos, hcs⟩
  unfold getItem
  try with_reducible refine wpAny_holding ?_
  first | refine wpAny_bind (wpAny_pure ?_) | skip
  refine wpAny_bind (wpAny_sequenceKey ht.typeIs (by decide) ?_)
  refine wpAny_bind (wpAny_callSpecial?_slot (name := Str.ofString "__getitem__") ht.typeIs PyProof.Rows.slot_tuple_getitem
    (wpAny_call_entry PyProof.Rows.slot_tuple_getitem ht.typeIs entry_tuple_getitem ?_ (args_tuple_getitem _ _)))
  show wpAny _ _ (Builtin.Tuple.tupleItemsOf (.ref t) >>= _) _ _ s
  refine wpAny_bind (tupleItemsOf_ ht ?_)
  refine wpAny_bind (wpAny_typeOf hTs ?_)
  rw [if_pos (by decide)]
  refine wpAny_bind (sliceApplied_rev hs pl pu ps ?_)
  have hno : ¬ ((((items.size : Int) - 1) == 0 && (-1 : Int) == 1 && items.size == items.size) = true) := by
    intro q
    rw [Bool.and_eq_true, Bool.and_eq_true] at q
    exact absurd q.1.2 (by decide)
  show wpAny _ _ (if (((items.size : Int) - 1) == 0 && (-1 : Int) == 1 && items.size == items.size) = true then _ else _) _ _ s
  rw [if_neg hno, pick_rev]
  first
    | exact wpAny_bind (m := Builtin.Tuple.tupleExact _) (wpAny_newObj_type (wpAny_pure ⟨_, rfl, wpAny_pure h⟩) htake)
    | exact wpAny_bind (m := Builtin.Tuple.tupleExact _) (wpAny_newObj_type (wpAny_bind (wpAny_pure (wpAny_pure ⟨_, rfl, wpAny_pure h⟩))) htake)
    | exact wpAny_bind (wpAny_bind (m := Builtin.Tuple.tupleExact _) (wpAny_newObj_type (wpAny_pure (wpAny_pure ⟨_, rfl, wpAny_pure h⟩)) htake))
    | exact wpAny_bind (wpAny_bind (m := Builtin.Tuple.tupleExact _) (wpAny_newObj_type (wpAny_pure ⟨_, rfl, wpAny_pure h⟩) htake))
end
section
variable {X : Cx}
def tRevA (K : PySem.W.Frag) (te : TE) : TE := fun σ H Q => te σ H fun x H1 => (∃ a xs, x = .ref a ∧ SqT K H1 a xs ∧ ∀ p, H1 p = none → Q (.ref p) (upd H1 p (.tup xs.reverse))) ∨ (∃ z : List Nat, x = .str ⟨z.toArray⟩ ∧ z.length ≤ sizeLine ∧ Q (.str ⟨z.reverse.toArray⟩) H1)
theorem str_rev (z : List Nat) (l u : Option (Int × Tok)) (hl : l.map (·.1) = none) (hu : u.map (·.1) = none) (i : Tok) : (⟨((slicePicked ⟨z.toArray⟩ l u (some (-1, i))).filterMap ((⟨z.toArray⟩ : Str).cps[·]?)).toArray⟩ : Str) = ⟨z.reverse.toArray⟩ := by
  unfold slicePicked Builtin.Str.strSliceIndices
  rw [hl, hu]
  have hn : (⟨z.toArray⟩ : Str).length = z.toArray.size := rfl
  have h1 : ¬ ((-1 : Int) > 0) := by decide
  show (⟨((sliceRange (if (-1 : Int) > 0 then 0 else (((⟨z.toArray⟩ : Str).length : Nat) : Int) - 1) (if (-1 : Int) > 0 then (((⟨z.toArray⟩ : Str).length : Nat) : Int) else -1) (-1)).filterMap (z.toArray[·]?)).toArray⟩ : Str) = _
  rw [if_neg h1, if_neg h1, hn, PySem.W.krv_sliceRange, PySem.W.krv_range, List.filterMap_reverse, PySem.W.krv_all]
theorem pe_revA {e : Expr} {te : TE} {k : Nat} {p1 p2 p3 pos : Pos} (he : PE X e te) : PE X (.Subscript e (.Slice none none (some (.UnaryOp .USub (.Constant (.int 1) k p1) p2)) p3) pos) (tRevA X.K te) := by
  refine ⟨fun pins s σ H Q I h => ?_⟩
  refine Subscript_ (thn (he.run pins s σ H _ I h) fun v s1 ⟨x, H1, I1, r1, q1⟩ => ?_)
  have hst : PO X (some (.UnaryOp .USub (.Constant (.int 1) k p1) p2)) (tPart (tUn (rU fun i => .int (-i)) (tC (.int 1)))) := po_some (pe_un un_neg pe_int)
  refine wpAny_Slice (thn (po_none.run pins s1 σ H1 (fun o H2 => o = none ∧ H2 = H1) I1 ⟨rfl, rfl⟩) fun vl s2 ⟨l, H2, I2, pl, el, e2⟩ => ?_)
  subst el e2
  refine thn (po_none.run pins s2 σ H2 (fun o H3 => o = none ∧ H3 = H2) I2 ⟨rfl, rfl⟩) fun vu s3 ⟨u, H3, I3, pu, eu, e3⟩ => ?_
  subst eu e3
  refine thn (hst.run pins s3 σ H3 (fun o H4 => o = some (-1) ∧ H4 = H3) I3 ⟨1, rfl, -1, rfl, rfl, rfl⟩) fun vs s4 ⟨o, H4, I4, ps, eo, e4⟩ => ?_
  subst eo e4
  have I5 : Inv X pins σ H4 { s4 with heap := s4.heap.push { cls := .type "slice", data := .fields #[vl, vu, vs] } } := I4.kept (t' := s4.toks) fun b ob q => Heap.get?_push_of_some _ q
  show wpAny (model X.prog X.w) X.A (subscriptTail e (.Slice none none (some (.UnaryOp .USub (.Constant (.int 1) k p1) p2)) p3) v (.ref s4.heap.objs.size)) (EP X pins σ Q) X.xe { s4 with heap := s4.heap.push { cls := .type "slice", data := .fields #[vl, vu, vs] } }
  rcases q1 with ⟨a, xs, ex, hx, q⟩ | ⟨z, ex, hz, q⟩
  · subst ex
    cases r1
    obtain ⟨its, r, ht, hz⟩ := I5.tuple hx
    have hlen := r.length
    refine tail_any (ops := [.ref a, .ref s4.heap.objs.size]) ht.typeIs PyProof.Rows.slot_tuple_getitem.lookup ?_ (by with_unfolding_all rfl)
    refine getItem_tuple_rev ht (Heap.IsSliceOf.new _ vl vu vs) pl pu ps ?_ (by rw [List.size_toArray]; omega)
    refine ⟨.ref _, _, I5.laid (t' := s4.toks) (o := .tup xs.reverse) (fun b ob q => Heap.get?_push_of_some _ q) (Nat.le_refl _) ?_, rfl, q _ (I5.hok.fresh (Nat.le_refl _))⟩
    exact ⟨by rw [List.length_reverse]; exact hz, _, r.reverse, IsTup.new _ _⟩
  · subst ex
    obtain ⟨t, rfl⟩ := r1
    obtain ⟨l, rfl, hl⟩ := IsPart.raw pl
    obtain ⟨u, rfl, hu⟩ := IsPart.raw pu
    obtain ⟨st, rfl, hs⟩ := IsPart.raw ps
    cases st with
    | none => cases hs
    | some st =>
      obtain ⟨i, ti⟩ := st
      simp only [Option.map_some, Option.some.injEq] at hs
      subst hs
      refine tail_any (ops := [.ref s4.heap.objs.size, .str ⟨z.toArray⟩ t]) (typeIs_str _ _ _) F.slot_str_getitem.lookup ?_ (by with_unfolding_all rfl)
      refine wpAny_getItem_str_slice (l := l) (u := u) (st := some (-1, ti)) ⟨_, Heap.get?_push_size _ rfl, rfl, rfl⟩ rfl ?_
      unfold sliceMade
      rw [if_neg (by intro q; rw [Bool.and_eq_true] at q; exact absurd (show ((-1 : Int) == 1) = true from q.1) (by decide)), str_rev z l u hl hu]
      exact ⟨by show z.reverse.toArray.size ≤ sizeLine; rw [List.size_toArray, List.length_reverse]; exact hz, .str _, H4, I5.tok _, ⟨_, rfl⟩, q⟩
end
section
variable {c : Cn} {ck : Ck} {cf : CF} {k : Nat} {X : Cx} {W : WX}
theorem s_rev' {a : E} {sc : Scope} {l r : Expr} {pos : Pos} (iha : ∀ s, chk ck a sc s = true → Snd c cf X W sc a s) (hr : isRevE r = true) (h : chk ck a sc (.ex l) = true) : Snd c cf X W sc (.rev a) (.ex (.Subscript l r pos)) := by
  unfold isRevE at hr
  split at hr
  · have e := of_decide_eq_true hr
    subst e
    refine snd_ex (PE.imp (pe_revA (iha _ h).1) fun σ H Q ⟨env, d, F, es, q⟩ => ?_) fun _ => rfl
    simp only [ev] at q
    refine ⟨env, d, F, es, q.bind.imp fun x d1 F1 H1 st w q1 v dq => ?_⟩
    obtain ⟨z, ez, q2⟩ := q1.of
    cases x <;> simp [opRev] at ez
    · obtain ⟨hl, ez⟩ := ez
      subst ez
      cases dq with | str s hs =>
      refine .inr ⟨_, rfl, Nat.le_trans hl lim_line, ?_⟩
      exact q2 _ _ .refl w _ (.str _ fun ch hc => hs ch (by simpa using hc))
    · subst ez
      cases dq with | tup hh r =>
      refine .inl ⟨_, _, rfl, SqT.of hh, fun p hp => ?_⟩
      exact q2 _ F1 (.new' hp) (w.new' hp) _ (.newT w hp r.reverse)
  · cases hr
theorem s_rev {a : E} {sc : Scope} {s : Syn} (iha : ∀ s, chk ck a sc s = true → Snd c cf X W sc a s) (h : chk ck (.rev a) sc s = true) : Snd c cf X W sc (.rev a) s := by
  simp only [chk] at h
  split at h
  · rw [Bool.and_eq_true] at h
    exact s_rev' iha h.1 h.2
  · cases h
end
end SG
namespace SG
open PySem PySem.Spec PyProof.Rows L2
abbrev emptyS (w : World) : Obj := { cls := .type "set", dict := none, data := .set #[] 0 (.fresh 0 0 (!w.params.followText "set-order")) }
section
variable {P : Program} {w : World} {A : Around} {E : Value → Shared → Prop} {s : Shared}
def MadeS (w : World) (s : Shared) (ns : List Int) (s2 : Shared) : Prop := ∃ h' tk c, s2 = { s with heap := h', toks := tk } ∧ SetR w h' s.heap.objs.size (fun j => decide (j ∈ ns)) c ∧ c ≤ ns.length ∧ ∀ b o, s.heap.get? b = some o → h'.get? b = some o
theorem fill_set {l : Addr} {items : Array Value} {ns : List Int} (hh : A.handled = none) (hl : s.heap.IsList l items) (hit : IntsAre items.toList ns) (hb : ns.length + 1 < scanBound) {R : Result → Shared → Prop}
    (h : ∀ s2, MadeS w s ns s2 → R (.ok (.ret .none)) s2) :
    codeAny (model P w) A (.builtin "set.update.loop" ⟨[.ref s.heap.objs.size, .ref (s.heap.push (emptyS w)).objs.size], []⟩) R { s with heap := (s.heap.push (emptyS w)).push { cls := .type "list_iterator", data := .fields #[.ref l, .int 0 0] } } := by
  obtain ⟨o, ho, hc, n, hd⟩ := id hl
  have hlS : l < s.heap.objs.size := Heap.lt_size ho
  have hsz : items.size = ns.length := by rw [← IntsAre.length hit, Array.length_toList]
  have ez : (s.heap.push (emptyS w)).objs.size = s.heap.objs.size + 1 := Heap.size_push ..
  have hl1 : (s.heap.push (emptyS w)).IsList l items := ⟨o, Heap.get?_push_of_some _ ho, hc, n, hd⟩
  have hne : l ≠ (s.heap.push (emptyS w)).objs.size := by rw [ez]; exact Nat.ne_of_lt (Nat.lt_succ_of_lt hlS)
  have hSf : s.heap.objs.size ∉ [(s.heap.push (emptyS w)).objs.size, l] := by
    rw [ez]
    intro z
    rcases List.mem_cons.mp z with z | z
    · exact Nat.ne_of_lt (Nat.lt_succ_self _) z
    · exact Nat.ne_of_gt hlS (by simpa using z)
  have hval : ∀ (i : Nat) (v : Value), items[i]? = some v → ∃ k t, ns[i]? = some k ∧ v = .int k t := fun i v hv => by
    have hi : i < ns.length := hsz ▸ (Array.getElem?_eq_some_iff.mp hv).1
    obtain ⟨t, e⟩ := PyProof.Rows.IntsAre.int_at hit i v (by rw [Array.getElem?_toList]; exact hv)
    exact ⟨ns[i], t, List.getElem?_eq_getElem hi, by rw [e]; simp [List.getD, hi]⟩
  refine set_update_ints ((Walks.list (show A.in1.handled = none by simp [hh]) _ l hne items).toS) s.heap.objs.size hSf ns hsz hb hval items.size 0 _ rfl (Nat.zero_le _) ⟨⟨_, Heap.get?_push_size _ rfl, rfl, rfl⟩, hl1.push _⟩ ⟨0, Nat.le_refl 0, setR_new_at (Heap.get?_push_of_some _ (Heap.get?_push_size _ rfl))⟩ fun s2 c hm hc hS => h s2 ?_
  obtain ⟨h2, g2, d2, t2, o2⟩ := s2
  cases (show g2 = s.gens from hm.gens)
  cases (show d2 = s.drawn from hm.drawn)
  cases (show o2 = s.os from hm.os)
  refine ⟨h2, t2, c, rfl, hS, hsz ▸ hc, fun b ob e => hm.heap b ob (fun z => ?_) (Heap.get?_push_of_some _ (Heap.get?_push_of_some _ e))⟩
  have hlt : (b : Nat) < s.heap.objs.size := Heap.lt_size e
  rw [ez] at z
  rcases List.mem_cons.mp z with z | z
  · exact Nat.ne_of_lt hlt z
  · exact Nat.ne_of_lt (Nat.lt_succ_of_lt hlt) (by simpa using z)
set_option maxHeartbeats 3200000 in
theorem call_set_ints {l : Addr} {items : Array Value} {ns : List Int} {Q : Value → Shared → Prop} (hh : A.handled = none) (hl : s.heap.IsList l items) (hit : IntsAre items.toList ns) (hb : ns.length + 1 < scanBound)
    (h : ∀ s2, MadeS w s ns s2 → Q (.ref s.heap.objs.size) s2) : wpAny (model P w) A (call (.type "set") [.ref l]) Q E s := by
  obtain ⟨c, tl, hmro⟩ := F.called_set.mro
  have f1 := F.called_set.made
  have f2 := F.called_set.sub
  have f3 := F.called_set.notType
  have f4 := F.called_set.canCreate
  have f5 := F.typeCall_set_1 (.ref l)
  refine wpAny_call (codeAny_of_tree ?_)
  show wpAny _ _ (callAny (.type "set") _) _ _ _
  refine wpAny_pure ⟨Code.quiet_builtin _ (by decide +kernel), codeAny_builtin F.entry_type_call ?_⟩
  rw [Around.under_plain (weight_type_call_type "set" [.ref l] []) rfl]
  repeat (any_goals (first | assumption | wp_step))
  refine codeAny_mono (code_set_led1 (.ref l) (E := E) (Q₁ := fun obj s₁ => obj = .ref s.heap.objs.size ∧ s₁ = { s with heap := s.heap.push (emptyS w) }) ⟨rfl, rfl⟩) fun r s₁ hr => ?_
  rcases r with e | fl
  · exact hr
  cases fl with
  | ret obj =>
    obtain ⟨rfl, rfl⟩ := hr
    have hT : Shared.TypeIs { s with heap := s.heap.push (emptyS w) } (.ref s.heap.objs.size) "set" := ⟨_, Heap.get?_push_size _ rfl, rfl⟩
    have f6 := F.called_set.init.lookup
    have f7 := F.called_set.init.bind (.ref s.heap.objs.size)
    repeat (any_goals (first | assumption | wp_step))
    refine codeAny_mono (codeAny_call_builtin (R := wants (fun r s₂ => r = .none ∧ MadeS w s ns s₂) E) F.called_set.init.plain F.entry_set_init (check_set_init_1 hT ?_)) fun r₂ s₂ hr₂ => ?_
    · obtain ⟨⟨ocls, odict, odata, oslots⟩, hol, hcl, nl, hdl⟩ := id hl
      simp only at hcl hdl
      subst hcl hdl
      have g0 : (s.heap.push (emptyS w)).get? l = some { cls := .type "list", dict := odict, data := .seq items nl, slots := oslots } := Heap.get?_push_of_some _ hol
      have g1 := F.sub_list_set
      have g2 := F.sub_list_frozenset
      have g3 : (Value.type "list" == Value.type "dict") = false := by decide
      have hl1 : (s.heap.push (emptyS w)).IsList l items := ⟨_, g0, rfl, nl, rfl⟩
      unfold Builtin.«set.__init__» noKeywords Builtin.Frozenset.updateFrom
      generalize hPI : pyIter = PI
      wp_walk
      subst hPI
      refine wpAny_pyIter_list hl1 (wpAny_bind (wpAny_runValue (fill_set (by simp [hh]) hl hit hb fun s2 m => ?_)))
      show wpAny _ _ _ _ _ _
      refine wpAny_pure ?_
      show wpAny _ _ (ret Value.none) _ _ _
      exact wpAny_pure ⟨rfl, m⟩
    · rcases r₂ with e | fl₂
      · exact hr₂
      · cases fl₂ with
        | ret r =>
          obtain ⟨rfl, m⟩ := hr₂
          repeat (any_goals (first | assumption | wp_step))
          exact h _ m
        | _ => exact hr₂.elim
  | _ => exact hr.elim
end
theorem insS_mem {x k : Int} : ∀ {l : List Int}, k ∈ insS x l ↔ k = x ∨ k ∈ l
  | [] => by simp [insS]
  | y :: r => by
    have ih := insS_mem (x := x) (k := k) (l := r)
    unfold insS
    split
    · simp
    · split
      · rename_i h; subst h; simp
      · simp only [List.mem_cons, ih]
        constructor
        · rintro (h | h | h)
          · exact .inr (.inl h)
          · exact .inl h
          · exact .inr (.inr h)
        · rintro (h | h | h)
          · exact .inr (.inl h)
          · exact .inl h
          · exact .inr (.inr h)
theorem insS_lt {x : Int} : ∀ {l : List Int}, l.Pairwise (· < ·) → (insS x l).Pairwise (· < ·)
  | [], _ => by simp [insS]
  | y :: r, h => by
    have h' := List.pairwise_cons.mp h
    unfold insS
    split
    · rename_i hx
      exact List.pairwise_cons.mpr ⟨fun z hz => (List.mem_cons.mp hz).elim (fun e => e ▸ hx) fun q => Int.lt_trans hx (h'.1 z q), h⟩
    · split
      · exact h
      · refine List.pairwise_cons.mpr ⟨fun z hz => ?_, insS_lt h'.2⟩
        rcases insS_mem.mp hz with e | q
        · subst e; omega
        · exact h'.1 z q
theorem sset_mem {k : Int} : ∀ {l : List Int}, k ∈ sset l ↔ k ∈ l
  | [] => by simp [sset]
  | y :: r => by
    have ih := sset_mem (k := k) (l := r)
    show k ∈ insS y (sset r) ↔ _
    rw [insS_mem, ih, List.mem_cons]
theorem sset_lt : ∀ l : List Int, (sset l).Pairwise (· < ·)
  | [] => by simp [sset]
  | y :: r => insS_lt (sset_lt r)
theorem asc_unique : ∀ {l m : List Int}, l.Pairwise (· < ·) → m.Pairwise (· < ·) → (∀ k, k ∈ l ↔ k ∈ m) → l = m
  | [], [], _, _, _ => rfl
  | [], y :: r, _, _, h => absurd ((h y).mpr List.mem_cons_self) (by simp)
  | x :: r, [], _, _, h => absurd ((h x).mp List.mem_cons_self) (by simp)
  | x :: r, y :: t, h1, h2, h => by
    have a1 := List.pairwise_cons.mp h1
    have a2 := List.pairwise_cons.mp h2
    have e : x = y := by
      rcases List.mem_cons.mp ((h x).mp List.mem_cons_self) with z | z
      · exact z
      · rcases List.mem_cons.mp ((h y).mpr List.mem_cons_self) with q | q
        · exact q.symm
        · have := a2.1 x z
          have := a1.1 y q
          omega
    subst e
    rw [asc_unique a1.2 a2.2 fun k => ?_]
    constructor
    · intro hk
      rcases List.mem_cons.mp ((h k).mp (List.mem_cons_of_mem _ hk)) with z | z
      · have := a1.1 k hk; omega
      · exact z
    · intro hk
      rcases List.mem_cons.mp ((h k).mpr (List.mem_cons_of_mem _ hk)) with z | z
      · have := a2.1 k hk; omega
      · exact z
section
variable {X : Cx}
def rSetL (K : PySem.W.Frag) (w : World) : List V → Hp → VK → Prop := fun xs H Q => ∃ (l : Addr) (ns : List Int), xs = [V.ref l] ∧ SqL K H l (ns.map V.int) ∧ ns.length ≤ 60 ∧ ∀ p n, H p = none → n ≤ 60 → Q (.ref p) (upd H p (SetO w p (fun j => decide (j ∈ ns)) n))
theorem cr_setL (hc : X.calm = true) : CallR X (.type "set") (rSetL X.K X.w) := by
  intro pins s σ H xs us Q I r h
  obtain ⟨l, ns, rfl, hl, hn, q⟩ := h
  obtain ⟨u, rfl, ru⟩ := vals1 r
  cases ru
  obtain ⟨its, rv, p, hz⟩ := I.list hl
  refine call_set_ints (I.ok.hd hc) p.isList (intsAre_of rv) (by unfold scanBound; omega) fun s2 ⟨h2, t2, n2, e2, R, hle, hk⟩ => ?_
  subst e2
  exact ⟨.ref _, upd H s.heap.objs.size (SetO X.w s.heap.objs.size (fun j => decide (j ∈ ns)) n2), I.laid hk (Nat.le_refl _) (setO_new R), rfl, q _ n2 (I.hok.fresh (Nat.le_refl _)) (by omega)⟩
end
theorem code_inj : ∀ {a b : List Int}, a.length = b.length → TS.Bd 64 a → TS.Bd 64 b → TS.code 64 a = TS.code 64 b → a = b
  | [], [], _, _, _, _ => rfl
  | x :: a, y :: b, hl, ha, hb, e => by
    have hl' : a.length = b.length := by simpa using hl
    have hxy : x = y := by
      rcases Int.lt_trichotomy x y with z | z | z
      · have := TS.code_lt hl' ha.tail hb.tail z; omega
      · exact z
      · have := TS.code_lt hl'.symm hb.tail ha.tail z; omega
    subst hxy
    have e2 : TS.code 64 a = TS.code 64 b := by
      have : x * 64 ^ a.length + TS.code 64 a = x * 64 ^ b.length + TS.code 64 b := e
      rw [hl'] at this
      omega
    rw [code_inj hl' ha.tail hb.tail e2]
  | [], _ :: _, hl, _, _, _ => by simp at hl
  | _ :: _, [], hl, _, _, _ => by simp at hl
theorem insT_mem {x k : List Int} : ∀ {l : List (List Int)}, (∀ y ∈ l, codeT x = codeT y → x = y) → (k ∈ insT x l ↔ k = x ∨ k ∈ l)
  | [], _ => by simp [insT]
  | y :: r, h => by
    have ih := insT_mem (x := x) (k := k) (l := r) fun z hz => h z (List.mem_cons_of_mem _ hz)
    unfold insT
    split
    · simp
    · split
      · rename_i e; rw [h y List.mem_cons_self e]; simp
      · simp only [List.mem_cons, ih]
        constructor
        · rintro (h | h | h)
          · exact .inr (.inl h)
          · exact .inl h
          · exact .inr (.inr h)
        · rintro (h | h | h)
          · exact .inr (.inl h)
          · exact .inl h
          · exact .inr (.inr h)
theorem insT_lt {x : List Int} : ∀ {l : List (List Int)}, (∀ y ∈ l, codeT x = codeT y → x = y) → l.Pairwise (fun a b => codeT a < codeT b) → (insT x l).Pairwise (fun a b => codeT a < codeT b)
  | [], _, _ => by simp [insT]
  | y :: r, hi, h => by
    have h' := List.pairwise_cons.mp h
    unfold insT
    split
    · rename_i hx
      exact List.pairwise_cons.mpr ⟨fun z hz => (List.mem_cons.mp hz).elim (fun e => e ▸ hx) fun q => Int.lt_trans hx (h'.1 z q), h⟩
    · split
      · exact h
      · refine List.pairwise_cons.mpr ⟨fun z hz => ?_, insT_lt (fun z hz => hi z (List.mem_cons_of_mem _ hz)) h'.2⟩
        rcases (insT_mem fun z hz => hi z (List.mem_cons_of_mem _ hz)).mp hz with e | q
        · subst e; omega
        · exact h'.1 z q
def Apart (l : List (List Int)) : Prop := ∀ x ∈ l, ∀ y ∈ l, codeT x = codeT y → x = y
theorem ssetT_ok : ∀ {l : List (List Int)}, Apart l → (∀ k, k ∈ ssetT l ↔ k ∈ l) ∧ (ssetT l).Pairwise (fun a b => codeT a < codeT b)
  | [], _ => by simp [ssetT]
  | x :: l, h => by
    obtain ⟨i1, i2⟩ := ssetT_ok (l := l) fun a ha b hb => h a (List.mem_cons_of_mem _ ha) b (List.mem_cons_of_mem _ hb)
    have hx : ∀ y ∈ ssetT l, codeT x = codeT y → x = y := fun y hy => h x List.mem_cons_self y (List.mem_cons_of_mem _ ((i1 y).mp hy))
    refine ⟨fun k => ?_, insT_lt hx i2⟩
    show k ∈ insT x (ssetT l) ↔ _
    rw [insT_mem hx, i1, List.mem_cons]
theorem ascT_unique : ∀ {l m : List (List Int)}, l.Pairwise (fun a b => codeT a < codeT b) → m.Pairwise (fun a b => codeT a < codeT b) → (∀ k, k ∈ l ↔ k ∈ m) → l = m
  | [], [], _, _, _ => rfl
  | [], y :: r, _, _, h => absurd ((h y).mpr List.mem_cons_self) (by simp)
  | x :: r, [], _, _, h => absurd ((h x).mp List.mem_cons_self) (by simp)
  | x :: r, y :: t, h1, h2, h => by
    have a1 := List.pairwise_cons.mp h1
    have a2 := List.pairwise_cons.mp h2
    have e : x = y := by
      rcases List.mem_cons.mp ((h x).mp List.mem_cons_self) with z | z
      · exact z
      · rcases List.mem_cons.mp ((h y).mpr List.mem_cons_self) with q | q
        · exact q.symm
        · have := a2.1 x z
          have := a1.1 y q
          omega
    subst e
    rw [ascT_unique a1.2 a2.2 fun k => ?_]
    constructor
    · intro hk
      rcases List.mem_cons.mp ((h k).mp (List.mem_cons_of_mem _ hk)) with z | z
      · have := a1.1 k hk; subst z; omega
      · exact z
    · intro hk
      rcases List.mem_cons.mp ((h k).mpr (List.mem_cons_of_mem _ hk)) with z | z
      · have := a2.1 k hk; subst z; omega
      · exact z
theorem tOk_of {ks : List (List Int)} (h : tOk ks = true) : ∃ d, 1 ≤ d ∧ ks.length ≤ 60 ∧ ∀ k ∈ ks, k.length = d ∧ TS.Bd 64 k := by
  unfold tOk at h
  split at h
  · cases h
  · rename_i k0 r
    simp only [Bool.and_eq_true, decide_eq_true_eq, List.all_eq_true] at h
    obtain ⟨⟨h1, h2⟩, h3⟩ := h
    exact ⟨k0.length, h1, h2, fun k hk => ⟨(h3 k hk).1, fun m hm => (h3 k hk).2 m hm⟩⟩
theorem apart_of {ks : List (List Int)} {d : Nat} (h : ∀ k ∈ ks, k.length = d ∧ TS.Bd 64 k) : Apart ks := fun x hx y hy e => code_inj (by rw [(h x hx).1, (h y hy).1]) (h x hx).2 (h y hy).2 e
theorem DqA.tints {dc : Cn} {F : Addr → Prop} {H : Hp} : ∀ {vs : List V} {xs : List D} {ks : List (List Int)}, DqA dc F H vs xs → tInts xs = some ks → ∃ ps : List (Addr × List Int), vs = ps.map (fun p => V.ref p.1) ∧ ps.map (·.2) = ks ∧ ∀ p ∈ ps, H p.1 = some (.tup (p.2.map V.int))
  | _, _, _, .nil, e => by
    simp only [tInts, Option.some.injEq] at e
    subst e
    exact ⟨[], rfl, rfl, by simp⟩
  | _, _, ks, .cons (v := v) (vs := vs) (d := x) (ds := xs) r t, e => by
    cases x <;> simp only [tInts] at e <;> first | (cases e; done) | skip
    rename_i us
    cases hi : intsOf us with
    | none => rw [hi] at e; cases e
    | some a =>
      rw [hi, Option.bind_some] at e
      cases ht : tInts xs with
      | none => rw [ht] at e; cases e
      | some kr =>
        rw [ht, Option.map_some, Option.some.injEq] at e
        subst e
        obtain ⟨ps, e1, e2, e3⟩ := DqA.tints t ht
        cases r with | tup hh rr =>
        have ei := rr.ints hi
        rename_i ad _
        refine ⟨(ad, a) :: ps, by rw [e1]; rfl, by rw [List.map_cons, e2], fun p hp => ?_⟩
        rcases List.mem_cons.mp hp with z | z
        · subst z; rw [← ei]; exact hh
        · exact e3 p z
theorem tints_dq {dc : Cn} {F : Addr → Prop} {H : Hp} : ∀ (L : List (Addr × List Int)), (∀ p ∈ L, H p.1 = some (.tup (p.2.map V.int))) → DqA dc F H (L.map fun p => V.ref p.1) ((L.map (·.2)).map tIO)
  | [], _ => .nil
  | p :: L, h => .cons (.tup (h p List.mem_cons_self) (by
      have : ∀ l : List Int, DqA dc F H (l.map V.int) (l.map D.int) := by
        intro l
        induction l with
        | nil => exact .nil
        | cons x l ih => exact .cons (.int x) ih
      exact this _)) (tints_dq L fun q hq => h q (List.mem_cons_of_mem _ hq))
section
variable {c : Cn} {ck : Ck} {cf : CF} {k : Nat} {X : Cx} {W : WX}
theorem s_ssort {a : E} {s : Syn} (G : Good c ck cf k X) (iha : ∀ s, chk ck a X.env.scope s = true → Snd c cf X W X.env.scope a s) (h : chk ck (.ssort a) X.env.scope s = true) : Snd c cf X W X.env.scope (.ssort a) s := by
  simp only [chk] at h
  split at h
  · simp only [Bool.and_eq_true] at h
    obtain ⟨⟨⟨⟨⟨h1, h2⟩, h3⟩, h5⟩, h4⟩, h6⟩ := h
    have hx := of_decide_eq_true h1
    have hy := of_decide_eq_true h3
    subst hx hy
    have p1 := fun (p pos : Pos) => pe_callTy (p := p) (pos := pos) (CallR.or' (cr_setL G.calm) (cr_setOfT G.calm (by have := G.units; omega))) (gl_of h5) (G.blt "set" (by decide)) (by decide +kernel) (pa_cons (iha _ h6).1 pa_nil (star1 h4)) (by decide) (by decide) (star1 h4) rfl
    refine snd_ex (PE.imp (pe_callB (CallR.or' (cr_sortedSet G.calm) (cr_sortedT G.calm)) (gl_of h2) (G.blt "sorted" (by decide)) (by decide +kernel) (pa_cons (p1 _ _) pa_nil rfl) (by decide) (by decide) rfl rfl) fun σ H Q ⟨env, d, F, es, q⟩ => ?_) fun _ => rfl
    simp only [ev] at q
    refine ⟨env, d, F, es, q.bind.imp fun x d1 F1 H1 st w q1 v dq => ?_⟩
    cases x <;> first | exact q1.elim | skip
    rename_i xs
    dsimp only at q1
    obtain ⟨z, ez, q2⟩ := q1.of
    unfold ssortO at ez
    cases hi : intsOf xs with
    | none =>
      rw [hi] at ez
      simp only at ez
      cases ht : tInts xs with
      | none => rw [ht] at ez; cases ez
      | some ks =>
        rw [ht, Option.bind_some] at ez
        split at ez <;> cases ez
        rename_i hok
        obtain ⟨dd, hd1, hd2, hd3⟩ := tOk_of hok
        cases dq with | lst f hh r =>
        obtain ⟨ps, e1, e2, e3⟩ := r.tints ht
        subst e1 e2
        refine .inr ⟨_, ps, rfl, SqL.of hh, fun p hp => SqT.of (e3 p hp), by rw [List.length_map] at hd2; omega, fun p L hp hL1 hL2 => .inr ⟨p, L, dd, 64, rfl, upd_same, fun q hq => ?_, hd1, fun q hq => hd3 q.2 (List.mem_map.mpr ⟨q, hL1 q hq, rfl⟩), fun L' p2 pm nd hf pw hp2 => ?_⟩⟩
        · have hne : q.1 ≠ p := fun z => by have := e3 q (hL1 q hq); rw [z, hp] at this; cases this
          exact SqT.of (by rw [upd_ne hne]; exact e3 q (hL1 q hq))
        · have w1 := w.new' (o := SetTO X.prog X.w p L) hp
          have hm : ∀ q ∈ L', q ∈ ps := fun q hq => hL1 q (pm.mem_iff.mp hq)
          have ap := apart_of hd3
          have hLm : L'.map (·.2) = ssetT (ps.map (·.2)) := by
            obtain ⟨s1, s2⟩ := ssetT_ok ap
            refine ascT_unique ?_ s2 fun k => ?_
            · rw [List.pairwise_map]
              have nd' : L'.Pairwise (fun a b => a.2 ≠ b.2) := List.pairwise_map.mp nd
              refine (pw.and nd').imp_of_mem fun {a b} ha hb hab => ?_
              have hne : TS.code 64 a.2 ≠ TS.code 64 b.2 := fun z => hab.2 (ap a.2 (List.mem_map.mpr ⟨a, hm a ha, rfl⟩) b.2 (List.mem_map.mpr ⟨b, hm b hb, rfl⟩) z)
              show TS.code 64 a.2 < TS.code 64 b.2
              have := hab.1
              omega
            · rw [s1, List.mem_map]
              constructor
              · rintro ⟨q, hq, rfl⟩
                exact List.mem_map.mpr ⟨q, hm q hq, rfl⟩
              · intro hk
                obtain ⟨q, hq, rfl⟩ := List.mem_map.mp hk
                obtain ⟨q', hq', e⟩ := List.mem_map.mp (hL2 q hq)
                exact ⟨q', pm.mem_iff.mpr hq', e⟩
          refine q2 _ _ ((Step.new' (o := SetTO X.prog X.w p L) hp).trans (.newF hp2)) (w1.newF hp2) _ (.newL w1 hp2 ?_)
          rw [← hLm]
          refine tints_dq L' fun q hq => ?_
          have hne : q.1 ≠ p := fun z => by have := e3 q (hm q hq); rw [z, hp] at this; cases this
          rw [upd_ne hne]
          exact e3 q (hm q hq)
    | some ns =>
      rw [hi] at ez
      simp only at ez
      split at ez <;> cases ez
      rename_i hlen
      cases dq with | lst f hh r =>
      have e := r.ints hi
      subst e
      refine .inl ⟨_, ns, rfl, SqL.of hh, hlen, fun p n hp hn => .inl ⟨p, _, n, rfl, upd_same, by omega, fun ms p2 hs hm hl hp2 => ?_⟩⟩
      have em : ms = sset ns := asc_unique hs (sset_lt ns) fun k => by rw [hm k, sset_mem]; simp
      subst em
      have w1 := w.new' (o := SetO X.w p (fun j => decide (j ∈ ns)) n) hp
      refine q2 _ _ ((Step.new' (o := SetO X.w p (fun j => decide (j ∈ ns)) n) hp).trans (.newF hp2)) (w1.newF hp2) _ (.newL w1 hp2 ?_)
      have : ∀ l : List Int, DqA c F1 (upd H1 p (SetO X.w p (fun j => decide (j ∈ ns)) n)) (l.map V.int) (l.map D.int) := by
        intro l
        induction l with
        | nil => exact .nil
        | cons x l ih => exact .cons (.int x) ih
      exact this _
  · cases h
end
end SG
set_option maxHeartbeats 1000000
namespace SG
open PySem PySem.Spec PyProof.Rows L2
abbrev IsEnumB (h : Heap) (e it : Addr) (c : Int) (old : Value) (a : Addr) (f : Bool) : Prop :=
  h.get? e = some { cls := .type "enumerate", dict := none, data := .fields #[rawInt a, .bool f, .ref it, rawInt c, .none, old], slots := #[] }
section
variable {prog : Program} {w : World} {A : Around} {E : Value → Shared → Prop} {s : Shared} {e it : Addr} {fp : List Addr} {n : Nat} {P : Nat → Value → Prop} {St : Nat → Heap → Prop}
theorem enum_next_out {i : Nat} {old : Value} {a : Addr} {f : Bool} {oa : Obj} {Q : Value → Shared → Prop}
    (D : Draws prog w A it fp n P St) (he : IsEnumB s.heap e it i old a f) (ha : s.heap.get? a = some oa) (hae : a ≠ e) (hai : a ≠ it) (hst : St i s.heap) (hlt : i < n) (hne : e ≠ it) (hef : e ∉ fp)
    (hQ : ∀ x h' tk, P i x → IsEnumB h' e it ((i : Int) + 1) old a true → St (i + 1) h' →
      h'.get? s.heap.objs.size = some { cls := .type "tuple", data := .seq #[.int i tk, x] } → h'.objs.size = s.heap.objs.size + 1 →
      (∀ b o, b ≠ e → b ≠ it → s.heap.get? b = some o → h'.get? b = some o) → Q (.ref s.heap.objs.size) { s with heap := h', toks := tk + 1 }) :
    wpAny (model prog w) A (Builtin.«enumerate.__next__» ⟨[.ref e], []⟩) (fun fin s' => ∃ v, fin = .done (.ret v) ∧ Q v s') E s := by
  obtain ⟨hp, g, d, tk₀, os⟩ := s
  show wpAny _ _ (field (.ref e) 2 >>= _) _ _ _
  refine wpAny_bind (wpAny_field he rfl (x := .ref it) rfl ?_)
  refine wpAny_bind (D.item i _ _ _ hlt hst fun x h₁ tk hPx hit₁ hs₁ => ?_)
  replace hs₁ : Heap.SameBut it hp h₁ := hs₁
  have he₁ : IsEnumB h₁ e it i old a f := (hs₁.2 e hne).trans he
  show wpAny _ _ (field (.ref e) 3 >>= _) _ _ ⟨h₁, g, d, tk, os⟩
  refine wpAny_bind (wpAny_field he₁ rfl (x := rawInt i) rfl ?_)
  show wpAny _ _ (field (.ref e) 4 >>= _) _ _ ⟨h₁, g, d, tk, os⟩
  refine wpAny_bind (wpAny_field he₁ rfl (x := .none) rfl ?_)
  show wpAny _ _ (mkInt i >>= _) _ _ ⟨h₁, g, d, tk, os⟩
  refine wpAny_bind (wpAny_mkInt ?_)
  show wpAny _ _ (setField (.ref e) 3 (rawInt ((i : Int) + 1)) >>= _) _ _ ⟨h₁, g, d, tk + 1, os⟩
  refine wpAny_bind (wpAny_setField_rec he₁ (by simp) fun h₂ he₂ hs₂ => ?_)
  replace hs₂ : Heap.SameBut e h₁ h₂ := hs₂
  replace he₂ : IsEnumB h₂ e it ((i : Int) + 1) old a f := he₂
  show wpAny _ _ (setField (.ref e) 4 .none >>= _) _ _ ⟨h₂, g, d, tk + 1, os⟩
  refine wpAny_bind (wpAny_setField_rec he₂ (by simp) fun h₃ he₃ hs₃ => ?_)
  replace hs₃ : Heap.SameBut e h₂ h₃ := hs₃
  replace he₃ : IsEnumB h₃ e it ((i : Int) + 1) old a f := he₃
  show wpAny _ _ (newTuple [.int i tk, x] >>= _) _ _ ⟨h₃, g, d, tk + 1, os⟩
  refine wpAny_bind (wpAny_newTuple ?_)
  have he₄ : IsEnumB (h₃.push { cls := .type "tuple", data := .seq #[.int i tk, x] }) e it ((i : Int) + 1) old a f := Heap.get?_push_of_some _ he₃
  generalize hh₄ : h₃.push { cls := .type "tuple", data := .seq #[.int i tk, x] } = h₄ at he₄
  have hsz : h₃.objs.size = hp.objs.size := by rw [hs₃.1, hs₂.1, hs₁.1]
  have hel : e < hp.objs.size := Heap.lt_size he
  have ht₄ : h₄.get? hp.objs.size = some { cls := .type "tuple", data := .seq #[.int i tk, x] } := by rw [← hh₄, ← hsz]; exact Heap.get?_push_size _ rfl
  have hz₄ : h₄.objs.size = hp.objs.size + 1 := by rw [← hh₄, Heap.size_push, hsz]
  have hk₄ : ∀ b o, b ≠ e → b ≠ it → hp.get? b = some o → h₄.get? b = some o := fun b o hbe hbi hb => by
    rw [← hh₄]; exact Heap.get?_push_of_some _ (hs₃.extBut b o hbe (hs₂.extBut b o hbe (hs₁.extBut b o hbi hb)))
  have hit₄ : St (i + 1) h₄ := D.frame _ _ _ hit₁ fun b hb o y => by
    have hbe : b ≠ e := fun q => hef (q ▸ hb)
    rw [← hh₄]; exact Heap.get?_push_of_some _ (hs₃.extBut b o hbe (hs₂.extBut b o hbe y))
  show wpAny _ _ (Builtin.SmallTypes.ownedTupleIsFree (.ref e) >>= _) _ _ ⟨h₄, g, d, tk + 1, os⟩
  rw [hsz]
  clear hh₄ he₃ hs₃ he₂ hs₂ he₁ hs₁ hit₁ hsz h₃ h₂ h₁
  have ha₄ : h₄.get? a = some oa := hk₄ a oa hae hai ha
  refine wpAny_bind ?_
  unfold Builtin.SmallTypes.ownedTupleIsFree
  refine wpAny_bind (wpAny_field he₄ rfl (x := rawInt a) rfl ?_)
  show wpAny _ _ (loadIfAlive ((a : Int).toNat) >>= _) _ _ _
  rw [Int.toNat_natCast]
  refine wpAny_bind (PySem.W.kdx_alive ha₄ ?_)
  simp only [Option.isNone_some, Bool.false_eq_true, if_false]
  refine wpAny_bind (wpAny_field he₄ rfl (x := .bool f) rfl ?_)
  have fin : ∀ h₅ : Heap, IsEnumB h₅ e it ((i : Int) + 1) old a true → Heap.SameBut e h₄ h₅ → Q (.ref hp.objs.size) ⟨h₅, g, d, tk + 1, os⟩ := fun h₅ he₅ hs₅ =>
    hQ x h₅ tk hPx he₅ (D.frame _ _ _ hit₄ fun b hb o y => hs₅.extBut b o (fun q => hef (q ▸ hb)) y) (hs₅.extBut _ _ (Nat.ne_of_gt hel) ht₄) (by show h₅.objs.size = hp.objs.size + 1; rw [hs₅.1, hz₄]) fun b o hbe hbi hb => hs₅.extBut b o hbe (hk₄ b o hbe hbi hb)
  cases f with
  | true =>
    rw [if_neg (show ¬ ((Value.bool true != Value.bool true) = true) from Bool.false_ne_true)]
    refine wpAny_pure ?_
    simp only [Bool.false_eq_true, if_false]
    exact wpAny_pure ⟨_, rfl, fin h₄ he₄ (Heap.SameBut.refl _ _)⟩
  | false =>
    rw [if_pos (show (Value.bool false != Value.bool true) = true from rfl)]
    refine wpAny_bind (wpAny_setField_rec he₄ (by simp) fun h₅ he₅ hs₅ => ?_)
    replace hs₅ : Heap.SameBut e h₄ h₅ := hs₅
    replace he₅ : IsEnumB h₅ e it ((i : Int) + 1) old a true := he₅
    refine wpAny_pure ?_
    simp only [Bool.false_eq_true, if_false]
    exact wpAny_pure ⟨_, rfl, fin h₅ he₅ hs₅⟩
def LeSt (h : Heap) (e it S : Addr) (i : Nat) : Prop :=
  (i = 0 ∧ ∃ old, IsEnum h e it 0 old) ∨ ∃ old a f oa, IsEnumB h e it i old a f ∧ h.get? a = some oa ∧ a ≠ e ∧ a ≠ it ∧ a ≠ S
theorem LeSt.type {S : Addr} {i : Nat} (x : LeSt s.heap e it S i) : s.TypeIs (.ref e) "enumerate" := by
  rcases x with ⟨_, old, h⟩ | ⟨old, a, f, oa, h, _⟩
  · exact ⟨_, h, rfl⟩
  · exact ⟨_, h, rfl⟩
theorem LeSt.lt {h : Heap} {S : Addr} {i : Nat} (x : LeSt h e it S i) : e < h.objs.size := by
  rcases x with ⟨_, old, h⟩ | ⟨old, a, f, oa, h, _⟩
  · exact Heap.lt_size h
  · exact Heap.lt_size h
theorem LeSt.keep {h h' : Heap} {S : Addr} {i : Nat} (x : LeSt h e it S i) (hk : ∀ b o, b ≠ S → h.get? b = some o → h'.get? b = some o) (hI : e ≠ S) : LeSt h' e it S i := by
  rcases x with ⟨z, old, h⟩ | ⟨old, a, f, oa, h, ha, h1, h2, h3⟩
  · exact .inl ⟨z, old, hk _ _ hI h⟩
  · exact .inr ⟨old, a, f, oa, hk _ _ hI h, hk _ _ h3 ha, h1, h2, h3⟩
theorem le_item {S : Addr} {i : Nat} {Q : Option Value → Shared → Prop} (D : Draws prog w A.in1 it fp n P St) (hs : LeSt s.heap e it S i) (hS : S < s.heap.objs.size) (hst : St i s.heap) (hlt : i < n) (hne : e ≠ it) (hef : e ∉ fp)
    (hQ : ∀ x h' tk, P i x → LeSt h' e it S (i + 1) → St (i + 1) h' → h'.get? s.heap.objs.size = some { cls := .type "tuple", data := .seq #[.int i tk, x] } → h'.objs.size = s.heap.objs.size + 1 →
      (∀ b o, b ≠ e → b ≠ it → s.heap.get? b = some o → h'.get? b = some o) → Q (some (.ref s.heap.objs.size)) { s with heap := h', toks := tk + 1 }) :
    wpAny (model prog w) A (pyNext (.ref e)) Q E s := by
  have hel := hs.lt
  have hil : it < s.heap.objs.size := by obtain ⟨_, y⟩ := D.live _ _ hst; exact Heap.lt_size y
  have e1 : ((i + 1 : Nat) : Int) = (i : Int) + 1 := by omega
  rcases hs with ⟨rfl, old, h⟩ | ⟨old, a, f, oa, h, ha, h1, h2, h3⟩
  · refine wpAny_pyNext_enum_itemD D h hst hlt hne hef fun x h' tk hP ho hs' hT hsz hk => hQ x h' tk hP (.inr ⟨x, s.heap.objs.size, false, _, ?_, hT, Nat.ne_of_gt hel, Nat.ne_of_gt hil, Nat.ne_of_gt hS⟩) hs' hT hsz hk
    exact ho
  · have hT : s.TypeIs (.ref e) "enumerate" := ⟨_, h, rfl⟩
    unfold pyNext
    refine wpAny_bind (wpAny_attempt (wpAny_callSpecial?_slot (name := Str.ofString "__next__") hT F.slot_enumerate_next
      (wpAny_call_entry F.slot_enumerate_next hT F.entry_enumerate_next
        (enum_next_out D h ha h1 h2 hst hlt hne hef fun x h' tk hP ho hs' hT hsz hk => wpAny_pure (hQ x h' tk hP (.inr ⟨old, a, true, oa, by rw [e1]; exact ho, hk a oa h1 h2 ha, h1, h2, h3⟩) hs' hT hsz hk)) (F.args_enumerate_next_1 _))))
theorem le_done {S : Addr} {Q : Option Value → Shared → Prop} (D : Draws prog w A.in1 it fp n P St) (hs : LeSt s.heap e it S n) (hst : St n s.heap)
    (hQ : ∀ h', Heap.ExtBut it s.heap h' → Q none { s with heap := h' }) : wpAny (model prog w) A (pyNext (.ref e)) Q E s := by
  rcases hs with ⟨z, old, h⟩ | ⟨old, a, f, oa, h, ha, h1, h2, h3⟩
  · exact wpAny_pyNext_enum_endD D h hst hQ
  · have hT : s.TypeIs (.ref e) "enumerate" := ⟨_, h, rfl⟩
    unfold pyNext
    refine wpAny_bind (wpAny_attempt (wpAny_callSpecial?_slot (name := Str.ofString "__next__") hT F.slot_enumerate_next
      (wpAny_call_entry F.slot_enumerate_next hT F.entry_enumerate_next ?_ (F.args_enumerate_next_1 _))))
    show wpAny _ _ (field (.ref e) 2 >>= _) _ _ _
    refine wpAny_bind (wpAny_field h rfl (x := .ref it) rfl ?_)
    refine wpAny_bind (D.done _ _ _ hst fun h' x he' hx' => ?_)
    obtain ⟨o, ho, hc⟩ := hx'
    refine wpAny_bind (wpAny_isInstance (T := "StopIteration") (b := true) ⟨o, ho, hc⟩ isSubtype_stop ?_)
    exact wpAny_pure (hQ _ he')
end
structure LeG (P : Nat → Value → Prop) (lo : Addr) (h : Heap) (as : List Addr) : Prop where
  rise : as.Pairwise (· < ·)
  above : ∀ a ∈ as, lo < a
  pairs : ∀ (j : Nat) (a : Addr), as[j]? = some a → ∃ x t, P j x ∧ h.get? a = some { cls := .type "tuple", data := .seq #[.int j t, x] }
theorem LeG.there {P : Nat → Value → Prop} {lo : Addr} {h : Heap} {as : List Addr} (g : LeG P lo h as) {a : Addr} (ha : a ∈ as) : a < h.objs.size := by
  obtain ⟨j, hj⟩ := List.mem_iff_getElem?.mp ha
  obtain ⟨_, _, _, e⟩ := g.pairs j a hj
  exact Heap.lt_size e
section
variable {prog : Program} {w : World} {A : Around} {s : Shared} {R : Result → Shared → Prop} {e it : Addr} {fp : List Addr} {n : Nat} {P : Nat → Value → Prop} {St : Nat → Heap → Prop}
theorem le_loop {S : Addr} (D : Draws prog w A.in1.in1 it fp n P St) (hSe : S ≠ e) (hSi : S ≠ it) (hSf : S ∉ fp) (hne : e ≠ it) (hef : e ∉ fp) (hn : n ≤ sizeLine) (res : Value) {h₁ : Heap} {lo : Addr} (hloe : e ≤ lo) (hloi : it ≤ lo) (hloS : S ≤ lo)
    (hR : ∀ h' tk acc c as, (∀ b o, b ≠ S → b ≠ e → b ≠ it → h₁.get? b = some o → h'.get? b = some o) → h'.get? S = some { cls := .type "list", dict := none, data := .seq acc c, slots := #[] } → as.length = n → LeG P lo h' as →
      acc.toList = as.map Value.ref → R (.ok (.ret res)) { s with heap := h', toks := tk }) :
    ∀ (k i : Nat) (h : Heap) (tk c : Nat) (acc : Array Value) (as : List Addr), n - i = k → i ≤ n → LeSt h e it S i → St i h → (∀ b o, b ≠ S → b ≠ e → b ≠ it → h₁.get? b = some o → h.get? b = some o) →
      h.get? S = some { cls := .type "list", dict := none, data := .seq acc c, slots := #[] } → acc.toList = as.map Value.ref → as.length = i → LeG P lo h as → lo < h.objs.size →
      codeAny (model prog w) A (.builtin "list.extend.loop" ⟨[.ref S, .ref e, res], []⟩) R { s with heap := h, toks := tk } := by
  intro k
  induction k with
  | zero =>
    intro i h tk c acc as hk hi hst hD hkeep hS hacc hal hG hIs
    have hin : i = n := by omega
    subst hin
    refine codeAny_builtin PySem.F.entry_extend_loop ?_
    rw [Around.under_plainId PySem.F.plain_extend_loop _]
    show wpAny _ A.in1 (pyNext (.ref e) >>= _) _ _ _
    refine wpAny_bind (le_done (s := { s with heap := h, toks := tk }) (A := A.in1) (S := S) D hst hD fun h' he => ?_)
    refine wpAny_pure (hR h' tk acc c as (fun b o h1 h2 h3 q => he b o h3 (hkeep b o h1 h2 h3 q)) (he S _ hSi hS) hal ⟨hG.rise, hG.above, fun j a hj => ?_⟩ hacc)
    obtain ⟨x, t, e1, e2⟩ := hG.pairs j a hj
    have := hG.above a (List.mem_of_getElem? hj)
    exact ⟨x, t, e1, he a _ (Nat.ne_of_gt (Nat.lt_of_le_of_lt hloi this)) e2⟩
  | succ k ih =>
    intro i h tk c acc as hk hi hst hD hkeep hS hacc hal hG hIs
    have hlt : i < n := by omega
    have hsz : acc.size = i := by rw [← Array.length_toList, hacc, List.length_map, hal]
    refine codeAny_builtin PySem.F.entry_extend_loop ?_
    rw [Around.under_plainId PySem.F.plain_extend_loop _]
    show wpAny _ A.in1 (pyNext (.ref e) >>= _) _ _ _
    refine wpAny_bind (le_item (s := { s with heap := h, toks := tk }) (A := A.in1) (S := S) D hst (Heap.lt_size hS) hD hlt hne hef fun x h' tk' hP hst' hD' ht hz hkp => ?_)
    dsimp only at ht hz hkp ⊢
    have hS' := hkp S _ hSe hSi hS
    have up : ∀ b o, b ≠ S → h'.get? b = some o → (h'.update S (Obj.mapSeq (·.push (Value.ref h.objs.size)))).get? b = some o := fun b o hb q => (Heap.get?_update_other _ _ (Ne.symm hb)).trans q
    have hSl : S < h.objs.size := Heap.lt_size hS
    show wpAny _ A.in1 (updateSeq S (·.push (Value.ref h.objs.size)) >>= _) _ _ _
    refine wpAny_bind ?_
    refine wpAny_updateSeq hS' rfl (wpAny_pure ⟨plainId_quiet PySem.F.plain_extend_loop _, ih (i + 1) _ (tk' + 1) _ (acc.push (Value.ref h.objs.size)) (as ++ [h.objs.size]) (by omega) hlt (hst'.keep up (Ne.symm hSe)) (D.frame _ _ _ hD' fun b hb o q => up b o (fun z => hSf (z ▸ hb)) q)
      (fun b o h1 h2 h3 q => up b o h1 (hkp b o h2 h3 (hkeep b o h1 h2 h3 q))) (Heap.get?_update_self _ hS' rfl) (by rw [Array.toList_push, hacc, List.map_append]; rfl) (by rw [List.length_append, hal]; rfl) ⟨?_, ?_, ?_⟩ ?_⟩) (by rw [hsz]; omega) (by show (acc.push (Value.ref h.objs.size)).size ≤ sizeLine + 1; rw [Array.size_push, hsz]; omega)
    · refine List.pairwise_append.mpr ⟨hG.rise, List.pairwise_singleton _ _, fun a ha b hb => ?_⟩
      rw [List.mem_singleton.mp hb]
      exact hG.there ha
    · intro a ha
      rcases List.mem_append.mp ha with ha | ha
      · exact hG.above a ha
      · rw [List.mem_singleton.mp ha]; exact hIs
    · intro j b hj
      rcases Nat.lt_trichotomy j as.length with h1 | h1 | h1
      · rw [List.getElem?_append_left h1] at hj
        obtain ⟨x', t', e1, e2⟩ := hG.pairs j b hj
        have hb := hG.above b (List.mem_of_getElem? hj)
        exact ⟨x', t', e1, up b _ (Nat.ne_of_gt (Nat.lt_of_le_of_lt hloS hb)) (hkp b _ (Nat.ne_of_gt (Nat.lt_of_le_of_lt hloe hb)) (Nat.ne_of_gt (Nat.lt_of_le_of_lt hloi hb)) e2)⟩
      · subst h1
        have hb : h.objs.size = b := by simpa using hj
        subst hb
        exact ⟨x, tk', by rw [hal]; exact hP, up _ _ (Nat.ne_of_gt hSl) (by rw [hal]; exact ht)⟩
      · have hnone : (as ++ [h.objs.size])[j]? = none := List.getElem?_eq_none (by rw [List.length_append, List.length_singleton]; omega)
        rw [hnone] at hj; cases hj
    · have q : (h'.update S (Obj.mapSeq (·.push (Value.ref h.objs.size)))).get? h.objs.size = _ := up _ _ (Nat.ne_of_gt hSl) ht
      exact Nat.lt_trans hIs (Heap.lt_size q)
end
theorem en_no_len : typeLookup (.type "enumerate") "__len__" = pure none := by rw [typeLookup_type, builtinLookup_eq_fast]; kernel_rfl
theorem en_no_hint : typeLookup (.type "enumerate") "__length_hint__" = pure none := by rw [typeLookup_type, builtinLookup_eq_fast]; kernel_rfl
section
variable {prog : Program} {w : World} {A : Around} {s : Shared} {R : Result → Shared → Prop} {e it : Addr} {fp : List Addr} {n : Nat} {P : Nat → Value → Prop} {St : Nat → Heap → Prop}
theorem le_extend {S lo : Addr} (D : Draws prog w A.in1.in1 it fp n P St) (hSe : S ≠ e) (hSi : S ≠ it) (hSf : S ∉ fp) (hne : e ≠ it) (hef : e ∉ fp) (hn : n ≤ sizeLine) (res : Value) (c₀ : Nat) (he : IsEnum s.heap e it 0 .none) (hst : St 0 s.heap) (hS : s.heap.get? S = some { cls := .type "list", data := .seq #[] c₀ }) (hloe : e ≤ lo) (hloi : it ≤ lo) (hloS : S ≤ lo) (hlo : lo < s.heap.objs.size)
    (hR : ∀ h' tk acc c as, (∀ b o, b ≠ S → b ≠ e → b ≠ it → s.heap.get? b = some o → h'.get? b = some o) → h'.get? S = some { cls := .type "list", dict := none, data := .seq acc c, slots := #[] } → as.length = n → LeG P lo h' as →
      acc.toList = as.map Value.ref → R (.ok (.ret res)) { s with heap := h', toks := tk }) :
    wpAny (model prog w) A.in1 (Builtin.List.listExtendWith (.ref S) (.ref e) res)
      (fun fin s' => match fin with | .done f => R (.ok f) s' | .again c' => c'.quiet = true ∧ codeAny (model prog w) A c' R s') (fun e s' => R (.error e) s') s := by
  have hT : s.TypeIs (.ref e) "enumerate" := ⟨_, he, rfl⟩
  unfold Builtin.List.listExtendWith
  refine wpAny_bind (wpAny_typeOf hT ?_)
  have h1 : Builtin.List.listSameRef (.ref S) (.ref e) = false := by simp [Builtin.List.listSameRef, hSe]
  have h2 : (Value.type "enumerate" == Value.type "list") = false := by decide
  have h3 : (Value.type "enumerate" == Value.type "tuple") = false := by decide
  simp only [h1, h2, h3, Bool.or_false, Bool.false_eq_true, if_false]
  refine wpAny_bind (wpAny_pyIter_enum he ?_)
  refine wpAny_bind (wpAny_holding ?_)
  unfold Builtin.List.listLengthHint
  refine wpAny_bind (wpAny_specialOf hT en_no_len ?_)
  show wpAny _ A.in1 (specialOf (Value.ref e) (Str.ofString "__length_hint__") >>= _) _ _ _
  refine wpAny_bind (wpAny_specialOf hT en_no_hint ?_)
  refine wpAny_pure ?_
  show wpAny _ A.in1 (rule "list.extend.makes-room" >>= fun _ => Builtin.List.listTouch (.ref S) >>= fun _ =>
    again (.builtin "list.extend.loop" ⟨[.ref S, .ref e, res], []⟩)) _ _ _
  refine wpAny_bind (wpAny_rule ?_)
  refine wpAny_bind ?_
  show wpAny _ A.in1 (updateSeq S (·.push .none) >>= fun _ => updateSeq S (·.pop)) _ _ _
  refine wpAny_bind (wpAny_updateSeq hS rfl ?_)
  have hS₂ := Heap.get?_update_self (Obj.mapSeq (·.push Value.none)) hS rfl
  refine wpAny_updateSeq (hz := by seq_fits) hS₂ rfl ?_
  have hS₃ := Heap.get?_update_self (Obj.mapSeq (·.pop)) hS₂ rfl
  have oth : ∀ b o, b ≠ S → s.heap.get? b = some o → ((s.heap.update S (Obj.mapSeq (·.push Value.none))).update S (Obj.mapSeq (·.pop))).get? b = some o :=
    fun b o hb q => (Heap.get?_update_other _ _ (Ne.symm hb)).trans ((Heap.get?_update_other _ _ (Ne.symm hb)).trans q)
  refine wpAny_pure ⟨plainId_quiet F.plain_extend_loop _, le_loop (s := s) D hSe hSi hSf hne hef hn res (h₁ := s.heap) hloe hloi hloS hR n 0 _ s.toks _ #[] [] (Nat.sub_zero _) (Nat.zero_le _) (.inl ⟨rfl, .none, oth e _ (Ne.symm hSe) he⟩)
    (D.frame 0 _ _ hst fun b hb o q => oth b o (fun z => hSf (z ▸ hb)) q) (fun b o hb _ _ q => oth b o hb q) hS₃ rfl rfl ⟨List.Pairwise.nil, (fun _ ha => nomatch ha), (fun j a hj => by simp at hj)⟩ ?_⟩
  show lo < ((s.heap.update S _).update S _).objs.size
  rw [Heap.size_update, Heap.size_update]
  exact hlo
theorem le_init {S lo : Addr} (D : Draws prog w A.in1.in1 it fp n P St) (hSe : S ≠ e) (hSi : S ≠ it) (hSf : S ∉ fp) (hne : e ≠ it) (hef : e ∉ fp) (hn : n ≤ sizeLine) (he : IsEnum s.heap e it 0 .none) (hst : St 0 s.heap) (hS : s.heap.get? S = some { cls := .type "list", data := .seq #[] }) (hloe : e ≤ lo) (hloi : it ≤ lo) (hloS : S ≤ lo) (hlo : lo < s.heap.objs.size)
    (hR : ∀ h' tk acc c as, (∀ b o, b ≠ S → b ≠ e → b ≠ it → s.heap.get? b = some o → h'.get? b = some o) → h'.get? S = some { cls := .type "list", dict := none, data := .seq acc c, slots := #[] } → as.length = n → LeG P lo h' as →
      acc.toList = as.map Value.ref → R (.ok (.ret .none)) { s with heap := h', toks := tk }) :
    wpAny (model prog w) A.in1 (Builtin.«list.__init__» ⟨[.ref S, .ref e], []⟩)
      (fun fin s' => match fin with | .done f => R (.ok f) s' | .again c' => c'.quiet = true ∧ codeAny (model prog w) A c' R s') (fun e s' => R (.error e) s') s := by
  show wpAny _ A.in1 (do let old ← Builtin.List.listItems (.ref S); Builtin.List.listUpdate (.ref S) (fun _ => #[]); letGo old.toList.reverse; Builtin.List.listExtendWith (.ref S) (.ref e) .none) _ _ s
  refine wpAny_bind ?_
  unfold Builtin.List.listItems
  refine wpAny_bind (wpAny_seqItems hS rfl (wpAny_pure ?_))
  show wpAny _ A.in1 (updateSeq S (fun _ => #[]) >>= fun _ => letGo (#[] : Array Value).toList.reverse >>= fun _ => Builtin.List.listExtendWith (.ref S) (.ref e) .none) _ _ s
  refine wpAny_bind (wpAny_updateSeq hS rfl ?_)
  have hS₂ := Heap.get?_update_self (Obj.mapSeq (fun _ => (#[] : Array Value))) hS rfl
  have oth : ∀ b o, b ≠ S → s.heap.get? b = some o → (s.heap.update S (Obj.mapSeq (fun _ => (#[] : Array Value)))).get? b = some o :=
    fun b o hb q => (Heap.get?_update_other _ _ (Ne.symm hb)).trans q
  refine wpAny_bind (wpAny_letGo ?_)
  refine le_extend (S := S) (lo := lo) D hSe hSi hSf hne hef hn .none _ (oth e _ (Ne.symm hSe) he) (D.frame 0 _ _ hst fun b hb o q => oth b o (fun z => hSf (z ▸ hb)) q) hS₂ hloe hloi hloS ?_ fun h' tk acc c as hk hS' hl hG hacc => hR h' tk acc c as (fun b o h1 h2 h3 q => hk b o h1 h2 h3 (oth b o h1 q)) hS' hl hG hacc
  show lo < (s.heap.update S _).objs.size
  rw [Heap.size_update]
  exact hlo
end
section
variable {prog : Program} {w : World} {A : Around} {E : Value → Shared → Prop} {s : Shared} {e it : Addr} {fp : List Addr} {n : Nat} {P : Nat → Value → Prop} {St : Nat → Heap → Prop}
theorem le_call {Q : Value → Shared → Prop} (D : Draws prog w A.in1.in1.in1 it fp n P St) (hif : it ∈ fp) (hfp : ∀ b ∈ fp, b < s.heap.objs.size) (hne : e ≠ it) (hef : e ∉ fp) (hn : n ≤ sizeLine) (he : IsEnum s.heap e it 0 .none) (hst : St 0 s.heap)
    (hQ : ∀ h' tk acc c as, (∀ b o, b ≠ e → b ≠ it → s.heap.get? b = some o → h'.get? b = some o) → h'.get? s.heap.objs.size = some { cls := .type "list", dict := none, data := .seq acc c, slots := #[] } → as.length = n → LeG P s.heap.objs.size h' as →
      acc.toList = as.map Value.ref → Q (.ref s.heap.objs.size) { s with heap := h', toks := tk }) :
    wpAny (model prog w) A (call (.type "list") [.ref e]) Q E s := by
  have hSf : s.heap.objs.size ∉ fp := fun hm => Nat.lt_irrefl _ (hfp _ hm)
  have hel : e < s.heap.objs.size := Heap.lt_size he
  have hil := hfp it hif
  refine callType_codes (Q₁ := fun obj s₁ => obj = .ref s.heap.objs.size ∧ s₁ = { s with heap := s.heap.push { cls := .type "list", data := .seq #[] } }) F.called_list (F.typeCall_list_1 _) F.entry_list_init
    (code_list_new _ ⟨rfl, rfl⟩) fun obj s₁ h₁ => ?_
  obtain ⟨rfl, rfl⟩ := h₁
  have hS : (s.heap.push { cls := .type "list", data := .seq #[] }).get? s.heap.objs.size = some { cls := .type "list", data := .seq #[] } := Heap.get?_push_size _ rfl
  refine ⟨⟨_, hS, rfl⟩, F.args_list_init_2 _ _, le_init (A := A.in1) (S := s.heap.objs.size) (lo := s.heap.objs.size) D (Nat.ne_of_gt hel) (Nat.ne_of_gt hil) hSf hne hef hn (Heap.get?_push_of_some _ he) (D.frame 0 _ _ hst fun b _ o q => Heap.get?_push_of_some _ q) hS (Nat.le_of_lt hel) (Nat.le_of_lt hil) (Nat.le_refl _) (Heap.lt_size hS) fun h' tk acc c as hk hS' hl hG hacc => ?_⟩
  exact ⟨rfl, hQ h' tk acc c as (fun b o h2 h3 q => hk b o (Nat.ne_of_lt (Heap.lt_size q)) h2 h3 (Heap.get?_push_of_some _ q)) hS' hl hG hacc⟩
end
end SG
set_option maxHeartbeats 1000000
namespace SG
open PySem PySem.Spec PyProof.Rows L2
def putE : Hp → List Addr → List V → Nat → Hp
  | H, a :: as, x :: xs, i => putE (upd H a (.tup [.int (i : Nat), x])) as xs (i + 1)
  | H, _, _, _ => H
theorem putE_off {b : Addr} : ∀ (as : List Addr) (xs : List V) (H : Hp) (i : Nat), b ∉ as → putE H as xs i b = H b
  | [], _, _, _, _ => rfl
  | _ :: _, [], _, _, _ => rfl
  | a :: as, x :: xs, H, i, h => by
    show putE (upd H a (.tup [.int (i : Nat), x])) as xs (i + 1) b = H b
    rw [putE_off as xs _ _ (fun z => h (List.mem_cons_of_mem _ z)), upd_ne (fun z => h (by rw [z]; exact List.mem_cons_self))]
theorem putE_at : ∀ (as : List Addr) (xs : List V) (H : Hp) (i : Nat), as.length = xs.length → as.Nodup → ∀ (j : Nat) (a : Addr), as[j]? = some a → ∃ x, xs[j]? = some x ∧ putE H as xs i a = some (.tup [.int ((i + j : Nat) : Int), x])
  | [], _, _, _, _, _, j, a, h => by simp at h
  | _ :: _, [], _, _, h, _, _, _, _ => by cases h
  | a :: as, x :: xs, H, i, h, hn, 0, b, hj => by
    simp at hj
    subst hj
    have hn' := List.nodup_cons.mp hn
    refine ⟨x, rfl, ?_⟩
    show putE (upd H a (.tup [.int (i : Nat), x])) as xs (i + 1) a = _
    rw [putE_off as xs _ _ hn'.1, upd_same]; rfl
  | a :: as, x :: xs, H, i, h, hn, j + 1, b, hj => by
    have hn' := List.nodup_cons.mp hn
    obtain ⟨y, h1, h2⟩ := putE_at as xs (upd H a (.tup [.int (i : Nat), x])) (i + 1) (Nat.succ.inj h) hn'.2 j b (by simpa using hj)
    refine ⟨y, by simpa using h1, ?_⟩
    show putE (upd H a (.tup [.int (i : Nat), x])) as xs (i + 1) b = _
    rw [h2, show i + 1 + j = i + (j + 1) by omega]
section
variable {X : Cx} {pins : List (Addr × Obj)} {σ : L2.St} {H : Hp} {s : Shared}
theorem enum_laid {h' : Heap} {tk : Nat} {xs : List V} {acc : Array Value} {c : Nat} {as : List Addr} {S : Addr} {P : Nat → Value → Prop} (I : Inv X pins σ H s) (hz : xs.length ≤ sizeLine)
    (hk : ∀ b o, s.heap.get? b = some o → h'.get? b = some o) (hSl : s.heap.objs.size ≤ S) (hS : h'.get? S = some { cls := .type "list", dict := none, data := .seq acc c, slots := #[] }) (hl : as.length = xs.length) (hG : LeG P S h' as) (m4 : ∀ j v, P j v → ∃ x, xs[j]? = some x ∧ RelV x v) (hacc : acc.toList = as.map Value.ref) :
    H S = none ∧ (∀ t ∈ as, H t = none) ∧ S ∉ as ∧ as.Nodup ∧ Inv X pins σ (putE (upd H S (.lst (as.map V.ref))) as xs 0) { s with heap := h', toks := tk } := by
  have hSn : S ∉ as := fun z => Nat.lt_irrefl _ (hG.above _ z)
  have nd : as.Nodup := List.Pairwise.imp (fun {a b} (h : a < b) => Nat.ne_of_lt h) hG.rise
  have new : ∀ t ∈ as, H t = none := fun t ht => I.hok.fresh (Nat.le_trans hSl (Nat.le_of_lt (hG.above t ht)))
  have newS : H S = none := I.hok.fresh hSl
  have atP := putE_at as xs (upd H S (.lst (as.map V.ref))) 0 hl nd
  have off : ∀ b, b ∉ as → b ≠ S → putE (upd H S (.lst (as.map V.ref))) as xs 0 b = H b := fun b h1 h2 => by rw [putE_off as xs _ _ h1, upd_ne h2]
  have low : ∀ b o, s.heap.get? b = some o → b ∉ as ∧ b ≠ S := fun b o e => ⟨fun z => absurd (Heap.lt_size e) (Nat.not_lt.mpr (Nat.le_trans hSl (Nat.le_of_lt (hG.above b z)))), Nat.ne_of_lt (Nat.lt_of_lt_of_le (Heap.lt_size e) hSl)⟩
  have kp : ∀ b u, H b = some u → (putE (upd H S (.lst (as.map V.ref))) as xs 0) b = some u := fun b u e => by
    rw [off b (fun z => by rw [new b z] at e; cases e) (fun z => by rw [z, newS] at e; cases e)]
    exact e
  have eS : putE (upd H S (.lst (as.map V.ref))) as xs 0 S = some (.lst (as.map V.ref)) := by rw [putE_off as xs _ _ hSn, upd_same]
  refine ⟨newS, new, hSn, nd, ?_⟩
  refine I.call' (ch := []) rfl ⟨fun b o q _ _ _ => hk b o q, fun b o q _ _ _ => ⟨o.slots, hk b o q⟩, fun b o q n _ => ?_, fun b o q _ => ⟨o, hk b o q⟩, fun b xs q => kp b _ q, fun b o u q => kp b _ q, fun b ps q => ⟨#[], by rw [kp b _ q]; simp⟩⟩ (fun b u q => ?_) I.bare fun b z => by simp at z
  · obtain ⟨z1, z2⟩ := low b o q
    rw [off b z1 z2]
    exact n
  · by_cases hb : b ∈ as
    · obtain ⟨j, e1⟩ := List.mem_iff_getElem?.mp hb
      obtain ⟨x, e2, e3⟩ := atP j b e1
      rw [e3] at q
      cases q
      obtain ⟨u, t, f1, f2⟩ := hG.pairs j b e1
      obtain ⟨y, g1, g2⟩ := m4 j u f1
      rw [e2] at g1
      cases g1
      rw [Nat.zero_add]
      exact ⟨by show 2 ≤ sizeLine; decide, [.int j t, u], .cons ⟨_, rfl⟩ (.cons g2 .nil), ⟨_, f2, rfl, _, rfl⟩⟩
    · by_cases hb2 : b = S
      · rw [hb2] at q ⊢
        rw [eS] at q
        cases q
        refine ⟨by rw [List.length_map]; omega, acc.toList, c, by rw [hacc]; exact LiI.vals_refs as, ?_⟩
        rw [Array.toArray_toList]
        exact hS
      · rw [off b hb hb2] at q
        exact (I.hok b u q).stay (fun d v _ y => hk d v y) (fun d y => kp d _ y) fun d xs y => kp d _ y
end
def rLenum : V → Hp → VK → Prop := fun v H Q => ∃ kd xs, v = Kd.val kd ∧ Gd kd xs H ∧ xs.length ≤ sizeLine ∧
  ∀ (q : Addr) (as : List Addr), H q = none → (∀ a ∈ as, H a = none) → q ∉ as → as.Nodup → as.length = xs.length → Q (.ref q) (putE (upd H q (.lst (as.map V.ref))) as xs 0)
def tLenum (te : TE) : TE := fun σ H Q => te σ H fun v H1 => rLenum v H1 Q
section
variable {X : Cx}
theorem pe_lenum {e : Expr} {te : TE} {p p2 pos pos2 : Pos} (hc : X.calm = true) (hg : Gl X "list") (hm : X.mg "list" = none) (hg2 : Gl X "enumerate") (hm2 : X.mg "enumerate" = none) (he : PE X e te)
    (hs : starEach [e] X.env = (false, eval e X.env) :: starEach [] X.env)
    (hs2 : starEach [.Call (.Name "enumerate" p2) [e] [] pos2] X.env = (false, eval (.Call (.Name "enumerate" p2) [e] [] pos2) X.env) :: starEach [] X.env := by rfl) :
    PE X (.Call (.Name "list" p) [.Call (.Name "enumerate" p2) [e] [] pos2] [] pos) (tLenum te) := by
  refine ⟨fun pins s σ H Q I h => ?_⟩
  refine Call_ (ld_blt I hg hm boot_list (PyProof.Rows.callWith_type1 (args_cons (Call_ (ld_blt I hg2 hm2 boot_enumerate (PyProof.Rows.callWith_type1 (args_cons (thn (he.run pins s σ H _ I h) fun u s1 ⟨v, H1, I1, r1, q1⟩ => args_nil ?_) hs) hs rfl))) hs2) hs2 rfl))
  obtain ⟨kd, xs, ev, hq, hz, q⟩ := q1
  subst ev
  obtain ⟨o, HH, B, hB, hit⟩ := begins_of I1 hq r1
  refine call_enum1 B hB fun h' he' ho hk => args_nil ?_
  have I2 : Inv X pins σ H1 { s1 with heap := h' } := I1.kept (t' := s1.toks) hk
  have fr : ∀ b, s1.heap.objs.size ≤ b → H1 b = none := fun b hb => I1.hok.fresh hb
  obtain ⟨fp, P, St, D, m1, m2, st0, m3, m4⟩ := draws_of (A := X.A.in1.in1.in1) I2 (I1.ok.hd hc) hq (fr _ (Nat.le_refl _)) (hit _ h' ho)
  have hfp : ∀ b ∈ fp, b < h'.objs.size := fun b hb => by
    rcases m2 b hb with z | ⟨o, z⟩
    · rw [z]; exact Heap.lt_size ho
    · exact Nat.lt_of_not_le fun hle => by rw [I2.hok.fresh hle] at z; cases z
  have hef : s1.heap.objs.size + 1 ∉ fp := fun z => by
    rcases m2 _ z with q | ⟨o, q⟩
    · exact absurd q (Nat.succ_ne_self _)
    · rw [fr _ (Nat.le_add_right _ _)] at q; cases q
  refine le_call (s := { s1 with heap := h' }) (A := X.A) D m1 hfp (Nat.succ_ne_self _) hef hz he' st0 fun h'' tk acc c as hk2 hS hl hG hacc => ?_
  have hkk : ∀ b o, s1.heap.get? b = some o → h''.get? b = some o := fun b o z => hk2 b o (Nat.ne_of_lt (Nat.lt_of_lt_of_le (Heap.lt_size z) (Nat.le_add_right _ _))) (Nat.ne_of_lt (Heap.lt_size z)) (hk b o z)
  have hle : s1.heap.objs.size ≤ h'.objs.size := Nat.le_of_lt (Heap.lt_size ho)
  obtain ⟨k1, k2, k3, k4, J⟩ := enum_laid (tk := tk) I1 hz hkk hle hS hl hG m4 hacc
  exact ⟨.ref _, _, J, rfl, q _ as k1 k2 k3 k4 hl⟩
end
end SG
namespace SG
open PySem PySem.Spec PyProof.Rows L2
section
variable {c : Cn} {F : Addr → Prop} {d : Dice}
theorem putE_step : ∀ (as : List Addr) (xs : List V) (H : Hp) (i : Nat), (∀ a ∈ as, H a = none) → as.Nodup → Wf c F H d → Step c F H F (putE H as xs i) ∧ Wf c F (putE H as xs i) d
  | [], _, _, _, _, _, w => ⟨.refl, w⟩
  | _ :: _, [], _, _, _, _, w => ⟨.refl, w⟩
  | a :: as, x :: xs, H, i, h, hn, w => by
    have hn' := List.nodup_cons.mp hn
    have ha := h a List.mem_cons_self
    obtain ⟨s, w2⟩ := putE_step as xs (upd H a (.tup [.int (i : Nat), x])) (i + 1) (fun b hb => by
      rw [upd_ne (fun z => hn'.1 (by rw [← z]; exact hb))]
      exact h b (List.mem_cons_of_mem _ hb)) hn'.2 (w.new' ha)
    exact ⟨(Step.new' ha).trans s, w2⟩
end
section
variable {c : Cn} {ck : Ck} {cf : CF} {k : Nat} {X : Cx} {W : WX}
theorem s_lenum {a : E} {s : Syn} (G : Good c ck cf k X) (iha : ∀ s, chk ck a X.env.scope s = true → Snd c cf X W X.env.scope a s) (h : chk ck (.lenum a) X.env.scope s = true) : Snd c cf X W X.env.scope (.lenum a) s := by
  simp only [chk] at h
  split at h
  · simp only [Bool.and_eq_true] at h
    obtain ⟨⟨⟨⟨⟨h1, h2⟩, h3⟩, h5⟩, h4⟩, h6⟩ := h
    have hx := of_decide_eq_true h1
    have hy := of_decide_eq_true h3
    subst hx hy
    refine snd_ex (PE.imp (pe_lenum G.calm (gl_of h2) (G.blt "list" (by decide)) (gl_of h5) (G.blt "enumerate" (by decide)) (iha _ h6).1 (star1 h4) rfl) fun σ H Q ⟨env, d, F, es, q⟩ => ?_) fun _ => rfl
    simp only [ev] at q
    refine ⟨env, d, F, es, q.bind.imp fun x d1 F1 H1 st w q1 v dq => ?_⟩
    obtain ⟨z, ez, q2⟩ := q1.of
    cases ei : items x with
    | none => rw [ei] at ez; cases ez
    | some l =>
      rw [ei] at ez
      simp only [Option.bind_some] at ez
      split at ez <;> cases ez
      rename_i hlim
      obtain ⟨kd, vs, ev, r, g⟩ := kd_of dq ei
      refine ⟨kd, vs, ev, g _ _ .refl, by rw [r.length]; exact Nat.le_trans hlim lim_line, fun p as hp has hpn hnd hl => ?_⟩
      have has' : ∀ b ∈ as, upd H1 p (.lst (as.map V.ref)) b = none := fun b hb => by
        rw [upd_ne (fun z => hpn (by rw [← z]; exact hb))]
        exact has b hb
      obtain ⟨s2, w2⟩ := putE_step (F := addF F1 p) as vs (upd H1 p (.lst (as.map V.ref))) 0 has' hnd (w.newF hp)
      have s1 : Step c F1 H1 (addF F1 p) (putE (upd H1 p (.lst (as.map V.ref))) as vs 0) := (Step.newF hp).trans s2
      refine q2 _ _ s1 w2 _ (.lst (.inr rfl) (by rw [putE_off as vs _ _ hpn, upd_same]) (.of (by rw [List.length_map, enum_len, hl, r.length]) fun i u y e1 e2 => ?_))
      rw [List.getElem?_map] at e1
      cases ea : as[i]? with
      | none => rw [ea] at e1; cases e1
      | some b =>
        rw [ea] at e1
        cases e1
        obtain ⟨x', hx', e3⟩ := putE_at as vs (upd H1 p (.lst (as.map V.ref))) 0 hl hnd i b ea
        obtain ⟨z, h1, h2⟩ := enum_get e2
        obtain ⟨z', h1', dq'⟩ := r.get' hx'
        rw [h1] at h1'
        cases h1'
        rw [h2]
        exact .tup e3 (.cons (.int _) (.cons (dq'.mono (s1.le w)) .nil))
  · cases h
end
end SG
namespace SG
open PySem PySem.Spec PyProof.Rows L2
section
variable {c : Cn} {ck : Ck} {cf : CF} {k : Nat} {X : Cx} {W : WX}
abbrev W0 : WX := fun _ _ _ _ => False
theorem tabs_ext {T : List (Addr × Str)} {H H' : Hp} (t : LamX.Tabs T H) (e : ∀ b o, H b = some o → (∀ xs, o ≠ .lst xs) → H' b = some o) : LamX.Tabs T H' := fun p hp => by
  obtain ⟨ps, h1, h2, h3⟩ := t p hp
  refine ⟨ps, e _ _ h1 (by intro xs z; cases z), h2, fun pos cv hc => ?_⟩
  obtain ⟨a, e1, e2⟩ := h3 pos cv hc
  exact ⟨a, e1, e _ _ e2 (by intro xs z; unfold LamX.CodeO at z; cases z)⟩
theorem tabs_ext' {T : List (Addr × Str)} {H H' : Hp} (t : LamX.Tabs T H) (e : ∀ b o, H b = some o → (∀ C dx fs, o ≠ .ins C dx fs) → H' b = some o) : LamX.Tabs T H' := fun p hp => by
  obtain ⟨ps, h1, h2, h3⟩ := t p hp
  refine ⟨ps, e _ _ h1 (by intro _ _ _ z; cases z), h2, fun pos cv hc => ?_⟩
  obtain ⟨a, e1, e2⟩ := h3 pos cv hc
  exact ⟨a, e1, e _ _ e2 (by intro _ _ _ z; unfold LamX.CodeO at z; cases z)⟩
theorem le_upd {F : Addr → Prop} {H : Hp} {p : Addr} {xs ys : List V} (hp : H p = some (.lst xs)) (nf : ¬ F p) : Le F H F (upd H p (.lst ys)) :=
  ⟨fun _ h => h, fun b zs f e => by rw [upd_ne (fun z => nf (by rw [← z]; exact f))]; exact e, fun b zs e => by rw [upd_ne (fun z => by subst z; rw [hp] at e; cases e)]; exact e, fun b φ e => by rw [upd_ne (fun z => by subst z; rw [hp] at e; cases e)]; exact e, fun b C dx fs _ e => ⟨fs, by rw [upd_ne (fun z => by subst z; rw [hp] at e; cases e)]; exact e⟩⟩
theorem wf_upd {F : Addr → Prop} {H : Hp} {d : Dice} {p : Addr} {xs ys : List V} (w : Wf c F H d) (hp : H p = some (.lst xs)) (nf : ¬ F p) (nd : p ≠ c.dc) : Wf c F (upd H p (.lst ys)) d :=
  w.updL hp nf nd (le_upd hp nf) (tabs_ext w.tabs fun b o e n => by
    have : b ≠ p := fun z => by subst z; rw [hp] at e; cases e; exact n _ rfl
    rw [upd_ne this]; exact e)
theorem wipe_same {σ σ' : L2.St} (hl : σ'.length = σ.length) : ∀ {vs : List Nat}, (∀ j : Nat, j ∉ vs → σ'[j]? = σ[j]?) → L2.wipe σ' vs = L2.wipe σ vs := by
  intro vs h
  apply List.ext_getElem?
  intro j
  by_cases hj : j ∈ vs
  · have key : ∀ (τ : L2.St) (ws : List Nat), j ∈ ws → (L2.wipe τ ws)[j]? = if j < τ.length then some none else none := by
      intro τ ws
      induction ws with
      | nil => intro h; cases h
      | cons w ws ih =>
        intro h
        show ((L2.wipe τ ws).set w none)[j]? = _
        by_cases e : w = j
        · subst e
          rw [List.getElem?_set]
          simp [L2.wipe_length]
        · rw [List.getElem?_set_ne e]
          exact ih ((List.mem_cons.mp h).elim (fun z => absurd z.symm e) id)
    rw [key σ' vs hj, key σ vs hj, hl]
  · rw [L2.wipe_out hj, L2.wipe_out hj]
    exact h j hj
theorem wipe_wipe (σ : L2.St) (vs : List Nat) : L2.wipe (L2.wipe σ vs) vs = L2.wipe σ vs := wipe_same (L2.wipe_length σ vs) fun j hj => L2.wipe_out hj
def TurnOk (c : Cn) (tt : TT) (te : TE) (f : Env → Dice → Res (Option D)) : Prop := ∀ env d F σ H (K1 : VK) (K0 : Hp → Prop), ES c env d F σ H →
  (match f env d with
    | .ok (some z) d2 => ∀ v H3 F3, Step c F H F3 H3 → Wf c F3 H3 d2 → Dq c F3 H3 v z → K1 v H3
    | .ok none d2 => ∀ H3 F3, Step c F H F3 H3 → Wf c F3 H3 d2 → K0 H3
    | _ => False) → tt σ H (fun b H3 => if b = true then te σ H3 K1 else K0 H3)
theorem turn_plain {elt : E} : TurnOk c tYes (tE c cf W0 elt) (fun env d => (ev cf elt env d).bind fun y d => .ok (some y) d) := by
  intro env d F σ H K1 K0 es h
  show if true = true then tE c cf W0 elt σ H K1 else K0 H
  refine iteT' ⟨env, d, F, es, ?_⟩
  cases e : ev cf elt env d with
  | ok z d2 => simp only [e, Res.bind] at h; exact fun H3 F3 st w v dq => h v H3 F3 st w dq
  | err n d2 => simp only [e, Res.bind] at h
  | bad => simp only [e, Res.bind] at h
theorem turn_if {elt cd : E} : TurnOk c (tT c cf W0 cd) (tE c cf W0 elt) (fun env d => (ev cf cd env d).bind fun b d => match truth b with
        | some true => (ev cf elt env d).bind fun y d => .ok (some y) d
        | some false => .ok none d
        | none => .bad) := by
  intro env d F σ H K1 K0 es h
  refine ⟨env, d, F, es, ?_⟩
  cases e : ev cf cd env d with
  | ok z d1 =>
    simp only [e, Res.bind] at h
    intro H1 F1 st w
    cases et : truth z with
    | none => simp only [et] at h
    | some b =>
      refine ⟨b, rfl, ?_⟩
      cases b with
      | true =>
        simp only [et] at h
        refine iteT' ⟨env, d1, F1, es.step st w, ?_⟩
        cases e2 : ev cf elt env d1 with
        | ok y d2 => simp only [e2] at h; exact fun H3 F3 st3 w3 v dq => h v H3 F3 (st.trans st3) w3 dq
        | err n d2 => simp only [e2] at h
        | bad => simp only [e2] at h
      | false =>
        simp only [et] at h
        exact iteF' (h H1 F1 st w)
  | err n d2 => simp only [e, Res.bind] at h
  | bad => simp only [e, Res.bind] at h
theorem bind_bind {α β γ : Type} (r : Res α) (f : α → Dice → Res β) (g : β → Dice → Res γ) : (r.bind f).bind g = r.bind fun x d => (f x d).bind g := by cases r <;> rfl
theorem lc_reading {J : It} {F1 : Addr → Prop} {H1 : Hp} {l : List D} {σ : L2.St} {env : Env} {d1 : Dice} {tg : E} {own : List Nat} {tt : TT} {te : TE} {f : Env → Dice → Res (Option D)} {Q : VK} {D : Addr}
    (es : ES c env d1 F1 σ H1) (itok : ItOk c J F1 H1 l) (tf : TurnOk c tt te f) (hD : H1 D = none) (hl : l.length ≤ lim) (hs : ∀ j ∈ tgSl tg, j ∈ own)
    (q : RG c W σ F1 H1 ((lcLoop (fun y => asg tg y (env.wipe own)) f l d1).bind fun ys d => .ok (.lst ys) d) fun x _ F' H' => ∀ v, Dq c F' H' v x → Q v H') :
    ∃ W : Nat → Nat → Hp → Prop, (∃ m, W 0 m (upd H1 D (.lst []))) ∧ ∀ i m H, W i m H →
      (J.stop i H ∧ Q (.ref D) H) ∨ (J.go i H ∧ ∃ Nx : Hp → Prop, (∀ H', Nx H' → ∃ m', m' < m ∧ W (i + 1) m' H') ∧ ∀ x H', J.yld i H x H' → gT c tg x (L2.wipe σ own) H' fun σ2 H2 => L2.wipe σ2 own = L2.wipe σ own ∧ tt σ2 H2 fun b H3 =>
        if b = true then te σ2 H3 fun y H4 => ∃ acc, H4 D = some (.lst acc) ∧ acc.length < sizeLine ∧ Nx (upd H4 D (.lst (acc ++ [y]))) else Nx H3) := by
  obtain ⟨G, Y, wk, hG, hY⟩ := itok
  have w1 := es.wf
  have nD : D ≠ c.dc := w1.fresh_ne hD
  refine lc_it wk (Qd := fun H => Q (.ref D) H) (fun i H' => ∃ F' d' acc accs, Step c F1 H1 F' H' ∧ Wf c F' H' d' ∧ H' D = some (.lst acc) ∧ ¬ F' D ∧ DqA c F' H' acc accs ∧ accs.length ≤ i ∧
    RG c W σ F1 H1 ((lcLoop (fun y => asg tg y (env.wipe own)) f (l.drop i) d').bind fun ys d => .ok (.lst (accs ++ ys)) d) fun x _ F' H' => ∀ v, Dq c F' H' v x → Q v H') ?_ ?_ ?_ ?_
  · exact ⟨F1, d1, [], [], .new' hD, w1.new' hD, upd_same, w1.fresh_F hD, .nil, Nat.le_refl _, by simpa using q⟩
  · rintro i H' hi ⟨F', d', acc, accs, st, w, _⟩
    exact hG H' F' (st.le w1)
  · rintro i x Hc Hy hi ⟨F', d', acc, accs, st, w, hd, nf, r, hle, q⟩ hy
    have hli : i < l.length := hi
    have ey : l[i]? = some l[i] := by simp [hli]
    have : ∃ st2 : Step c F' Hc F' Hy, Wf c F' Hy d' ∧ Dq c F' Hy x l[i] := by
      rcases hY i Hc F' x Hy l[i] (st.le w1) ey hy with ⟨e, dq⟩ | ⟨T, xs, ys, e1, e2, e3, e4, dq⟩
      · subst e; exact ⟨.refl, w, dq⟩
      · subst e1 e3
        rw [e4]
        exact ⟨.new' e2, w.new' e2, .newT w e2 dq⟩
    obtain ⟨st2, w2, dqy⟩ := this
    have hd2 : Hy D = some (.lst acc) := st2.keep D _ hd nD trivial
    have es2 : ES c (env.wipe own) d' F' (L2.wipe σ own) Hy := (es.step (st.trans st2) w2).wipe own
    rw [List.drop_eq_getElem_cons hli] at q
    simp only [lcLoop] at q
    cases ea : asg tg l[i] (env.wipe own) with
    | none => rw [ea] at q; exact q.elim
    | some env' =>
      rw [ea] at q
      simp only at q
      refine ⟨_, d', F', l[i], es2, dqy, env', ea, fun σ' es' so => ⟨?_, ?_⟩⟩
      · have : L2.wipe σ' own = L2.wipe (L2.wipe σ own) own := wipe_same (by rw [so.1]) fun j hj => so.2 j fun z => hj (hs j z)
        rw [this, wipe_wipe]
      · refine tf env' d' F' σ' Hy _ _ es' ?_
        have more : ∀ (H3 : Hp) (F3 : Addr → Prop) (d2 : Dice), Step c F' Hy F3 H3 → Wf c F3 H3 d2 → H3 D = some (.lst acc) ∧ ¬ F3 D ∧ DqA c F3 H3 acc accs ∧ Step c F1 H1 F3 H3 := fun H3 F3 d2 s3 w3 => by
          refine ⟨s3.keep D _ hd2 nD trivial, fun z => ?_, (r.mono (st2.le w)).mono (s3.le w2), (st.trans st2).trans s3⟩
          rcases s3.new D z with z | z | z
          · exact nf z
          · exact z.not hd2
          · exact nD z
        cases ef : f env' d' with
        | bad => rw [ef] at q; exact q.elim
        | err n d2 => rw [ef] at q; exact q.elim
        | ok o d2 =>
          rw [ef] at q
          simp only [Res.noerr, Res.bind] at q
          cases o with
          | none =>
            intro H3 F3 s3 w3
            obtain ⟨m1, m2, m3, m4⟩ := more H3 F3 d2 s3 w3
            refine ⟨F3, d2, acc, accs, m4, w3, m1, m2, m3, by omega, ?_⟩
            cases el : lcLoop (fun y => asg tg y (env.wipe own)) f (l.drop (i + 1)) d2 with
            | ok ys d3 => rw [el] at q; exact q
            | err n d3 => rw [el] at q; exact q
            | bad => rw [el] at q; exact q
          | some z =>
            intro v H3 F3 s3 w3 dq3
            obtain ⟨m1, m2, m3, m4⟩ := more H3 F3 d2 s3 w3
            refine ⟨acc, m1, ?_, F3, d2, acc ++ [v], accs ++ [z], ?_, wf_upd w3 m1 m2 nD, upd_same, m2, (m3.snoc dq3).mono (le_upd m1 m2), by simp; omega, ?_⟩
            · have e1 := m3.length
              have e2 := lim_line
              omega
            · exact m4.updN (.of hD)
            · cases el : lcLoop (fun y => asg tg y (env.wipe own)) f (l.drop (i + 1)) d2 with
              | ok ys d3 => rw [el] at q; simpa [Res.bind] using q
              | err n d3 => rw [el] at q; exact q
              | bad => rw [el] at q; exact q
  · rintro H' ⟨F', d', acc, accs, st, w, hd, nf, r, hle, q⟩
    rw [List.drop_length] at q
    simp only [lcLoop, Res.bind, List.append_nil] at q
    have s' : Step c F1 H1 (addF F' D) H' := st.frz (.of hD)
    have w' : Wf c (addF F' D) H' d' := w.frz hd nD
    exact q H' _ s' w' _ (.lst (.inr rfl) hd (r.mono le_add))
end
end SG
namespace SG
open PySem PySem.Spec PyProof.Rows L2
section
variable {c : Cn} {ck : Ck} {cf : CF} {k : Nat} {X : Cx} {W : WX}
theorem Good.blk (G : Good c ck cf k X) {s : Shared} {H : Hp} {scope : Scope} {cl : List (Str × Addr)} {C : Addr} {fp : List Addr} : Good c ck cf k (X.blk s H scope (compEnvC scope cl C X.env) fp) := ⟨G.N, G.nd, G.calm, G.room, G.blt, G.fns, fun h => let ⟨⟨cc, P, a1, a2, a3, a4⟩, b, d⟩ := G.lam h; ⟨⟨cc, P, a1, a2, a3, a4⟩, b, d⟩, G.dk, G.xc, fun h => let ⟨a1, a2, a3, a4, a5⟩ := G.mkd h; ⟨a1, a2, a3, a4, a5⟩, fun h => let ⟨⟨cc, P, a1, a2, a3, a4⟩, b, d⟩ := G.met h; ⟨⟨cc, P, a1, a2, a3, a4⟩, b, d⟩⟩
theorem rel_loc {scope sc : Scope} {x : Str} : ∀ {names : List (Str × NameKind)} {kd : NameKind}, kd ≠ .free → names.lookup x = some kd → (names.map fun (n, k) => if (k == NameKind.free && sc.kind == .function && sc.names.lookup n == some .cell) then (n, NameKind.cell) else (n, k)).lookup x = some kd
  | [], _, _, h => by simp at h
  | (n, k) :: r, kd, hk, h => by
    have ih := @rel_loc scope sc x r kd hk
    show List.lookup x ((if (k == NameKind.free && sc.kind == .function && sc.names.lookup n == some .cell) = true then (n, NameKind.cell) else (n, k)) :: _) = _
    cases hx : x == n with
    | true =>
      simp only [List.lookup_cons, hx] at h
      cases h
      have : (k == NameKind.free) = false := by simpa using hk
      rw [this, Bool.false_and, Bool.false_and, if_neg Bool.false_ne_true, List.lookup_cons, hx]
    | false =>
      simp only [List.lookup_cons, hx] at h
      split <;> simp only [List.lookup_cons, hx] <;> exact ih h
theorem tgOk_blk {s : Shared} {H : Hp} {scope : Scope} {cl : List (Str × Addr)} {C : Addr} {fp : List Addr} : TgOk (X.blk s H scope (compEnvC scope cl C X.env) fp) scope := fun x h => by
  unfold locB at h
  have key : ∀ kd, kd ≠ .free → scope.names.lookup x = some kd → (X.blk s H scope (compEnvC scope cl C X.env) fp).env.scope.names.lookup x = some kd := fun kd hk e => rel_loc (scope := scope) (sc := X.env.scope) hk e
  split at h
  · rename_i e; exact ⟨.inl (key _ (by simp) e), .inr (key _ (by simp) e)⟩
  · rename_i e
    refine ⟨.inr (key _ (by simp) e), .inl ?_⟩
    show (scope.names.lookup x == some .cell) = true
    rw [e]; rfl
  · cases h
theorem fold_of {x : Expr} {env : PySem.Env} (h : notSet x = true) : ∀ v, foldedSetIterable x env v = pure v := fun v => by
  cases x <;> first | rfl | (simp [notSet] at h)
theorem sound_tg {e : E} {sc : Scope} (G : Good c ck cf k X) : (∀ x, chk ck e sc (.tg x) = true → Snd c cf X W sc e (.tg x)) ∧ (∀ l, chk ck e sc (.tgs l) = true → Snd c cf X W sc e (.tgs l)) := by
  induction e with
  | nil => exact ⟨fun x h => s_nil h, fun x h => s_nil h⟩
  | cons a r iha ihr =>
    refine ⟨fun x h => by simp [chk] at h, fun l h => ?_⟩
    cases l with
    | nil => simp [chk] at h
    | cons x xs =>
      have h0 := h
      simp only [chk, Bool.and_eq_true] at h
      obtain ⟨⟨h1, h2⟩, h3⟩ := h
      intro tgok
      have pa : PG X _ (gT c a) := iha.1 _ h2 tgok
      have pr : PGs X _ (gTs c r) := ihr.2 _ h3 tgok
      refine PGs.imp (pgs_cons pa pr ?_) fun vs σ H Q ⟨env, d, F, ys, es, q, env', e, k⟩ => ?_
      · cases x <;> first | rfl | (simp [notStar] at h1)
      · cases ys with
        | nil => simp [asg] at e
        | cons y ys =>
          cases q with
          | cons q qs =>
            simp only [asg] at e
            cases e1 : asg a y env with
            | none => rw [e1] at e; cases e
            | some env1 =>
              rw [e1] at e
              refine ⟨_, _, rfl, env, d, F, y, es, q, env1, e1, fun σ' es' so => ?_⟩
              refine ⟨env1, d, F, ys, es', qs, env', e, fun σ2 es2 so2 => k σ2 es2 ⟨so2.1.trans so.1, fun j hj => ?_⟩⟩
              simp only [tgSl, List.mem_append, not_or] at hj
              exact (so2.2 j hj.2).trans (so.2 j hj.1)
  | var i => exact ⟨fun x h => s_varT G h, fun l h => by simp [chk] at h⟩
  | tup a iha =>
    refine ⟨fun x h => ?_, fun l h => by simp [chk] at h⟩
    cases x with
    | Tuple l q p =>
      refine s_tupT G (fun l h => iha.2 l h) h
    | _ => simp [chk] at h
  | _ => exact ⟨fun x h => by simp [chk] at h, fun l h => by simp [chk] at h⟩
theorem pi_of {it : E} {tg x : Expr} (ihi : ∀ s, chk ck it X.env.scope s = true → Snd c cf X W X.env.scope it s) (h : chk ck it X.env.scope (synIt it x) = true) (ht : tgIt it tg = true) : PI X tg x (tI c cf W it) := by
  unfold synIt at h
  split at h
  · exact ihi _ h tg ht
  · exact pi_any (ihi _ h).1
theorem s_lc {elt tg it : E} {own : List Nat} {s : Syn} (G : Good c ck cf k X) (ihi : ∀ s, chk ck it X.env.scope s = true → Snd c cf X W X.env.scope it s) (ihe : ∀ X', Good c ck cf k X' → ∀ s, chk ck elt X'.env.scope s = true → Snd c cf X' W0 X'.env.scope elt s) (h : chk ck (.lc elt tg it own) X.env.scope s = true) : Snd c cf X W X.env.scope (.lc elt tg it own) s := by
  simp only [chk] at h
  split at h
  · simp only [Bool.and_eq_true] at h
    obtain ⟨⟨⟨⟨⟨⟨⟨h1, h2⟩, h3⟩, h4⟩, h5⟩, h6⟩, h7⟩, h8⟩ := h
    rename_i el tg' it' scope p
    have e1 := of_decide_eq_true h1
    have hs : ∀ j ∈ tgSl tg, j ∈ own := fun j hj => by simpa using List.all_eq_true.mp h5 j hj
    refine snd_ex (PE.imp (pe_lc (own := ownP ck.N own) (te := tE c cf W0 elt) (tt := tYes) (g := gT c tg) (wi := tI c cf W it) G.calm (by rw [G.N]; exact G.nd) (pi_of ihi h6 h3) (by rw [G.N]; exact blkOk_by h2) (fun s H C cl fp => (sound_tg G.blk (W := W0)).1 _ h7 tgOk_blk) (fun s H C cl fp => pts_nil) (fun s H C cl fp => (ihe (X.blk s H scope (compEnvC scope cl C X.env) fp) G.blk (.ex el) h8).1) (fold_of h4)) fun σ H Q ⟨env, d, F, es, q⟩ => ?_) fun _ => rfl
    simp only [ev] at q
    refine ⟨env, d, F, es, q.bind.imp fun x d1 F1 H1 st w q1 => ?_⟩
    split at q1
    · exact q1.elim
    · rename_i l hl
      split at q1
      · rename_i hlim
        refine ⟨l, hl, fun J itok D hD => ?_⟩
        rw [e1]
        exact lc_reading (es.step st w) itok turn_plain hD hlim hs q1
      · exact q1.elim
  · cases h
theorem s_lcif {elt tg it cd : E} {own : List Nat} {s : Syn} (G : Good c ck cf k X) (ihi : ∀ s, chk ck it X.env.scope s = true → Snd c cf X W X.env.scope it s) (ihe : ∀ X', Good c ck cf k X' → ∀ s, chk ck elt X'.env.scope s = true → Snd c cf X' W0 X'.env.scope elt s) (ihc : ∀ X', Good c ck cf k X' → ∀ s, chk ck cd X'.env.scope s = true → Snd c cf X' W0 X'.env.scope cd s) (h : chk ck (.lcif elt tg it cd own) X.env.scope s = true) : Snd c cf X W X.env.scope (.lcif elt tg it cd own) s := by
  simp only [chk] at h
  split at h
  · simp only [Bool.and_eq_true] at h
    obtain ⟨⟨⟨⟨⟨⟨⟨⟨h1, h2⟩, h3⟩, h4⟩, h5⟩, h6⟩, h7⟩, h9⟩, h8⟩ := h
    rename_i el tg' it' cd' scope p
    have e1 := of_decide_eq_true h1
    have hs : ∀ j ∈ tgSl tg, j ∈ own := fun j hj => by simpa using List.all_eq_true.mp h5 j hj
    refine snd_ex (PE.imp (pe_lc (own := ownP ck.N own) (te := tE c cf W0 elt) (tt := tT c cf W0 cd) (g := gT c tg) (wi := tI c cf W it) G.calm (by rw [G.N]; exact G.nd) (pi_of ihi h6 h3) (by rw [G.N]; exact blkOk_by h2) (fun s H C cl fp => (sound_tg G.blk (W := W0)).1 _ h7 tgOk_blk) (fun s H C cl fp => pts_one (ihc (X.blk s H scope (compEnvC scope cl C X.env) fp) G.blk (.ex cd') h9).2) (fun s H C cl fp => (ihe (X.blk s H scope (compEnvC scope cl C X.env) fp) G.blk (.ex el) h8).1) (fold_of h4)) fun σ H Q ⟨env, d, F, es, q⟩ => ?_) fun _ => rfl
    simp only [ev] at q
    refine ⟨env, d, F, es, q.bind.imp fun x d1 F1 H1 st w q1 => ?_⟩
    split at q1
    · exact q1.elim
    · rename_i l hl
      split at q1
      · rename_i hlim
        refine ⟨l, hl, fun J itok D hD => ?_⟩
        rw [e1]
        exact lc_reading (es.step st w) itok turn_if hD hlim hs q1
      · exact q1.elim
  · cases h
theorem no_sl {x : Expr} (h : notSlice x = true) : NoSl x := by
  intro o i
  cases x <;> first | rfl | (simp [notSlice] at h)
theorem look3 {kk : List (Key × V)} {p : Addr} {H : Hp} {d : Dice} {F : Addr → Prop} (w : Wf c F H d) (hp : H p = none) : Step c F H F (upd (upd H p (.dK [])) p (.dK kk)) ∧ Wf c F (upd (upd H p (.dK [])) p (.dK kk)) d := by
  have e : upd (upd H p (.dK [])) p (.dK kk) = upd H p (.dK kk) := by
    funext b
    by_cases z : b = p
    · subst z; rw [upd_same, upd_same]
    · rw [upd_ne z, upd_ne z, upd_ne z]
  rw [e]
  exact ⟨.new' hp, w.new' hp⟩
def sK (c : Nat) : Key := .inr ⟨#[c]⟩
theorem s_dget {kvs : List (List Nat × Int)} {a : E} {s : Syn} (G : Good c ck cf k X) (iha : ∀ s, chk ck a X.env.scope s = true → Snd c cf X W X.env.scope a s) (h : chk ck (.dget kvs a) X.env.scope s = true) : Snd c cf X W X.env.scope (.dget kvs a) s := by
  simp only [chk] at h
  split at h
  · simp only [Bool.and_eq_true] at h
    obtain ⟨⟨⟨h1, h2⟩, h3⟩, h4⟩ := h
    have e1 := of_decide_eq_true h1
    subst e1
    unfold isDI at h2
    split at h2
    · simp only [Bool.and_eq_true, decide_eq_true_eq] at h2
      obtain ⟨⟨⟨⟨⟨k1, k2⟩, k3⟩, k4⟩, k5⟩, k6⟩ := h2
      have k1 := str_of k1
      have k2 := str_of k2
      have k3 := str_of k3
      subst k1 k2 k3 k4 k5 k6
      refine snd_ex (PE.imp (pe_dget (by have := G.units; omega) (pe_disp (pps_cons pe_str pe_int (pps_cons pe_str (pe_un un_neg pe_int) (pps_cons pe_str pe_int pps_nil))) rfl rfl (by simp) (by show 3 ≤ 15; decide)) (iha _ h4).1 (no_sl h3)) fun σ H Q ⟨env, d, F, es, q⟩ => ?_) fun _ => rfl
      simp only [ev] at q
      intro p hp
      refine ⟨1, rfl, ?_⟩
      refine ⟨upd_same, [(sK 43, .int 1), (sK 45, .int (-1)), (sK 48, .int 0)], rfl, by show 3 ≤ 15; decide, ?_⟩
      have hm : mergeK [] [(sK 43, V.int 1), (sK 45, V.int (-1)), (sK 48, V.int 0)] = [(sK 43, V.int 1), (sK 45, V.int (-1)), (sK 48, V.int 0)] := by rfl
      rw [hm]
      obtain ⟨s1, w1⟩ := look3 (kk := [(sK 43, .int 1), (sK 45, .int (-1)), (sK 48, .int 0)]) es.wf hp
      refine ⟨env, d, F, es.step s1 w1, (q.bind.step s1).imp fun x d1 F1 H1 st w q1 v dq => ?_⟩
      cases x <;> try (exact q1.elim)
      rename_i t
      obtain ⟨z, ez, q2⟩ := q1.of
      have hd : H1 p = some (.dK [(sK 43, .int 1), (sK 45, .int (-1)), (sK 48, .int 0)]) := st.keep p _ upd_same (es.wf.fresh_ne hp) trivial
      cases dq
      have key : ∃ i : Int, z = .int i ∧ valV [(sK 43, V.int 1), (sK 45, V.int (-1)), (sK 48, V.int 0)] (.inr ⟨t.toArray⟩) = some (.int i) := by
        simp only [kvI, lookS] at ez
        split at ez
        · rename_i e; subst e; cases ez; exact ⟨_, rfl, rfl⟩
        · split at ez
          · rename_i e; subst e; cases ez; exact ⟨_, rfl, rfl⟩
          · split at ez
            · rename_i e; subst e; cases ez; exact ⟨_, rfl, rfl⟩
            · cases ez
      obtain ⟨i, rfl, ev'⟩ := key
      exact ⟨p, .int i, rfl, by rw [← ev']; exact DGet.k (k := .inr ⟨t.toArray⟩) hd, q2 H1 F1 .refl w _ (.int i)⟩
    · cases h2
  · cases h
theorem s_dgets {kvs : List (List Nat × List Nat)} {a : E} {s : Syn} (G : Good c ck cf k X) (iha : ∀ s, chk ck a X.env.scope s = true → Snd c cf X W X.env.scope a s) (h : chk ck (.dgets kvs a) X.env.scope s = true) : Snd c cf X W X.env.scope (.dgets kvs a) s := by
  simp only [chk] at h
  split at h
  · simp only [Bool.and_eq_true] at h
    obtain ⟨⟨⟨h1, h2⟩, h3⟩, h4⟩ := h
    have e1 := of_decide_eq_true h1
    subst e1
    unfold isDS at h2
    split at h2
    · simp only [Bool.and_eq_true, decide_eq_true_eq] at h2
      obtain ⟨⟨⟨⟨⟨k1, k2⟩, k3⟩, k4⟩, k5⟩, k6⟩ := h2
      have k4 := str_of k4
      have k5 := str_of k5
      have k6 := str_of k6
      have k1 := str_of k1
      have k2 := str_of k2
      have k3 := str_of k3
      subst k1 k2 k3 k4 k5 k6
      refine snd_ex (PE.imp (pe_dget (by have := G.units; omega) (pe_disp (pps_cons pe_str pe_str (pps_cons pe_str pe_str (pps_cons pe_str pe_str pps_nil))) rfl rfl (by simp) (by show 3 ≤ 15; decide)) (iha _ h4).1 (no_sl h3)) fun σ H Q ⟨env, d, F, es, q⟩ => ?_) fun _ => rfl
      simp only [ev] at q
      intro p hp
      refine ⟨upd_same, [(sK 43, .str ⟨#[45]⟩), (sK 45, .str ⟨#[43]⟩), (sK 48, .str ⟨#[48]⟩)], rfl, by show 3 ≤ 15; decide, ?_⟩
      have hm : mergeK [] [(sK 43, V.str ⟨#[45]⟩), (sK 45, V.str ⟨#[43]⟩), (sK 48, V.str ⟨#[48]⟩)] = [(sK 43, V.str ⟨#[45]⟩), (sK 45, V.str ⟨#[43]⟩), (sK 48, V.str ⟨#[48]⟩)] := by rfl
      rw [hm]
      obtain ⟨s1, w1⟩ := look3 (kk := [(sK 43, .str ⟨#[45]⟩), (sK 45, .str ⟨#[43]⟩), (sK 48, .str ⟨#[48]⟩)]) es.wf hp
      refine ⟨env, d, F, es.step s1 w1, (q.bind.step s1).imp fun x d1 F1 H1 st w q1 v dq => ?_⟩
      cases x <;> try (exact q1.elim)
      rename_i t
      obtain ⟨z, ez, q2⟩ := q1.of
      have hd : H1 p = some (.dK [(sK 43, .str ⟨#[45]⟩), (sK 45, .str ⟨#[43]⟩), (sK 48, .str ⟨#[48]⟩)]) := st.keep p _ upd_same (es.wf.fresh_ne hp) trivial
      cases dq
      have key : ∃ i : List Nat, (∀ q ∈ i, q < 128) ∧ z = .str i ∧ valV [(sK 43, V.str ⟨#[45]⟩), (sK 45, V.str ⟨#[43]⟩), (sK 48, V.str ⟨#[48]⟩)] (.inr ⟨t.toArray⟩) = some (.str ⟨i.toArray⟩) := by
        simp only [kvS, lookSS] at ez
        split at ez
        · rename_i e; subst e; cases ez; exact ⟨_, by decide, rfl, rfl⟩
        · split at ez
          · rename_i e; subst e; cases ez; exact ⟨_, by decide, rfl, rfl⟩
          · split at ez
            · rename_i e; subst e; cases ez; exact ⟨_, by decide, rfl, rfl⟩
            · cases ez
      obtain ⟨i, hi, rfl, ev'⟩ := key
      exact ⟨p, .str ⟨i.toArray⟩, rfl, by rw [← ev']; exact DGet.k (k := .inr ⟨t.toArray⟩) hd, q2 H1 F1 .refl w _ (.str i hi)⟩
    · cases h2
  · cases h
theorem s_dix {i j : Nat} {s : Syn} (G : Good c ck cf k X) (h : chk ck (.dix i j) X.env.scope s = true) : Snd c cf X W X.env.scope (.dix i j) s := by
  simp only [chk] at h
  split at h
  · simp only [Bool.and_eq_true] at h
    obtain ⟨⟨⟨⟨h1, h2⟩, h3⟩, h4⟩, h5⟩ := h
    have hn := of_decide_eq_true h1
    have hz := of_decide_eq_true h4
    have hj := of_decide_eq_true h5
    subst hz
    refine snd_ex (PE.imp (pe_ix ix_seq (pe_var (i := i) (by rw [G.N]; exact hn) (vis_of h2) (nm_of h3).1 (nm_of h3).2) pe_int (fun _ _ => rfl)) fun σ H Q ⟨env, d, F, es, q⟩ => ?_) fun _ => rfl
    simp only [ev] at q
    split at q
    · rename_i he
      unfold Env.get at he
      split at he <;> cases he
      rename_i he
      obtain ⟨v, e1, dq⟩ := es.sh i _ he
      cases dq
      refine ⟨_, e1, .inl ⟨c.dc, [.int d.a, .int d.b], _, ?_, rfl, rfl, SqL.of es.wf.die, ?_, ?_⟩⟩
      · exact .int (if j = 0 then d.a else d.b)
      · rcases (show j = 0 ∨ j = 1 by omega) with z | z <;> subst z <;> rfl
      · rcases (show j = 0 ∨ j = 1 by omega) with z | z <;> subst z <;> exact q.ok es.wf _ (.int _)
    · exact q.elim
  · cases h
end
end SG
namespace SG
open PySem PySem.Spec PyProof.Rows L2
section
variable {c : Cn} {ck : Ck} {cf : CF} {k : Nat} {X : Cx} {W : WX}
theorem yld_dq {J : It} {F1 F' : Addr → Prop} {H1 Hc Hy : Hp} {l : List D} {d' : Dice} {i : Nat} {x : V} {Y : Nat → Hp → V → Hp → Prop}
    (hY : ∀ (i : Nat) H2 F2 x H3 y, Le F1 H1 F2 H2 → l[i]? = some y → Y i H2 x H3 → (H3 = H2 ∧ Dq c F2 H2 x y) ∨ ∃ T xs ys, x = .ref T ∧ H2 T = none ∧ H3 = upd H2 T (.tup xs) ∧ y = .tup ys ∧ DqA c F2 H2 xs ys)
    (le : Le F1 H1 F' Hc) (w : Wf c F' Hc d') (hli : i < l.length) (hy : Y i Hc x Hy) : Step c F' Hc F' Hy ∧ Wf c F' Hy d' ∧ Dq c F' Hy x l[i] := by
  rcases hY i Hc F' x Hy l[i] le (by simp [hli]) hy with ⟨e, dq⟩ | ⟨T, xs, ys, e1, e2, e3, e4, dq⟩
  · subst e; exact ⟨.refl, w, dq⟩
  · subst e1 e3
    rw [e4]
    exact ⟨.new' e2, w.new' e2, .newT w e2 dq⟩
theorem rb {α β : Type} {a : α} {d : Dice} {f : α → Dice → Res β} : (Res.ok a d).bind f = f a d := rfl
structure Acc (c : Cn) (F1 : Addr → Prop) (H1 : Hp) (D : Addr) (F' : Addr → Prop) (H' : Hp) (d' : Dice) (acc : List V) (accs : List SG.D) : Prop where
  st : Step c F1 H1 F' H'
  wf : Wf c F' H' d'
  hd : H' D = some (.lst acc)
  nf : ¬ F' D
  rel : DqA c F' H' acc accs
theorem Acc.step {F1 F' F3 : Addr → Prop} {H1 H' H3 : Hp} {D : Addr} {d' d3 : Dice} {acc : List V} {accs : List SG.D} (a : Acc c F1 H1 D F' H' d' acc accs) (s : Step c F' H' F3 H3) (w : Wf c F3 H3 d3) (nD : D ≠ c.dc) : Acc c F1 H1 D F3 H3 d3 acc accs :=
  ⟨a.st.trans s, w, s.keep D _ a.hd nD trivial, fun z => (s.new D z).elim a.nf fun z => z.elim (fun z => z.not a.hd) nD, a.rel.mono (s.le a.wf)⟩
theorem Acc.push {F1 F' : Addr → Prop} {H1 H' : Hp} {D : Addr} {d' : Dice} {acc : List V} {accs : List SG.D} {v : V} {z : SG.D} (a : Acc c F1 H1 D F' H' d' acc accs) (dq : Dq c F' H' v z) (hD : H1 D = none) (nD : D ≠ c.dc) : Acc c F1 H1 D F' (upd H' D (.lst (acc ++ [v]))) d' (acc ++ [v]) (accs ++ [z]) := by
  exact ⟨a.st.updN (.of hD), wf_upd a.wf a.hd a.nf nD, upd_same, a.nf, (a.rel.snoc dq).mono (le_upd a.hd a.nf)⟩
theorem asg_ow' {e : E} : ∀ {x : SG.D} {env env' : Env} {i : Nat} {xs : List SG.D}, asg e x env = some env' → env'[i]? = some (.ow xs) → i ∉ tgSl e ∧ env[i]? = some (.ow xs) := by
  have put : ∀ {env env' : Env} {j i : Nat} {x : SG.D} {xs : List SG.D}, env.put j (.sh x) = some env' → env'[i]? = some (.ow xs) → i ≠ j ∧ env[i]? = some (.ow xs) := by
    intro env env' j i x xs h e
    unfold Env.put at h
    split at h <;> cases h
    rename_i hj
    by_cases z : i = j
    · subst z; rw [List.getElem?_set_self hj] at e; cases e
    · rw [List.getElem?_set_ne (Ne.symm z)] at e; exact ⟨z, e⟩
  induction e with
  | var j => intro x env env' i xs h e; simp only [asg] at h; simpa [tgSl] using put h e
  | nil =>
    intro x env env' i xs h e
    cases x <;> try (simp [asg] at h; done)
    rename_i l
    cases l with
    | nil => simp [asg] at h; subst h; exact ⟨by simp [tgSl], e⟩
    | cons a l => simp [asg] at h
  | tup a iha =>
    intro x env env' i xs h e
    cases x <;> simp only [asg] at h <;> try cases h
    exact iha h e
  | cons a r iha ihr =>
    intro x env env' i xs h e
    cases x <;> try (simp [asg] at h; done)
    rename_i l
    cases l with
    | nil => simp [asg] at h
    | cons y l =>
      simp only [asg] at h
      cases ea : asg a y env with
      | none => rw [ea] at h; cases h
      | some env1 =>
        rw [ea] at h
        obtain ⟨n1, e1⟩ := ihr h e
        obtain ⟨n2, e2⟩ := iha ea e1
        exact ⟨by simp [tgSl, n1, n2], e2⟩
  | _ => intro x env env' i xs h e; simp [asg] at h
theorem wipe_ow {env : Env} {i : Nat} {xs : List SG.D} : ∀ {vs : List Nat}, (env.wipe vs)[i]? = some (.ow xs) → i ∉ vs ∧ env[i]? = some (.ow xs)
  | [], h => ⟨by simp, h⟩
  | v :: vs, h => by
    have h' : ((env.wipe vs).set v .no)[i]? = some (.ow xs) := h
    by_cases z : i = v
    · subst z
      rw [List.getElem?_set] at h'
      simp at h'
    · rw [List.getElem?_set_ne (Ne.symm z)] at h'
      obtain ⟨h1, h2⟩ := wipe_ow h'
      exact ⟨by simp [z, h1], h2⟩
theorem es_acc {env env' : Env} {d1 d' d2 : Dice} {F1 F' F2 : Addr → Prop} {H1 Hy H2 : Hp} {σ σ' : L2.St} {tg : E} {y : SG.D} {own : List Nat} {D : Addr} {acc : List V} {accs : List SG.D} (es : ES c env d1 F1 σ H1) (ea : asg tg y (env.wipe own) = some env') (so : SameOut (tgSl tg) (L2.wipe σ own) σ') (es' : ES c env' d' F' σ' Hy)
    (le : Le F' Hy F2 H2) (A : Acc c F1 H1 D F2 H2 d2 acc accs) : ES c env' d2 F2 σ' H2 := by
  refine ⟨A.wf, es'.len, fun i x e => ?_, fun i xs e => ?_, es'.inj⟩
  · obtain ⟨v, e1, q⟩ := es'.sh i x e
    exact ⟨v, e1, q.mono le⟩
  · obtain ⟨n1, e1⟩ := asg_ow' ea e
    obtain ⟨n2, e2⟩ := wipe_ow e1
    obtain ⟨p, vs, e3, h, r, nf, nd⟩ := es.ow i xs e2
    refine ⟨p, vs, ?_, A.st.keep p _ h nd trivial, r.mono (A.st.le es.wf), fun z => ?_, nd⟩
    · rw [so.2 i n1, L2.wipe_out n2]; exact e3
    · rcases A.st.new p z with z | z | z
      · exact nf z
      · exact z.not h
      · exact nd z
theorem lc2_reading {J : It} {F1 : Addr → Prop} {H1 : Hp} {l : List D} {σ : L2.St} {env : Env} {d1 : Dice} {tg tg2 it2 elt : E} {own own2 : List Nat} {Q : VK} {D : Addr}
    (es : ES c env d1 F1 σ H1) (itok : ItOk c J F1 H1 l) (hD : H1 D = none) (hl : l.length ≤ 1000) (hs : ∀ j ∈ tgSl tg, j ∈ own) (hs2 : ∀ j ∈ tgSl tg2, j ∈ own2)
    (q : RG c W σ F1 H1 ((lcLoop2 (fun y => asg tg y (env.wipe own)) (fun env d => (ev cf it2 env d).bind fun x2 d => match items x2 with
        | none => .bad
        | some l2 => if l2.length ≤ 1000 then lcLoop (fun y => asg tg2 y (env.wipe own2)) (fun env d => (ev cf elt env d).bind fun y d => .ok (some y) d) l2 d else .bad) l d1).bind fun ys d => .ok (.lst ys) d) fun x _ F' H' => ∀ v, Dq c F' H' v x → Q v H') :
    ∃ W : Nat → Nat → Hp → Prop, (∃ m, W 0 m (upd H1 D (.lst []))) ∧ ∀ i m H, W i m H →
      (J.stop i H ∧ Q (.ref D) H) ∨ (J.go i H ∧ ∃ Nx : Hp → Prop, (∀ H', Nx H' → ∃ m', m' < m ∧ W (i + 1) m' H') ∧ ∀ x H', J.yld i H x H' → gT c tg x (L2.wipe σ own) H' fun σ2 H2 => L2.wipe σ2 own = L2.wipe σ own ∧ tYes σ2 H2 fun b H3 =>
        if b = true then tI c cf W0 it2 σ2 H3 fun J1 H4 => ∃ W1 : Nat → Nat → Hp → Prop, (∃ m, W1 0 m H4) ∧ ∀ j k H, W1 j k H →
          (J1.stop j H ∧ Nx H) ∨ (J1.go j H ∧ ∃ Nx1 : Hp → Prop, (∀ H', Nx1 H' → ∃ k', k' < k ∧ W1 (j + 1) k' H') ∧ ∀ x H', J1.yld j H x H' → gT c tg2 x (L2.wipe σ2 own2) H' fun σ3 H5 => L2.wipe σ3 own2 = L2.wipe σ2 own2 ∧ tYes σ3 H5 fun b H6 =>
            if b = true then tE c cf W0 elt σ3 H6 fun y H7 => ∃ acc, H7 D = some (.lst acc) ∧ acc.length < sizeLine ∧ Nx1 (upd H7 D (.lst (acc ++ [y]))) else Nx1 H6)
        else Nx H3) := by
  obtain ⟨G, Y, wk, hG, hY⟩ := itok
  have w1 := es.wf
  have nD : D ≠ c.dc := w1.fresh_ne hD
  generalize hf : (fun (env : Env) (d : Dice) => (ev cf it2 env d).bind fun x2 d => match items x2 with
        | none => (.bad : Res (List SG.D))
        | some l2 => if l2.length ≤ 1000 then lcLoop (fun y => asg tg2 y (env.wipe own2)) (fun env d => (ev cf elt env d).bind fun y d => .ok (some y) d) l2 d else .bad) = f at q
  refine ⟨fun i m H => m = l.length - i ∧ i ≤ l.length ∧ ∃ F' d' acc accs, Acc c F1 H1 D F' H d' acc accs ∧ accs.length ≤ i * 1000 ∧ RG c W σ F1 H1 ((lcLoop2 (fun y => asg tg y (env.wipe own)) f (l.drop i) d').bind fun ys d => .ok (.lst (accs ++ ys)) d) fun x _ F' H' => ∀ v, Dq c F' H' v x → Q v H',
    ⟨l.length, by simp, Nat.zero_le _, F1, d1, [], [], ⟨.new' hD, w1.new' hD, upd_same, w1.fresh_F hD, .nil⟩, by simp, by simpa using q⟩, ?_⟩
  rintro i m Hc ⟨rfl, hi, F', d', acc, accs, A, hle, q⟩
  have gc := hG Hc F' (A.st.le w1)
  by_cases hlt : i < l.length
  · refine .inr ⟨wk.goes i Hc hlt gc, fun H' => ∃ F' d' acc accs, Acc c F1 H1 D F' H' d' acc accs ∧ accs.length ≤ (i + 1) * 1000 ∧ RG c W σ F1 H1 ((lcLoop2 (fun y => asg tg y (env.wipe own)) f (l.drop (i + 1)) d').bind fun ys d => .ok (.lst (accs ++ ys)) d) fun x _ F' H' => ∀ v, Dq c F' H' v x → Q v H', fun H' z => ⟨l.length - (i + 1), by omega, rfl, hlt, z⟩, fun x Hy hy => ?_⟩
    obtain ⟨s2, w2, dq2⟩ := yld_dq (c := c) (J := J) hY (A.st.le w1) A.wf hlt (wk.yields i Hc x Hy hlt gc hy)
    have es2 : ES c (env.wipe own) d' F' (L2.wipe σ own) Hy := (es.step (A.st.trans s2) w2).wipe own
    have A2 := A.step s2 w2 nD
    rw [List.drop_eq_getElem_cons hlt] at q
    simp only [lcLoop2] at q
    cases ea : asg tg l[i] (env.wipe own) with
    | none => rw [ea] at q; exact q.elim
    | some env' =>
      rw [ea] at q
      simp only at q
      refine ⟨_, d', F', l[i], es2, dq2, env', ea, fun σ' es' so => ⟨?_, ?_⟩⟩
      · have : L2.wipe σ' own = L2.wipe (L2.wipe σ own) own := wipe_same (by rw [so.1]) fun j hj => so.2 j fun z => hj (hs j z)
        rw [this, wipe_wipe]
      · unfold tYes
        dsimp only
        rw [if_pos rfl]
        refine ⟨env', d', F', es', ?_⟩
        rw [← hf] at q
        simp only at q
        cases e2 : ev cf it2 env' d' with
        | bad => rw [e2] at q; exact q.elim
        | err n dd => rw [e2] at q; exact q.elim
        | ok x2 d3 =>
          rw [e2, rb] at q
          intro H4 F4 s4 w4
          have A4 := A2.step s4 w4 nD
          have es4 := es'.step s4 w4
          cases ei : items x2 with
          | none => rw [ei] at q; exact q.elim
          | some l2 =>
            rw [ei] at q
            simp only at q
            by_cases hl2 : l2.length ≤ 1000
            · rw [if_pos hl2] at q
              refine ⟨l2, rfl, fun J1 ⟨G1, Y1, wk1, hG1, hY1⟩ => ?_⟩
              have le4 : Le F4 H4 F4 H4 := .refl
              refine ⟨fun j m H => m = l2.length - j ∧ j ≤ l2.length ∧ ∃ F5 d5 acc5 accs5, Le F4 H4 F5 H ∧ Step c F4 H4 F4 H4 ∧ Acc c F1 H1 D F5 H d5 acc5 accs5 ∧ ES c env' d5 F5 σ' H ∧ accs5.length ≤ i * 1000 + j ∧ RG c W σ F1 H1 (((lcLoop (fun y => asg tg2 y (env'.wipe own2)) (fun env d => (ev cf elt env d).bind fun y d => .ok (some y) d) (l2.drop j) d5).noerr).bind fun o d => ((lcLoop2 (fun y => asg tg y (env.wipe own)) f (l.drop (i + 1)) d).bind fun ys d => .ok (.lst (accs5 ++ o ++ ys)) d)) fun x _ F' H' => ∀ v, Dq c F' H' v x → Q v H',
                ⟨l2.length, by simp, Nat.zero_le _, F4, d3, acc, accs, le4, .refl, A4, es4, by omega, ?_⟩, ?_⟩
              · simp only [List.drop_zero]
                cases el : lcLoop (fun y => asg tg2 y (env'.wipe own2)) (fun env d => (ev cf elt env d).bind fun y d => .ok (some y) d) l2 d3 with
                | ok ys d6 => rw [el, hf] at q; simp only [Res.noerr, rb] at q ⊢; rw [bind_bind] at q; simpa [rb, List.append_assoc] using q
                | err n d6 => rw [el] at q; exact q.elim
                | bad => rw [el] at q; exact q.elim
              · rintro j m H ⟨rfl, hj, F5, d5, acc5, accs5, le5, _, A5, es5, hle5, q5⟩
                have g1 := hG1 H F5 le5
                by_cases hlt2 : j < l2.length
                · refine .inr ⟨wk1.goes j H hlt2 g1, fun H' => ∃ F5 d5 acc5 accs5, Le F4 H4 F5 H' ∧ Step c F4 H4 F4 H4 ∧ Acc c F1 H1 D F5 H' d5 acc5 accs5 ∧ ES c env' d5 F5 σ' H' ∧ accs5.length ≤ i * 1000 + (j + 1) ∧ RG c W σ F1 H1 (((lcLoop (fun y => asg tg2 y (env'.wipe own2)) (fun env d => (ev cf elt env d).bind fun y d => .ok (some y) d) (l2.drop (j + 1)) d5).noerr).bind fun o d => ((lcLoop2 (fun y => asg tg y (env.wipe own)) f (l.drop (i + 1)) d).bind fun ys d => .ok (.lst (accs5 ++ o ++ ys)) d)) fun x _ F' H' => ∀ v, Dq c F' H' v x → Q v H', fun H' z => ⟨l2.length - (j + 1), by omega, rfl, hlt2, z⟩, fun x Hy hy => ?_⟩
                  obtain ⟨s6, w6, dq6⟩ := yld_dq (c := c) (J := J1) hY1 le5 A5.wf hlt2 (wk1.yields j H x Hy hlt2 g1 hy)
                  have es6 : ES c (env'.wipe own2) d5 F5 (L2.wipe σ' own2) Hy := (es5.step s6 w6).wipe own2
                  have A6 := A5.step s6 w6 nD
                  rw [List.drop_eq_getElem_cons hlt2] at q5
                  simp only [lcLoop] at q5
                  cases ea2 : asg tg2 l2[j] (env'.wipe own2) with
                  | none => rw [ea2] at q5; exact q5.elim
                  | some env'' =>
                    rw [ea2] at q5
                    simp only at q5
                    refine ⟨_, d5, F5, l2[j], es6, dq6, env'', ea2, fun σ3 es7 so3 => ⟨?_, ?_⟩⟩
                    · have : L2.wipe σ3 own2 = L2.wipe (L2.wipe σ' own2) own2 := wipe_same (by rw [so3.1]) fun j hj => so3.2 j fun z => hj (hs2 j z)
                      rw [this, wipe_wipe]
                    · rw [if_pos rfl]
                      refine ⟨env'', d5, F5, es7, ?_⟩
                      cases e7 : ev cf elt env'' d5 with
                      | bad => rw [e7] at q5; exact q5.elim
                      | err n dd => rw [e7] at q5; exact q5.elim
                      | ok z d7 =>
                        rw [e7, rb] at q5
                        intro H7 F7 s7 w7 v dq7
                        have A7 := A6.step s7 w7 nD
                        have A8 := A7.push dq7 hD nD
                        have le7 : Le F4 H4 F7 (upd H7 D (.lst (acc5 ++ [v]))) := by
                          have a1 := s6.le A5.wf
                          have a2 := s7.le w6
                          have a3 := le_upd (ys := acc5 ++ [v]) A7.hd A7.nf
                          exact ((le5.trans a1).trans a2).trans a3
                        refine ⟨acc5, A7.hd, ?_, F7, d7, acc5 ++ [v], accs5 ++ [z], le7, .refl, A8, ?_, by simp; omega, ?_⟩
                        · have e1 := A7.rel.length
                          have e2 := lim_line
                          have e3 : lim = 1000000 := rfl
                          have : i * 1000 + 1000 ≤ 1000 * 1000 := by
                            have : i + 1 ≤ 1000 := by omega
                            omega
                          omega
                        · have b1 := s4.le es'.wf
                          exact es_acc es ea so es' (b1.trans le7) A8
                        · rw [show (Res.ok (some z) d7).noerr = Res.ok (some z) d7 from rfl, rb] at q5
                          cases el : lcLoop (fun y => asg tg2 y (env'.wipe own2)) (fun env d => (ev cf elt env d).bind fun y d => .ok (some y) d) (l2.drop (j + 1)) d7 with
                          | ok ys d8 => rw [el] at q5; simpa [Res.noerr, rb, List.append_assoc] using q5
                          | err n d8 => rw [el] at q5; exact q5.elim
                          | bad => rw [el] at q5; exact q5.elim
                · have e : j = l2.length := by omega
                  subst e
                  refine .inl ⟨wk1.stops H g1, F5, d5, acc5, accs5, A5, by omega, ?_⟩
                  rw [List.drop_length] at q5
                  simpa [lcLoop, Res.noerr, rb] using q5
            · rw [if_neg hl2] at q; exact q.elim
  · have e : i = l.length := by omega
    subst e
    refine .inl ⟨wk.stops Hc gc, ?_⟩
    rw [List.drop_length] at q
    simp only [lcLoop2, Res.bind, List.append_nil] at q
    have s' : Step c F1 H1 (addF F' D) Hc := A.st.frz (.of hD)
    have w' : Wf c (addF F' D) Hc d' := A.wf.frz A.hd nD
    exact q Hc _ s' w' _ (.lst (.inr rfl) A.hd (A.rel.mono le_add))
theorem s_lc2 {elt tg1 it1 tg2 it2 : E} {own own2 : List Nat} {s : Syn} (G : Good c ck cf k X) (ihi : ∀ s, chk ck it1 X.env.scope s = true → Snd c cf X W X.env.scope it1 s) (ihi2 : ∀ X', Good c ck cf k X' → ∀ s, chk ck it2 X'.env.scope s = true → Snd c cf X' W0 X'.env.scope it2 s) (ihe : ∀ X', Good c ck cf k X' → ∀ s, chk ck elt X'.env.scope s = true → Snd c cf X' W0 X'.env.scope elt s)
    (h : chk ck (.lc2 elt tg1 it1 tg2 it2 own own2) X.env.scope s = true) : Snd c cf X W X.env.scope (.lc2 elt tg1 it1 tg2 it2 own own2) s := by
  simp only [chk] at h
  split at h
  · simp only [Bool.and_eq_true] at h
    obtain ⟨⟨⟨⟨⟨⟨⟨⟨⟨⟨⟨⟨⟨⟨h1, h2⟩, h3⟩, h4⟩, h5⟩, h3'⟩, h4'⟩, h5'⟩, h9⟩, h6⟩, h7⟩, h6'⟩, h7'⟩, h10⟩, h8⟩ := h
    rename_i el tg1' it1' tg2' it2' scope p
    have e1 := of_decide_eq_true h1
    have hs : ∀ j ∈ tgSl tg1, j ∈ own := fun j hj => by simpa using List.all_eq_true.mp h5 j hj
    have hs2 : ∀ j ∈ tgSl tg2, j ∈ own2 := fun j hj => by simpa using List.all_eq_true.mp h5' j hj
    have hv : ∀ j ∈ own2, j ∈ (ownP ck.N own).map (·.2) := fun j hj => by rw [e1]; simpa using List.all_eq_true.mp h9 j hj
    refine snd_ex (PE.imp (pe_lc2 (own := ownP ck.N own) (vs1 := own2) (te := tE c cf W0 elt) (tt := tYes) (tt1 := tYes) (g := gT c tg1) (g1 := gT c tg2) (wi := tI c cf W it1) (wi1 := tI c cf W0 it2) G.calm (by rw [G.N]; exact G.nd) (pi_of ihi h6 h3) (by rw [G.N]; exact blkOk_by h2) hv
      (fun s H C cl fp => (sound_tg G.blk (W := W0)).1 _ h7 tgOk_blk) (fun s H C cl fp => pts_nil)
      (fun s H C cl fp => pi_of (ihi2 (X.blk s H scope (compEnvC scope cl C X.env) fp) G.blk) h6' h3')
      (fun s H C cl fp => (sound_tg G.blk (W := W0)).1 _ h7' tgOk_blk) (fun s H C cl fp => pts_nil)
      (fun s H C cl fp => (ihe (X.blk s H scope (compEnvC scope cl C X.env) fp) G.blk (.ex el) h8).1) (fold_of h4) (fun env => fold_of h4')) fun σ H Q ⟨env, d, F, es, q⟩ => ?_) fun _ => rfl
    simp only [ev] at q
    refine ⟨env, d, F, es, q.bind.imp fun x d1 F1 H1 st w q1 => ?_⟩
    split at q1
    · exact q1.elim
    · rename_i l hl
      split at q1
      · rename_i hlim
        refine ⟨l, hl, fun J itok D hD => ?_⟩
        rw [e1]
        exact lc2_reading (es.step st w) itok hD hlim hs hs2 q1
      · exact q1.elim
  · cases h
end
end SG
namespace SG
open PySem PySem.Spec PyProof.Rows L2
section
variable {X : Cx} {CX : CXT} {k : Nat} {f C : Addr} {fd : FuncData} {ps : List Str} {sp : Sp} {E : L2.St → XK} {x m : Str} {p pos apos : Pos} {e o : Expr} {es : List Expr} {ta : TE} {t : TA}
def tMethX (C : Addr) (m : Str) (sp : Sp) (E : L2.St → XK) (ta : TE) (t : TA) : TE := fun σ H Q => ta σ H fun x H1 => ∃ a dx fs, x = .ref a ∧ H1 a = some (.ins C dx fs) ∧ fs.lookup m = none ∧ t σ H1 fun vs H2 => sp (x :: vs) H2 Q (E σ)
theorem pe_methX {pl : Sem Bool} (he : PE X o ta) (c : Cls X.K C) (hm : Meth X.K C m f) (F : FnOk X.prog X.w X.K X.mg X.base CX k f fd ps sp) (hr : Room k X.A) (hb : Binds X.K fd ps []) (hx : ∀ σ, PassesAt CX X σ (E σ)) (ha : PA X (e :: es) t)
    (hst : starEach (e :: es) X.env = (false, eval e X.env) :: starEach es X.env := by rfl) (hpl : (backTo pos (starEach es X.env)).any (·.1) = false := by rfl)
    (ht : eval (.Call (.Attribute o m apos) (e :: es) [] pos) X.env = (do
      let ov ← eval o X.env
      standAt apos.atName
      let (f, first) ← holding [ov] (getMethod ov m pl)
      callWith pos f first (backTo pos (starEach (e :: es) X.env)) (backToKw pos (keywordEach [] X.env))) := by rfl) :
    PE X (.Call (.Attribute o m apos) (e :: es) [] pos) (tMethX C m sp E ta t) := by
  refine ⟨fun pins s σ H Q I h => ?_⟩
  refine PySem.W.methodCall_KW (pl := pl) (thn (he.run pins s σ H _ I h) fun u s1 ⟨x, H1, I1, rx, a, dx, fs, ex, ea, l, q⟩ => ?_) ht
  subst ex
  obtain rfl : u = Value.ref a := rx
  refine getmeth_ok I1 ea c hm l ?_
  refine PySem.W.callWith_K (first := [.ref a]) (h₀ := X.base) I.ok.mod.kin hm.kp (thn (ha.run pos pins s1 σ H1 _ I1 q) fun us s2 ⟨vs, H2, I2, r, q2⟩ => ⟨I2.kIn, ?_⟩) hst hpl
  exact run_fnS (us := .ref a :: us) (vs := .ref a :: vs) F hr hb (hx σ) I2 (.cons rfl r) q2
theorem pe_methX0 {pl : Sem Bool} (he : PE X o ta) (c : Cls X.K C) (hm : Meth X.K C m f) (F : FnOk X.prog X.w X.K X.mg X.base CX k f fd ps sp) (hr : Room k X.A) (hb : Binds X.K fd ps []) (hx : ∀ σ, PassesAt CX X σ (E σ))
    (ht : eval (.Call (.Attribute o m apos) [] [] pos) X.env = (do
      let ov ← eval o X.env
      standAt apos.atName
      let (f, first) ← holding [ov] (getMethod ov m pl)
      callWith pos f first (backTo pos (starEach [] X.env)) (backToKw pos (keywordEach [] X.env))) := by rfl) :
    PE X (.Call (.Attribute o m apos) [] [] pos) (tMethX C m sp E ta tNil) := by
  refine ⟨fun pins s σ H Q I h => ?_⟩
  refine PySem.W.methodCall_KW (pl := pl) (thn (he.run pins s σ H _ I h) fun u s1 ⟨x, H1, I1, rx, a, dx, fs, ex, ea, l, q⟩ => ?_) ht
  subst ex
  obtain rfl : u = Value.ref a := rx
  refine getmeth_ok I1 ea c hm l ?_
  exact PySem.W.callWith_K0 (first := [.ref a]) I1.kIn hm.kp (run_fnS (us := [.ref a]) (vs := [.ref a]) F hr hb (hx σ) I1 (.cons rfl .nil) q)
theorem run_makeX {pins : List (Addr × Obj)} {σ : L2.St} {H : Hp} {s : Shared} {Q : VK} {us : List Value} {vs : List V} (M : Mk X.K C f) (F : FnOk X.prog X.w X.K X.mg X.base CX k f fd ps sp) (hr : Room (k + 1) X.A) (hb : Binds X.K fd ps [])
    (hx : PassesAt CX X σ (E σ)) (I : Inv X pins σ H s) (r : Vals vs us)
    (h : ∀ x dx, H x = none → H dx = none → dx ≠ x → sp (.ref x :: vs) (upd (upd H dx (.own x)) x (.ins C dx [])) (fun v H2 => v = .non ∧ Q (.ref x) H2) (E σ)) :
    wpAny (model X.prog X.w) X.A (call (.ref C) us) (EP X pins σ Q) X.xe s := by
  have hq := h (s.heap.objs.size + 1) s.heap.objs.size (I.hok.fresh (Nat.le_succ _)) (I.hok.fresh (Nat.le_refl _)) (Nat.ne_of_lt (Nat.lt_succ_self _))
  have I2 := Inv.made (C := C) I
  have r2 : Vals (V.ref (s.heap.objs.size + 1) :: vs) (Value.ref (s.heap.objs.size + 1) :: us) := .cons rfl r
  have hl : (Value.ref (s.heap.objs.size + 1) :: us ++ []).length = ps.length := by
    have e := r2.length
    rw [F.len _ _ _ _ hq] at e
    rw [List.append_nil]
    exact e.symm
  have hb' := hb _ (Value.ref (s.heap.objs.size + 1) :: us) I2.kIn hl
  rw [List.append_nil] at hb'
  refine wpAny_call (make_map (f := f) I.kIn M.makes M.init (beq_iff_eq.mp M.fn) (codeAny_mono (F.run _ X.stack _ _ ⟨Value.ref (s.heap.objs.size + 1) :: us, []⟩ (Value.ref (s.heap.objs.size + 1) :: us) _ _ (E σ) (hr.make C us [])
    (I2.env0.make C us []) hb' r2 hq) fun r s' hq' => ?_))
  cases r with
  | error e => exact hx pins _ _ e s' I2 hq'
  | ok fl =>
    cases fl with
    | ret u =>
      obtain ⟨v, H', I3, rv, ev, q3⟩ := I2.after hq'
      subst ev
      exact ⟨rv, ⟨V.ref (s.heap.objs.size + 1), H', I3, rfl, q3⟩⟩
    | next => exact False.elim hq'
    | brk => exact False.elim hq'
    | cont => exact False.elim hq'
def tMakeX (C : Addr) (sp : Sp) (E : L2.St → XK) (t : TA) : TE := fun σ H Q => t σ H fun vs H1 => ∀ x dx, H1 x = none → H1 dx = none → dx ≠ x →
  sp (.ref x :: vs) (upd (upd H1 dx (.own x)) x (.ins C dx [])) (fun v H2 => v = .non ∧ Q (.ref x) H2) (E σ)
theorem pe_makeX (M : Mk X.K C f) (F : FnOk X.prog X.w X.K X.mg X.base CX k f fd ps sp) (hr : Room (k + 1) X.A) (hg : Gl X x) (hm : X.mg x = some (.ref C)) (hb : Binds X.K fd ps []) (hx : ∀ σ, PassesAt CX X σ (E σ))
    (ha : PA X (e :: es) t) (hdb : (x == ("__debug__" : Str)) = false := by decide) (he : starEach (e :: es) X.env = (false, eval e X.env) :: starEach es X.env := by rfl) (hpl : (backTo pos (starEach es X.env)).any (·.1) = false := by rfl) :
    PE X (.Call (.Name x p) (e :: es) [] pos) (tMakeX C sp E t) := by
  refine ⟨fun pins s σ H Q I h => ?_⟩
  refine wpAny_Call_Name_kw (ld_glob I hg hm ?_ hdb)
  refine PySem.W.callWith_K (h₀ := X.base) I.ok.mod.kin M.kp (thn (ha.run pos pins s σ H _ I h) fun us s1 ⟨vs, H1, I1, r, q⟩ => ⟨I1.kIn, ?_⟩) he hpl
  exact run_makeX M F hr hb (hx σ) I1 r q
def rIsX (K : PySem.W.Frag) (D : Addr) : List V → Hp → VK → Prop := fun xs H Q => ∃ (a : Addr) (c : V) (cv : Value) (b : Bool), xs = [.ref a, c] ∧ H a = some (ExT D a) ∧ (∀ u, RelV c u → u = cv) ∧ PySem.W.kitOne K (.ref D) cv = some b ∧ Q (.bl b) H
theorem call_isX {X : Cx} {D : Addr} (C : ExcC X.K D) : CallR X (.builtin "isinstance") (rIsX X.K D) := by
  intro pins s σ H xs us Q I r h
  obtain ⟨a, c, cv, b, rfl, ha, hcv, e, q⟩ := h
  cases r with
  | cons rx rr =>
    cases rr with
    | cons rt rr =>
      cases rr
      cases rx
      have ec := hcv _ rt
      subst ec
      obtain ⟨⟨oe, vs, hget, hz, hv⟩, _⟩ := I.hok a _ ha
      have J : PySem.W.InstAt s.heap a oe D none := by
        obtain ⟨oc, od, oda, osl⟩ := oe
        obtain ⟨h1, h2⟩ := hz
        dsimp only at h1 h2 hv hget
        subst h1 h2 hv
        exact ⟨hget, rfl, rfl, trivial⟩
      exact PySem.W.kia_one (PySem.W.handS_kitx_exc C.hg C.hk C.hs C.hd C.ha C.hn C.ht C.hm) I.kIn J e (fun z => nomatch z) fun tk => ⟨.bl b, H, I.kept (t' := tk) fun _ _ z => z, rfl, q⟩
end
section
variable {c : Cn} {ck : Ck} {cf : CF} {k : Nat} {X : Cx} {W : WX}
theorem s_fld {o : E} {j : Nat} {s : Syn} (G : Good c ck cf k X) (iho : ∀ s, chk ck o X.env.scope s = true → Snd c cf X W X.env.scope o s) (h : chk ck (.fld o j) X.env.scope s = true) : Snd c cf X W X.env.scope (.fld o j) s := by
  simp only [chk] at h
  split at h
  · simp only [Bool.and_eq_true] at h
    obtain ⟨⟨⟨h1, h2⟩, h3⟩, h4⟩ := h
    have hj := of_decide_eq_true h2
    have hn := of_decide_eq_true h3
    subst hn
    obtain ⟨dc, dn⟩ := G.dk h1
    refine snd_ex (PE.imp (pe_fld (iho _ h4).1 rfl) fun σ H Q ⟨env, d, F, es, q⟩ => ?_) fun _ => rfl
    simp only [ev] at q
    refine ⟨env, d, F, es, q.bind.imp fun x d1 F1 H1 st w q1 v dq => ?_⟩
    cases x <;> first | exact q1.elim | skip
    dsimp only at q1
    obtain ⟨z, ez, q2⟩ := q1.of
    cases dq with | obj f h =>
    obtain ⟨x0, y0, z0, vx, vy, vz, e1, e2, r1, r2, r3⟩ := (w.dsk _ _ _ _ f h).ex
    rw [e1, Option.bind_some] at ez
    subst e2
    match j, hj, ez with
    | 0, _, ez => cases ez; exact ⟨_, _, _, _, vx, rfl, h, dc, dn 0 (by decide), rfl, q2 H1 F1 .refl w _ r1⟩
    | 1, _, ez => cases ez; exact ⟨_, _, _, _, vy, rfl, h, dc, dn 1 (by decide), rfl, q2 H1 F1 .refl w _ r2⟩
    | 2, _, ez => cases ez; exact ⟨_, _, _, _, vz, rfl, h, dc, dn 2 (by decide), rfl, q2 H1 F1 .refl w _ r3⟩
  · cases h
def rIsXX (c : Cn) (K : PySem.W.Frag) : List V → Hp → VK → Prop := fun xs H Q => ∃ k, k < 11 ∧ rIsX K (c.cl k) xs H Q
theorem s_isx {j : Nat} {a : E} {s : Syn} (G : Good c ck cf k X) (iha : ∀ s, chk ck a X.env.scope s = true → Snd c cf X W X.env.scope a s) (h : chk ck (.isx j a) X.env.scope s = true) : Snd c cf X W X.env.scope (.isx j a) s := by
  simp only [chk] at h
  split at h
  · rename_i x p0 y p z p1 p2
    simp only [Bool.and_eq_true] at h
    obtain ⟨⟨⟨⟨⟨h1, h2⟩, h3⟩, h4⟩, h5⟩, h6⟩ := h
    have hx := of_decide_eq_true h2
    subst hx
    have CI := G.xc h1
    have cr : CallR X (.builtin "isinstance") (rIsXX c X.K) := fun pins s σ H xs us Q I r ⟨k, hk, q⟩ => call_isX (CI.ex k hk) pins s σ H xs us Q I r q
    have pc : ∃ (cV : V) (cv : Value), PE X (.Name z p1) (tC cV) ∧ (∀ u, RelV cV u → u = cv) ∧ ∀ k, k < 11 → PySem.W.kitOne X.K (.ref (c.cl k)) cv = some (decide (k = j) || decide (j = 11)) := by
      by_cases hj : j = 11
      · rw [if_pos hj] at h4
        have e := of_decide_eq_true h4
        subst e
        refine ⟨.ty "ValueError", .type "ValueError", pe_bltn (v := .ty "ValueError") (gl_of h5) CI.vn (by decide +kernel) rfl (by decide) (by decide), fun u r => r, fun k hk => ?_⟩
        rw [CI.ve k hk, decide_eq_true hj, Bool.or_true]
      · rw [if_neg hj] at h4
        obtain ⟨lj, mj, dj⟩ := CI.at_ j z (of_decide_eq_true h4)
        refine ⟨.ref (c.cl j), .ref (c.cl j), pe_glob (gl_of h5) mj rfl dj, fun u r => r, fun k hk => ?_⟩
        rw [CI.ne j k lj hk, decide_eq_false hj, Bool.or_false]
    obtain ⟨cV, cv, pcn, hcv, hk1⟩ := pc
    refine snd_ex (PE.imp (pe_callB cr (gl_of h3) (G.blt "isinstance" (by decide)) (by decide +kernel) (pa_cons (iha _ h6).1 (pa_cons pcn pa_nil rfl) rfl) (by decide) (by decide) rfl rfl) fun σ H Q ⟨env, d, F, es, q⟩ => ?_) fun _ => rfl
    simp only [ev] at q
    refine ⟨env, d, F, es, q.bind.imp fun x d1 F1 H1 st w q1 v dq => ?_⟩
    cases x <;> first | exact q1.elim | skip
    rename_i kk
    dsimp only at q1
    split at q1
    · rename_i hkk
      cases dq with | exc h =>
      exact ⟨kk, hkk.1, _, cV, cv, _, rfl, h, hcv, hk1 kk hkk.1, q1 H1 F1 .refl w _ (.bl _)⟩
    · exact q1.elim
  · cases h
theorem meth_eq {o : Expr} {name : Str} {apos pos : Pos} {args : List Expr} {env : PySem.Env} (hbase : attributeBase o name env (eval o env) = eval o env) (hst : args.all notStar = true) (hn : args.length < 30) (hl : (apos.endLine == pos.line) = true) :
    eval (.Call (.Attribute o name apos) args [] pos) env = (do
      let ov ← eval o env
      standAt apos.atName
      let (f, first) ← holding [ov] (getMethod ov name (do return (← importBound o env).getD true))
      callWith pos f first (backTo pos (starEach args env)) (backToKw pos (keywordEach [] env))) := by
  have hf : methodCallForm (args.length + ([] : List Keyword).length) (backTo pos (starEach args env)) (backToKw pos (keywordEach [] env)) = true := by
    have h1 := star_any (env := env) (pos := pos) hst
    have h2 : (backTo pos (starEach args env)).all (fun x => !x.1) = true := by
      rw [List.all_eq_true]
      intro x hx
      cases hb : x.1 with
      | false => rfl
      | true => exact absurd (List.any_eq_true.mpr ⟨x, hx, hb⟩) (by rw [h1]; simp)
    unfold methodCallForm
    rw [h2]
    show (true && true && decide (args.length + 0 + (if true = true then 0 else 1) < 30)) = true
    simp [hn]
  show (do
    let ov ← attributeBase o name env (eval o env)
    standAt apos.atName
    methodCall o name apos pos env ov (args.length + ([] : List Keyword).length) (backTo pos (starEach args env)) (backToKw pos (keywordEach [] env))) = _
  rw [hbase]
  unfold methodCall
  rw [hf]
  unfold calleeOf methodCallPos
  simp only [if_true, Bool.not_true, Bool.false_or, hl, pure_bind]
theorem nil_exs {e : E} {sc : Scope} (h : chk ck e sc (.exs []) = true) : e = .nil := by
  cases e <;> first | rfl | (simp [chk] at h)
theorem s_tmp {f : Nat} {es as : E} {s : Syn} (G : Good c ck cf k X) (tk : L2N.Takes X W) (ihe : ∀ s, chk ck es X.env.scope s = true → Snd c cf X W X.env.scope es s) (iha : ∀ s, chk ck as X.env.scope s = true → Snd c cf X W X.env.scope as s) (h : chk ck (.tmp f es as) X.env.scope s = true) : Snd c cf X W X.env.scope (.tmp f es as) s := by
  simp only [chk] at h
  split at h
  · rename_i x p0 a l p1 nm ap args cp
    simp only [Bool.and_eq_true] at h
    obtain ⟨⟨⟨⟨⟨⟨⟨h1, h2⟩, h3⟩, h4⟩, h5⟩, h8⟩, h6⟩, h7⟩ := h
    have hx := of_decide_eq_true h2
    subst hx
    have hl30 := of_decide_eq_true h8
    obtain ⟨room, mg, dk, ⟨fi, fdi, psi, Mi, bi, Fi⟩, mt⟩ := G.mkd h1
    obtain ⟨fa, fd, ps, Mm, nf, bm, Fm⟩ := mt f _ (of_decide_eq_true h4)
    have hs := chk_star h6
    rw [List.all_cons, Bool.and_eq_true] at hs
    have hs2 := chk_star h7
    have p1' := pe_makeX (p := p0) (pos := p1) (E := fun σ cls d H => W cls d σ H) Mi Fi room (gl_of h3) mg bi (fun σ => L2N.passAt tk σ) (ihe _ h6) (by decide) (star1 hs.1) (star_any hs.2)
    have rd : ∀ t : TA, (∀ σ H K, tA c cf W as σ H K → t σ H K) → ∀ σ H Q, tE c cf W (.tmp f es as) σ H Q → tMethX c.dk nm (spF c cf f) (fun σ cls d H => W cls d σ H) (tMakeX c.dk (spInit c cf) (fun σ cls d H => W cls d σ H) (tA c cf W es)) t σ H Q := fun tt ht σ H Q ⟨env, d, F, eS, q⟩ => by
      simp only [ev] at q
      refine ⟨env, d, F, eS, q.bind.imp fun x d1 F1 H1 st w q1 vs dqs x0 dx n1 n2 n3 => ?_⟩
      generalize tups x = ts at q1 dqs
      match ts, dqs, q1 with
      | [t], .cons (v := v) dq .nil, q1 =>
        refine ⟨F1, d1, t, v, x0, dx, H1, rfl, rfl, n1, n2, n3, w, dq, ?_⟩
        dsimp only at q1
        cases e9 : cf 900 [t] d1 with
        | bad => rw [e9] at q1; exact q1
        | err n d2 => rw [e9] at q1; exact fun H' F' s' w' => q1 H' F' s' w'
        | ok z d2 =>
          rw [e9] at q1
          simp only [Res.bind] at q1
          cases hk : d2.k with
          | some _ => rw [hk] at q1; exact q1.elim
          | none =>
            rw [hk] at q1
            dsimp only at q1
            refine ⟨hk, fun hF H' F' fs s' w' fx hx => ⟨rfl, x0, dx, fs, rfl, hx, ?_, ?_⟩⟩
            · obtain ⟨_, _, _, vx, vy, vz, _, e2, _⟩ := (w'.dsk _ _ _ _ fx hx).ex
              subst e2
              have a0 := beq_eq_false_iff_ne.mpr (Ne.symm (nf 0 (by decide)))
              have a1 := beq_eq_false_iff_ne.mpr (Ne.symm (nf 1 (by decide)))
              have a2 := beq_eq_false_iff_ne.mpr (Ne.symm (nf 2 (by decide)))
              simp only [List.lookup_cons, a0, a1, a2, List.lookup_nil]
            · have st1 : Step c F H F' H' := st.trans s'
              have hF0 : ∀ b, F b → ∃ xs, H b = some (.lst xs) := fun b fb => by
                obtain ⟨xs, e1⟩ := hF b (st.sub b fb)
                rcases eS.wf.dom b fb with h | ⟨dx', fs', h⟩
                · exact h
                · obtain ⟨fs'', e2⟩ := st.insF b _ dx' fs' fb h
                  rw [e1] at e2; cases e2
              refine ht _ _ _ ⟨env, ⟨d2.a, d2.b, some (t, .lst [], .lst [])⟩, F', eS.step st1 w', ?_⟩
              cases ea : ev cf as env ⟨d2.a, d2.b, some (t, .lst [], .lst [])⟩ with
              | bad => rw [ea] at q1; exact q1
              | err n d3 =>
                rw [ea] at q1
                exact fun H3 F3 s3 w3 => q1 H3 (dropI F3 H3) ((s'.trans s3).drop w hF) w3.drop
              | ok xs d3 =>
                rw [ea] at q1
                simp only [Res.bind] at q1
                intro H3 F3 s3 w3 vs2 dq2
                obtain ⟨fs3, hx3⟩ := s3.insF x0 _ dx fs fx hx
                refine ⟨F3, d3, .obj :: tups xs, w3, .cons (.obj (s3.sub _ fx) hx3) dq2, ?_⟩
                cases em : cf f (.obj :: tups xs) d3 with
                | bad => rw [em] at q1; exact q1
                | err n d4 =>
                  rw [em] at q1
                  exact fun H4 F4 s4 w4 => q1 H4 (dropI F4 H4) (((s'.trans s3).trans s4).drop w hF) w4.drop
                | ok z4 d4 =>
                  rw [em] at q1
                  intro v4 H4 F4 s4 w4 dq4
                  have fin := fun (zz : D) (hz : Dq c (dropI F4 H4) H4 v4 zz) (qq : RG c W σ F1 H1 (.ok zz ⟨d4.a, d4.b, none⟩) fun x _ F' H' => ∀ v, Dq c F' H' v x → Q v H') => qq H4 (dropI F4 H4) (((s'.trans s3).trans s4).drop w hF) w4.drop v4 hz
                  cases dq4 with
                  | non => exact fin _ .non q1
                  | str s h => exact fin _ (.str s h) q1
                  | _ => exact q1.elim
      | [], _, q1 => exact q1.elim
      | _ :: _ :: _, _, q1 => exact q1.elim
    cases args with
    | nil =>
      have e0 := nil_exs h7
      subst e0
      refine snd_ex (PE.imp (pe_methX0 (E := fun σ cls d H => W cls d σ H) p1' dk.cls Mm Fm G.room bm (fun σ => L2N.passAt tk σ) (meth_eq rfl rfl (by decide) h5)) (rd tNil fun σ H K ⟨env, d, F, eS, q⟩ => q H F .refl eS.wf [] .nil)) fun _ => rfl
    | cons e es' =>
      rw [List.all_cons, Bool.and_eq_true] at hs2
      exact snd_ex (PE.imp (pe_methX (E := fun σ cls d H => W cls d σ H) p1' dk.cls Mm Fm G.room bm (fun σ => L2N.passAt tk σ) (iha _ h7) (star1 hs2.1) (star_any hs2.2) (meth_eq rfl (by rw [List.all_cons, hs2.1, hs2.2]; rfl) hl30 h5)) (rd _ fun _ _ _ h => h)) fun _ => rfl
  · cases h
end
end SG
namespace SG
open PySem PySem.Spec PyProof.Rows L2
section
variable {c : Cn} {ck : Ck} {cf : CF} {k : Nat} {X : Cx} {W : WX}
theorem errS_ascii (n : Nat) : ∀ c ∈ errS n, c < 128 := by
  unfold errS
  split <;> decide
theorem takes0 {X : Cx} : L2N.Takes X W0 := fun _ _ x => by
  obtain ⟨_, _, _, _, _, _, _, _, _, _, _, _, _, _, _, _, z⟩ := x
  exact z.elim
theorem s_told {e : E} {s : Syn} (G : Good c ck cf k X) (ihe : ∀ (Y : Cx) (W' : WX), Good c ck.off cf k Y → L2N.Takes Y W' → ∀ s, chk ck.off e Y.env.scope s = true → Snd c cf Y W' Y.env.scope e s) (h : chk ck (.told e) X.env.scope s = true) : Snd c cf X W X.env.scope (.told e) s := by
  simp only [chk] at h
  split at h
  · simp only [Bool.and_eq_true] at h
    obtain ⟨⟨⟨⟨⟨h1, h2⟩, h3⟩, h4⟩, h5⟩, h6⟩ := h
    have hx := of_decide_eq_true h2
    subst hx
    obtain ⟨cd, rm, tr⟩ := G.lam h1
    refine snd_ex (PE.imp (tr X rfl rfl rfl rfl rfl G.calm rm cd _ _ _ _ _ _ (fun W' => tE c cf W' e) h3 h4 h5 fun Y W' al hc hr hs tk => ?_) fun σ H Q ⟨env, d, F, es, q⟩ => ?_) fun _ => rfl
    · have G' : Good c ck.off cf k Y := by
        refine ⟨by rw [al.N]; exact G.N, G.nd, hc, hr, fun x hx => by rw [al.mg]; exact G.blt x hx, fun f nm hf => ?_, fun z => (by cases z), fun h => by rw [al.K]; exact G.dk h, fun h => by rw [al.K, al.mg]; exact G.xc h, fun z => (by cases z), fun z => (by cases z)⟩
        obtain ⟨n1, fa, fd, ps, m1, m2, m3, m4⟩ := G.fns f nm hf
        refine ⟨n1, fa, fd, ps, by rw [al.mg]; exact m1, by rw [al.K]; exact m2, by rw [al.K]; exact m3, ?_⟩
        rw [al.prog, al.w, al.K, al.mg, al.base]
        exact m4
      exact (ihe Y W' G' tk (.ex _) (by rw [hs]; exact h6)).1
    · refine ⟨es.wf.tabs, fun H1 ex tb => ?_⟩
      have st : Step c F H F H1 := .all ex
      have w1 : Wf c F H1 d := es.wf.all ex tb
      refine ⟨env, d, F, es.step st w1, ?_⟩
      simp only [ev] at q
      cases er : ev cf e env d with
      | ok x d1 =>
        rw [er] at q
        exact fun H' F' s' w' => q H' F' (st.trans s') w'
      | bad => rw [er] at q; exact q
      | err n d1 =>
        rw [er] at q
        dsimp only at q
        split at q
        · rename_i hn
          refine fun H' F' s' w' => ⟨n, hn, rfl, rfl, fun p H'' sm e1 => ?_⟩
          have st2 : Step c F' H' F' H'' := .all fun b o e _ => sm b o e
          have w2 : Wf c F' H'' d1 := w'.all (fun b o e _ => sm b o e) (w'.tabs.ext sm)
          exact q H'' F' ((st.trans s').trans st2) w2 _ (.tup e1 (.cons (.str _ (by decide)) (.cons (.str _ (errS_ascii n)) .nil)))
        · exact q.elim
  · cases h
theorem s_met {e : E} {s : Syn} (G : Good c ck cf k X) (ihe : ∀ (Y : Cx) (W' : WX), Good c ck.offM cf k Y → L2N.Takes Y W' → ∀ s, chk ck.offM e Y.env.scope s = true → Snd c cf Y W' Y.env.scope e s) (h : chk ck (.met e) X.env.scope s = true) : Snd c cf X W X.env.scope (.met e) s := by
  simp only [chk] at h
  split at h
  · simp only [Bool.and_eq_true] at h
    obtain ⟨⟨⟨⟨⟨h1, h2⟩, h3⟩, h4⟩, h5⟩, h6⟩ := h
    have hx := of_decide_eq_true h2
    subst hx
    obtain ⟨cd, rm, tr⟩ := G.met h1
    refine snd_ex (PE.imp (tr X rfl rfl rfl rfl rfl G.calm rm cd _ _ _ _ _ _ (fun W' => tE c cf W' e) h3 h4 h5 fun Y W' al hc hr hs tk => ?_) fun σ H Q ⟨env, d, F, es, q⟩ => ?_) fun _ => rfl
    · have G' : Good c ck.offM cf k Y := by
        refine ⟨by rw [al.N]; exact G.N, G.nd, hc, hr.mono (Nat.le_succ _), fun x hx => by rw [al.mg]; exact G.blt x hx, fun f nm hf => ?_, fun z => (by cases z), fun h => by rw [al.K]; exact G.dk h, fun h => by rw [al.K, al.mg]; exact G.xc h, fun h => ?_, fun z => (by cases z)⟩
        · obtain ⟨n1, fa, fd, ps, m1, m2, m3, m4⟩ := G.fns f nm hf
          refine ⟨n1, fa, fd, ps, by rw [al.mg]; exact m1, by rw [al.K]; exact m2, by rw [al.K]; exact m3, ?_⟩
          rw [al.prog, al.w, al.K, al.mg, al.base]
          exact m4
        · obtain ⟨a1, a2, a3, ⟨fi, fd, ps, b1, b2, b3⟩, a5⟩ := G.mkd h
          refine ⟨hr, by rw [al.mg]; exact a2, by rw [al.K]; exact a3, ⟨fi, fd, ps, by rw [al.K]; exact b1, by rw [al.K]; exact b2, ?_⟩, fun f nm hf => ?_⟩
          · rw [al.prog, al.w, al.K, al.mg, al.base]
            exact b3
          · obtain ⟨fa, fd, ps, m1, m2, m3, m4⟩ := a5 f nm hf
            refine ⟨fa, fd, ps, by rw [al.K]; exact m1, m2, by rw [al.K]; exact m3, ?_⟩
            rw [al.prog, al.w, al.K, al.mg, al.base]
            exact m4
      exact (ihe Y W' G' tk (.ex _) (by rw [hs]; exact h6)).1
    · refine ⟨es.wf.tabs, fun H1 ex tb => ?_⟩
      have st : Step c F H F H1 := .all ex
      have w1 : Wf c F H1 d := es.wf.all ex tb
      refine ⟨env, d, F, es.step st w1, ?_⟩
      simp only [ev] at q
      cases er : ev cf e env d with
      | ok x d1 =>
        rw [er] at q
        exact fun H' F' s' w' v dq => q H' F' (st.trans s') w' _ .non
      | bad => rw [er] at q; exact q
      | err n d1 =>
        rw [er] at q
        dsimp only at q
        split at q
        · rename_i hn
          exact fun H' F' s' w' => ⟨n, hn, rfl, rfl, fun a ha => q _ F' ((st.trans s').trans (.new' ha)) (w'.new' ha) _ (.exc upd_same)⟩
        · exact q.elim
  · cases h
theorem sound (e : E) : ∀ {ck : Ck} {X : Cx} {W : WX}, Good c ck cf k X → L2N.Takes X W → ∀ s, chk ck e X.env.scope s = true → Snd c cf X W X.env.scope e s := by
  induction e with
  | nil => intro ck X W G tk s h; exact s_nil h
  | cons a r iha ihr => intro ck X W G tk s h; exact s_cons (iha G tk) (ihr G tk) h
  | var i => intro ck X W G tk s h; exact s_var G h
  | non =>
    intro ck X W G tk s h
    simp only [chk] at h
    split at h
    · exact s_const pe_non (fun _ => rfl) (fun _ _ _ => .non) (fun _ _ => by simp only [ev])
    · cases h
  | bl b =>
    intro ck X W G tk s h
    simp only [chk] at h
    split at h
    · rename_i b' _ _
      have e : b = b' := by simpa using h
      subst e
      exact s_const pe_bl (fun _ => rfl) (fun _ _ _ => .bl _) (fun _ _ => by simp only [ev])
    · cases h
  | int i =>
    intro ck X W G tk s h
    simp only [chk] at h
    split at h
    · have e := of_decide_eq_true h
      subst e
      exact s_const pe_int (fun _ => rfl) (fun _ _ _ => .int _) (fun _ _ => by simp only [ev])
    · cases h
  | str t =>
    intro ck X W G tk s h
    simp only [chk] at h
    split at h
    · rw [Bool.and_eq_true] at h
      have e := str_of h.1
      subst e
      exact s_const pe_str (fun _ => rfl) (fun _ _ _ => .str _ (ascii_of h.2)) (fun _ _ => by simp only [ev])
    · cases h
  | tup a iha => intro ck X W G tk s h; exact s_tup G (iha G tk) (fun env d x d' e ⟨l, hl⟩ => ⟨(ev_list hl e).1, fun l' hl' => (ev_list hl' e).2⟩) h
  | lst a iha => intro ck X W G tk s h; exact s_lst (iha G tk) h
  | bin o a b iha ihb => intro ck X W G tk s h; exact s_bin (iha G tk) (ihb G tk) h
  | neg a iha => intro ck X W G tk s h; exact s_neg (iha G tk) h
  | cmp o a b iha ihb => intro ck X W G tk s h; exact s_cmp G (iha G tk) (ihb G tk) h
  | chain o p a b e iha ihb ihe => intro ck X W G tk s h; exact s_chain G (iha G tk) (ihb G tk) (ihe G tk) h
  | isn n a iha => intro ck X W G tk s h; exact s_isn (iha G tk) h
  | and a b iha ihb => intro ck X W G tk s h; exact s_and (iha G tk) (ihb G tk) h
  | or a b iha ihb => intro ck X W G tk s h; exact s_or (iha G tk) (ihb G tk) h
  | and3 a b e iha ihb ihe => intro ck X W G tk s h; exact s_and3 (iha G tk) (ihb G tk) (ihe G tk) h
  | or3 a b e iha ihb ihe => intro ck X W G tk s h; exact s_or3 (iha G tk) (ihb G tk) (ihe G tk) h
  | not a iha => intro ck X W G tk s h; exact s_not (iha G tk) h
  | ite t a b iht iha ihb => intro ck X W G tk s h; exact s_ite (iht G tk) (iha G tk) (ihb G tk) h
  | call f a iha => intro ck X W G tk s h; exact s_call G tk (iha G tk) h
  | bi f a iha => intro ck X W G tk s h; exact s_bi G (iha G tk) h
  | isi t a iha => intro ck X W G tk s h; exact s_isi G (iha G tk) h
  | meth m o a iho iha => intro ck X W G tk s h; exact s_meth (iho G tk) (iha G tk) h
  | ix a b iha ihb => intro ck X W G tk s h; exact s_ix (iha G tk) (ihb G tk) h
  | sl a lo hi iha ihl ihh => intro ck X W G tk s h; exact s_sl (iha G tk) (ihl G tk) (ihh G tk) h
  | rng1 a iha => intro ck X W G tk s h; exact s_rng1 G (iha G tk) h
  | rng2 a b iha ihb => intro ck X W G tk s h; exact s_rng2 G (iha G tk) (ihb G tk) h
  | enum a iha => intro ck X W G tk s h; exact s_enum G (iha G tk) h
  | zip a b iha ihb => intro ck X W G tk s h; exact s_zip G (iha G tk) (ihb G tk) h
  | trng a iha => intro ck X W G tk s h; exact s_trng G (iha G tk) h
  | rev a iha => intro ck X W G tk s h; exact s_rev (iha G tk) h
  | lenum a iha => intro ck X W G tk s h; exact s_lenum G (iha G tk) h
  | ssort a iha => intro ck X W G tk s h; exact s_ssort G (iha G tk) h
  | lc elt tg it own ihe iht ihi => intro ck X W G tk s h; exact s_lc G (ihi G tk) (fun X' G' => ihe G' takes0) h
  | lcif elt tg it cd own ihe iht ihi ihc => intro ck X W G tk s h; exact s_lcif G (ihi G tk) (fun X' G' => ihe G' takes0) (fun X' G' => ihc G' takes0) h
  | dix i j => intro ck X W G tk s h; exact s_dix G h
  | lc2 elt tg1 it1 tg2 it2 own own2 ihe iht1 ihi1 iht2 ihi2 => intro ck X W G tk s h; exact s_lc2 G (ihi1 G tk) (fun X' G' => ihi2 G' takes0) (fun X' G' => ihe G' takes0) h
  | told a iha => intro ck X W G tk s h; exact s_told G (fun Y W' G' tk' => iha G' tk') h
  | met a iha => intro ck X W G tk s h; exact s_met G (fun Y W' G' tk' => iha G' tk') h
  | fld o j iho => intro ck X W G tk s h; exact s_fld G (iho G tk) h
  | isx j a iha => intro ck X W G tk s h; exact s_isx G (iha G tk) h
  | tmp f a b iha ihb => intro ck X W G tk s h; exact s_tmp G tk (iha G tk) (ihb G tk) h
  | dget kvs a iha => intro ck X W G tk s h; exact s_dget G (iha G tk) h
  | dgets kvs a iha => intro ck X W G tk s h; exact s_dgets G (iha G tk) h
  | _ => intro ck X W G tk s h; simp [chk] at h
end
end SG
namespace SG
open PySem PySem.Spec PyProof.Rows L2
inductive SSyn where
  | one (s : Stmt) | many (l : List Stmt)
def isFrz : S → Option Nat
  | .frz i => some i
  | _ => none
def noSD : Expr → Bool
  | .SetComp _ _ _ _ => false
  | .DictComp _ _ _ _ _ => false
  | _ => true
def swB (sc : Scope) (v tg : Expr) : Bool := match v with
  | .ListComp _ _ s p => match tg with
    | .Name t p' => (sc.names.lookup t == some .local) && (p'.line == p.line) && !(s.names.any fun (n, k) => n == t && (k == .local || k == .cell))
    | _ => false
  | _ => false
def swN (sc : Scope) (tg v : Expr) : Bool := match tg, v with
  | .Tuple ts _ _, .Tuple vs _ _ => !(ts.length == 2 || ts.length == 3) || ts.any fun t => match t with | .Name x _ => !(sc.names.lookup x == some .local) | _ => true
  | .List _ _, _ => false
  | _, _ => true
def isLcE : E → Bool
  | .lc _ _ _ _ => true | .lcif _ _ _ _ _ => true | .lc2 _ _ _ _ _ _ _ => true | _ => false
def vOf : E → Option Nat
  | .var i => some i
  | _ => none
def parC (sc : Scope) (x y : Str) (px py : Pos) (a b : Expr) : Bool := decide (x ≠ y) && decide (sc.names.lookup x = some .local) && decide (sc.names.lookup y = some .local) && (py.line == px.line) && notStar a && notStar b && !(foldedForSure 8 a && foldedForSure 8 b) && !(constantsAlone 8 a && constantsAlone 8 b)
def par3C (sc : Scope) (x y z : Str) (px py pz : Pos) (a b c : Expr) : Bool := decide (x ≠ y) && decide (x ≠ z) && decide (y ≠ z) && decide (sc.names.lookup x = some .local) && decide (sc.names.lookup y = some .local) && decide (sc.names.lookup z = some .local) && (py.line == px.line) && (pz.line == px.line) && notStar a && notStar b && notStar c && !(foldedForSure 8 a && foldedForSure 8 b && foldedForSure 8 c) && !(constantsAlone 8 a && constantsAlone 8 b && constantsAlone 8 c)
def parD (sc : Scope) (x y : Str) (u tg v : Expr) : Bool := swN sc tg v && noSD v && !swB sc v tg && locB sc x && locB sc y && notStar u
def chkS (ck : Ck) (sc : Scope) : S → SSyn → Bool
  | .nil, s => match s with
    | .many [] => true
    | _ => false
  | .seq a r, s => match s with
    | .many l => match isFrz a with
      | some i => chkS ck sc r (.many l)
      | none => match l with
        | st :: rest => chkS ck sc a (.one st) && chkS ck sc r (.many rest)
        | [] => false
    | _ => false
  | .nev, _ => true
  | .set tg e, s => match s with
    | .one (.Assign [tg'] v _) => notStar tg' && noSD v && swN sc tg' v && chk ck tg sc (.tg tg') && chk ck e sc (.ex v) && (!swB sc v tg' || (isLcE e && (vOf tg).isSome))
    | _ => false
  | .own i, s => match s with
    | .one (.Assign [.Name x _] (.List [] _) _) => decide (ck.N[i]? = some x) && locB sc x
    | _ => false
  | .par i j a b, s => match s with
    | .one (.Assign [.Tuple [.Name x px, .Name y py] _ _] (.Tuple [u, v] _ _) _) => decide (ck.N[i]? = some x) && decide (ck.N[j]? = some y) && parC sc x y px py u v && chk ck a sc (.ex u) && chk ck b sc (.ex v)
    | _ => false
  | .par3 i j l a b c, s => match s with
    | .one (.Assign [.Tuple [.Name x px, .Name y py, .Name z pz] _ _] (.Tuple [u, v, w] _ _) _) => decide (ck.N[i]? = some x) && decide (ck.N[j]? = some y) && decide (ck.N[l]? = some z) && par3C sc x y z px py pz u v w && chk ck a sc (.ex u) && chk ck b sc (.ex v) && chk ck c sc (.ex w)
    | _ => false
  | .parO i j a, s => match s with
    | .one (.Assign [.Tuple [.Name x px, .Name y py] k1 p1] (.Tuple [u, .List [] lp] k2 p2) _) => decide (ck.N[i]? = some x) && decide (ck.N[j]? = some y) && (parC sc x y px py u (.List [] lp) || parD sc x y u (.Tuple [.Name x px, .Name y py] k1 p1) (.Tuple [u, .List [] lp] k2 p2)) && chk ck a sc (.ex u)
    | _ => false
  | .frz _, _ => false
  | .app i e, s => match s with
    | .one (.Expr (.Call (.Attribute (.Name x _) nm ap) [v] [] cp) _) => decide (ck.N[i]? = some x) && visB sc x && okName x && decide (nm = Str.ofString "append") && (ap.endLine == cp.line) && notStar v && chk ck e sc (.ex v)
    | _ => false
  | .sti i a e, s => match s with
    | .one (.Assign [.Subscript (.Name x _) ix _] v _) => decide (ck.N[i]? = some x) && visB sc x && okName x && noSD v && notSlice ix && chk ck e sc (.ex v) && chk ck a sc (.ex ix)
    | _ => false
  | .swp _ _ _, _ => false
  | .fst o j e, s => match s with
    | .one (.Assign [.Attribute (.Name x p) nm _] v _) => ck.ex.dk && decide (j < 3) && decide (nm = fldN j) && noSD v && chk ck o sc (.ex (.Name x p)) && chk ck e sc (.ex v)
    | _ => false
  | .own1 i e, s => match s with
    | .one (.Assign [.Name x _] (.List [v] _) _) => decide (ck.N[i]? = some x) && locB sc x && notStar v && chk ck e sc (.ex v)
    | _ => false
  | .ret e, s => match s with
    | .one (.Return (some v) _) => chk ck e sc (.ex v)
    | _ => false
  | .ifs c a b, s => match s with
    | .one (.If t x y _) => chk ck c sc (.ex t) && chkS ck sc a (.many x) && chkS ck sc b (.many y)
    | _ => false
  | .fors tg it b, s => match s with
    | .one (.For tg' it' body [] _) => tgIt it tg' && notSet it' && chk ck tg sc (.tg tg') && chk ck it sc (synIt it it') && chkS ck sc b (.many body)
    | _ => false
  | .whl n c b, s => match s with
    | .one (.While t body [] _) => chk ck c sc (.ex t) && chkS ck sc b (.many body)
    | _ => false
  | .ex e, s => match s with
    | .one (.Expr v _) => (match v with | .Call _ _ _ _ => true | _ => false) && chk ck e sc (.ex v)
    | _ => false
  | .rse j, s => match s with
    | .one (.Raise (some (.Call (.Name x _) [.Constant (.str _) _ _] [] _)) none _) => decide (ck.er j = some x) && glB sc x
    | _ => false
  | .ownR i z e, s => match s with
    | .one (.Assign [.Name x _] (.BinOp (.List [.Constant (.int z') _ _] _) .Mult v _) _) => decide (ck.N[i]? = some x) && locB sc x && decide (z' = z) && chk ck e sc (.ex v)
    | _ => false
  | .aug i e, s => match s with
    | .one (.AugAssign (.Name x _) .Add v _) => decide (ck.N[i]? = some x) && locB sc x && chk ck e sc (.ex v)
    | _ => false
  | .dst i j e, s => match s with
    | .one (.Assign [.Subscript (.Name x _) (.Constant (.int z) _ _) _] v _) => decide (ck.N[i]? = some x) && visB sc x && okName x && decide (z = (j : Int)) && decide (j < 2) && (match v with | .BinOp _ _ _ _ => true | _ => false) && chk ck e sc (.ex v)
    | _ => false
section
variable (c : Cn) (Fb : Addr → Prop) (Hb : Hp)
structure FS (env : Env) (d : Dice) (F : Addr → Prop) (σ : L2.St) (H : Hp) : Prop where
  es : ES c env d F σ H
  st : Step c Fb Hb F H
  fr : ∀ (i : Nat) xs p, env[i]? = some (.ow xs) → σ[i]? = some (some (.ref p)) → Nn Hb p
def SO (W : WX) (D : Ends) (F : Addr → Prop) (H : Hp) : Out → Prop
  | .nx env' d' => ∀ σ' H' F', Le F H F' H' → FS c Fb Hb env' d' F' σ' H' → D.nx σ' H'
  | .rt v d' => ∀ w H' F', Step c Fb Hb F' H' → Wf c F' H' d' → Dq c F' H' w v → D.rt w H'
  | .er k d' => ∀ σ' H' F', Step c Fb Hb F' H' → Wf c F' H' d' → W (.ref (c.cl k)) none σ' H'
  | .bad => False
def tS (cf : CF) (W : WX) (s : S) : TS := fun D σ H => ∃ env d F, FS c Fb Hb env d F σ H ∧ SO c Fb Hb W D F H (evS cf s env d)
end
section
variable {c : Cn} {Fb : Addr → Prop} {Hb : Hp} {W : WX} {D : Ends} {F F1 F2 F' : Addr → Prop} {H H1 H2 H' : Hp} {σ : L2.St} {env env' : Env} {d d' : Dice} {o : Out}
theorem SO.le (h : SO c Fb Hb W D F H o) (l : Le F H F1 H1) : SO c Fb Hb W D F1 H1 o := by
  cases o with
  | nx e d => exact fun σ' H' F' l' fs => h σ' H' F' (l.trans l') fs
  | _ => exact h
theorem FS.step (fs : FS c Fb Hb env d F σ H) (st : Step c F H F' H') (w : Wf c F' H' d') : FS c Fb Hb env d' F' σ H' := ⟨fs.es.step st w, fs.st.trans st, fs.fr⟩
theorem FS.le (fs : FS c Fb Hb env d F σ H) (st : Step c F H F' H') : Le F H F' H' := st.le fs.es.wf
theorem SO.out {α : Type} {r : Res α} {f : α → Dice → Out} (h : SO c Fb Hb W D F H (r.out f)) (fs : FS c Fb Hb env d F σ H) : RG c W σ F H r fun x d1 F1 H1 => SO c Fb Hb W D F1 H1 (f x d1) := by
  cases r with
  | ok x d1 => exact fun H' F' st w => SO.le h (fs.le st)
  | err k d1 => exact fun H' F' st w => h σ H' F' (fs.st.trans st) w
  | bad => exact h
theorem SO.ofE {oe : Option Env} (h : SO c Fb Hb W D F H (.ofE oe d)) : ∃ e, oe = some e ∧ SO c Fb Hb W D F H (.nx e d) := by
  cases oe with
  | none => exact h.elim
  | some e => exact ⟨e, rfl, h⟩
theorem asg_ow {e : E} : ∀ {x : SG.D} {env env' : Env} {i : Nat} {xs : List SG.D}, asg e x env = some env' → env'[i]? = some (.ow xs) → i ∉ tgSl e ∧ env[i]? = some (.ow xs) := by
  have put : ∀ {env env' : Env} {j i : Nat} {x : SG.D} {xs : List SG.D}, env.put j (.sh x) = some env' → env'[i]? = some (.ow xs) → i ≠ j ∧ env[i]? = some (.ow xs) := by
    intro env env' j i x xs h e
    unfold Env.put at h
    split at h <;> cases h
    rename_i hj
    by_cases z : i = j
    · subst z; rw [List.getElem?_set_self hj] at e; cases e
    · rw [List.getElem?_set_ne (Ne.symm z)] at e; exact ⟨z, e⟩
  induction e with
  | var j => intro x env env' i xs h e; simp only [asg] at h; simpa [tgSl] using put h e
  | nil =>
    intro x env env' i xs h e
    cases x <;> try (simp [asg] at h; done)
    rename_i l
    cases l with
    | nil => simp [asg] at h; subst h; exact ⟨by simp [tgSl], e⟩
    | cons a l => simp [asg] at h
  | tup a iha =>
    intro x env env' i xs h e
    cases x <;> simp only [asg] at h <;> try cases h
    exact iha h e
  | cons a r iha ihr =>
    intro x env env' i xs h e
    cases x <;> try (simp [asg] at h; done)
    rename_i l
    cases l with
    | nil => simp [asg] at h
    | cons y l =>
      simp only [asg] at h
      cases ea : asg a y env with
      | none => rw [ea] at h; cases h
      | some env1 =>
        rw [ea] at h
        obtain ⟨n1, e1⟩ := ihr h e
        obtain ⟨n2, e2⟩ := iha ea e1
        exact ⟨by simp [tgSl, n1, n2], e2⟩
  | _ => intro x env env' i xs h e; simp [asg] at h
theorem FS.asg (fs : FS c Fb Hb env d F σ H) {tg : E} {x : SG.D} {σ' : L2.St} (e : SG.asg tg x env = some env') (es : ES c env' d F σ' H) (so : SameOut (tgSl tg) σ σ') : FS c Fb Hb env' d F σ' H :=
  ⟨es, fs.st, fun i xs p e1 e2 => by
    obtain ⟨n, e3⟩ := asg_ow e e1
    rw [so.2 i n] at e2
    exact fs.fr i xs p e3 e2⟩
theorem FS.put (fs : FS c Fb Hb env d F σ H) {i : Nat} {x : SG.D} {v : V} (q : Dq c F H v x) (e : env.put i (.sh x) = some env') : FS c Fb Hb env' d F (σ.set i (some v)) H :=
  fs.asg (tg := .var i) (by simpa [SG.asg] using e) (fs.es.put q e) (by
    have := fs.es.sameOut (v := v) e
    exact ⟨this.1, fun j hj => this.2 j (by simpa [tgSl] using hj)⟩)
theorem FS.putO (fs : FS c Fb Hb env d F σ H) {i : Nat} {p : Addr} (hp : H p = none) (e : env.put i (.ow []) = some env') : FS c Fb Hb env' d F (σ.set i (some (.ref p))) (upd H p (.lst [])) := by
  have es := fs.es
  have w1 : Wf c F (upd H p (.lst [])) d := es.wf.new' hp
  have es1 := es.step (.new' (o := .lst []) hp) w1
  unfold Env.put at e
  split at e <;> cases e
  rename_i hi
  have hi' : i < σ.length := es.len ▸ hi
  have old : ∀ (j : Nat) xs, j ≠ i → env[j]? = some (.ow xs) → σ[j]? ≠ some (some (.ref p)) := fun j xs hj e1 e2 => by
    obtain ⟨q, vs, e3, e4, _⟩ := es.ow j xs e1
    rw [e2] at e3; cases e3
    rw [hp] at e4; cases e4
  have hbp : Nn Hb p := fs.st.back (es.wf.fresh_ne hp) (.of hp)
  refine ⟨⟨w1, by simpa using es.len, fun j y e1 => ?_, fun j xs e1 => ?_, fun j k xs ys q e1 e2 e3 e4 => ?_⟩, fs.st.trans (.new' hp), fun j xs q e1 e2 => ?_⟩
  · by_cases hj : j = i
    · subst hj; rw [List.getElem?_set_self hi] at e1; cases e1
    · rw [List.getElem?_set_ne (Ne.symm hj)] at e1 ⊢; exact es1.sh j y e1
  · by_cases hj : j = i
    · subst hj; rw [List.getElem?_set_self hi] at e1; cases e1
      exact ⟨p, [], by rw [List.getElem?_set_self hi'], upd_same, .nil, es.wf.fresh_F hp, es.wf.fresh_ne hp⟩
    · rw [List.getElem?_set_ne (Ne.symm hj)] at e1 ⊢; exact es1.ow j xs e1
  · by_cases hj : j = i
    · subst hj
      by_cases hk : k = j
      · exact hk.symm
      · rw [List.getElem?_set_ne (Ne.symm hk)] at e2 e4
        rw [List.getElem?_set_self hi'] at e3
        cases e3
        exact absurd e4 (old k ys hk e2)
    · rw [List.getElem?_set_ne (Ne.symm hj)] at e1 e3
      by_cases hk : k = i
      · subst hk
        rw [List.getElem?_set_self hi'] at e4
        cases e4
        exact absurd e3 (old j xs hj e1)
      · rw [List.getElem?_set_ne (Ne.symm hk)] at e2 e4
        exact es.inj j k xs ys q e1 e2 e3 e4
  · by_cases hj : j = i
    · subst hj
      rw [List.getElem?_set_self hi'] at e2; cases e2; exact hbp
    · rw [List.getElem?_set_ne (Ne.symm hj)] at e1 e2; exact fs.fr j xs q e1 e2
theorem FS.putL (fs : FS c Fb Hb env d F σ H) {i : Nat} {p : Addr} {vs0 : List V} {xs0 : List SG.D} (r0 : DqA c F H vs0 xs0) (hp : H p = none) (e : env.put i (.ow xs0) = some env') : FS c Fb Hb env' d F (σ.set i (some (.ref p))) (upd H p (.lst vs0)) := by
  have es := fs.es
  have w1 : Wf c F (upd H p (.lst vs0)) d := es.wf.new' hp
  have es1 := es.step (.new' (o := .lst vs0) hp) w1
  unfold Env.put at e
  split at e <;> cases e
  rename_i hi
  have hi' : i < σ.length := es.len ▸ hi
  have old : ∀ (j : Nat) xs, j ≠ i → env[j]? = some (.ow xs) → σ[j]? ≠ some (some (.ref p)) := fun j xs hj e1 e2 => by
    obtain ⟨q, vs, e3, e4, _⟩ := es.ow j xs e1
    rw [e2] at e3; cases e3
    rw [hp] at e4; cases e4
  have hbp : Nn Hb p := fs.st.back (es.wf.fresh_ne hp) (.of hp)
  refine ⟨⟨w1, by simpa using es.len, fun j y e1 => ?_, fun j xs e1 => ?_, fun j k xs ys q e1 e2 e3 e4 => ?_⟩, fs.st.trans (.new' hp), fun j xs q e1 e2 => ?_⟩
  · by_cases hj : j = i
    · subst hj; rw [List.getElem?_set_self hi] at e1; cases e1
    · rw [List.getElem?_set_ne (Ne.symm hj)] at e1 ⊢; exact es1.sh j y e1
  · by_cases hj : j = i
    · subst hj; rw [List.getElem?_set_self hi] at e1; cases e1
      exact ⟨p, vs0, by rw [List.getElem?_set_self hi'], upd_same, r0.mono (le_new hp), es.wf.fresh_F hp, es.wf.fresh_ne hp⟩
    · rw [List.getElem?_set_ne (Ne.symm hj)] at e1 ⊢; exact es1.ow j xs e1
  · by_cases hj : j = i
    · subst hj
      by_cases hk : k = j
      · exact hk.symm
      · rw [List.getElem?_set_ne (Ne.symm hk)] at e2 e4
        rw [List.getElem?_set_self hi'] at e3
        cases e3
        exact absurd e4 (old k ys hk e2)
    · rw [List.getElem?_set_ne (Ne.symm hj)] at e1 e3
      by_cases hk : k = i
      · subst hk
        rw [List.getElem?_set_self hi'] at e4
        cases e4
        exact absurd e3 (old j xs hj e1)
      · rw [List.getElem?_set_ne (Ne.symm hk)] at e2 e4
        exact es.inj j k xs ys q e1 e2 e3 e4
  · by_cases hj : j = i
    · subst hj
      rw [List.getElem?_set_self hi'] at e2; cases e2; exact hbp
    · rw [List.getElem?_set_ne (Ne.symm hj)] at e1 e2; exact fs.fr j xs q e1 e2
theorem getO_some {i : Nat} {xs : List SG.D} (h : env.getO i = some xs) : env[i]? = some (.ow xs) := by
  unfold Env.getO at h
  split at h <;> cases h
  assumption
theorem FS.change (fs : FS c Fb Hb env d F σ H) {i : Nat} {xs ys : List SG.D} {vs us : List V} {p : Addr} (e0 : env[i]? = some (.ow xs)) (e1 : σ[i]? = some (some (.ref p))) (hp : H p = some (.lst vs)) (r : DqA c F H us ys) (e : env.put i (.ow ys) = some env') : FS c Fb Hb env' d F σ (upd H p (.lst us)) ∧ Le F H F (upd H p (.lst us)) := by
  have es := fs.es
  obtain ⟨p', vs', z1, z2, z3, nf, nd⟩ := es.ow i xs e0
  rw [e1] at z1; cases z1
  have hl : Le F H F (upd H p (.lst us)) := le_upd hp nf
  have w1 : Wf c F (upd H p (.lst us)) d := wf_upd es.wf hp nf nd
  have hbp := fs.fr i xs p e0 e1
  unfold Env.put at e
  split at e <;> cases e
  rename_i hi
  refine ⟨⟨⟨w1, by simpa using es.len, fun j y e2 => ?_, fun j zs e2 => ?_, fun j k xs' ys' q e2 e3 e4 e5 => ?_⟩, ?_, fun j zs q e2 e3 => ?_⟩, hl⟩
  · by_cases hj : j = i
    · subst hj; rw [List.getElem?_set_self hi] at e2; cases e2
    · rw [List.getElem?_set_ne (Ne.symm hj)] at e2
      obtain ⟨v, a1, a2⟩ := es.sh j y e2
      exact ⟨v, a1, a2.mono hl⟩
  · by_cases hj : j = i
    · subst hj
      rw [List.getElem?_set_self hi] at e2; cases e2
      exact ⟨p, us, e1, upd_same, r.mono hl, nf, nd⟩
    · rw [List.getElem?_set_ne (Ne.symm hj)] at e2
      obtain ⟨q, ws, a1, a2, a3, a4, a5⟩ := es.ow j zs e2
      have : q ≠ p := fun z => hj (es.inj j i zs xs p e2 e0 (z ▸ a1) e1)
      exact ⟨q, ws, a1, by rw [upd_ne this]; exact a2, a3.mono hl, a4, a5⟩
  · have own : ∀ (j : Nat) zs, (env.set i (.ow ys))[j]? = some (.ow zs) → ∃ zs', env[j]? = some (.ow zs') := fun j zs e2 => by
      by_cases hj : j = i
      · subst hj; exact ⟨_, e0⟩
      · rw [List.getElem?_set_ne (Ne.symm hj)] at e2; exact ⟨_, e2⟩
    obtain ⟨_, o1⟩ := own j _ e2
    obtain ⟨_, o2⟩ := own k _ e3
    exact es.inj j k _ _ q o1 o2 e4 e5
  · have m4 := fs.st
    exact m4.updN hbp
  · by_cases hj : j = i
    · subst hj; exact fs.fr j xs q e0 e3
    · rw [List.getElem?_set_ne (Ne.symm hj)] at e2; exact fs.fr j zs q e2 e3
theorem FS.frz (fs : FS c Fb Hb env d F σ H) {i : Nat} {xs : List SG.D} (e0 : env[i]? = some (.ow xs)) (e : env.put i (.sh (.lst xs)) = some env') : ∃ F', FS c Fb Hb env' d F' σ H ∧ Le F H F' H := by
  have es := fs.es
  obtain ⟨p, vs, e1, hp, r, nf, nd⟩ := es.ow i xs e0
  have hbp := fs.fr i xs p e0 e1
  have hl : Le F H (addF F p) H := le_add
  have w1 : Wf c (addF F p) H d := es.wf.frz hp nd
  unfold Env.put at e
  split at e <;> cases e
  rename_i hi
  refine ⟨addF F p, ⟨⟨w1, by simpa using es.len, fun j y e2 => ?_, fun j zs e2 => ?_, fun j k xs' ys' q e2 e3 e4 e5 => ?_⟩, ?_, fun j zs q e2 e3 => ?_⟩, hl⟩
  · by_cases hj : j = i
    · subst hj; rw [List.getElem?_set_self hi] at e2; cases e2
      exact ⟨.ref p, e1, .lst (.inr rfl) hp (r.mono hl)⟩
    · rw [List.getElem?_set_ne (Ne.symm hj)] at e2
      obtain ⟨v, a1, a2⟩ := es.sh j y e2
      exact ⟨v, a1, a2.mono hl⟩
  · by_cases hj : j = i
    · subst hj; rw [List.getElem?_set_self hi] at e2; cases e2
    · rw [List.getElem?_set_ne (Ne.symm hj)] at e2
      obtain ⟨q, ws, a1, a2, a3, a4, a5⟩ := es.ow j zs e2
      refine ⟨q, ws, a1, a2, a3.mono hl, fun z => z.elim a4 fun z => ?_, a5⟩
      exact hj (es.inj j i zs xs p e2 e0 (z ▸ a1) e1)
  · have hj : j ≠ i := fun z => by subst z; rw [List.getElem?_set_self hi] at e2; cases e2
    have hk : k ≠ i := fun z => by subst z; rw [List.getElem?_set_self hi] at e3; cases e3
    rw [List.getElem?_set_ne (Ne.symm hj)] at e2
    rw [List.getElem?_set_ne (Ne.symm hk)] at e3
    exact es.inj j k _ _ q e2 e3 e4 e5
  · exact fs.st.frz hbp
  · have hj : j ≠ i := fun z => by subst z; rw [List.getElem?_set_self hi] at e2; cases e2
    rw [List.getElem?_set_ne (Ne.symm hj)] at e2
    exact fs.fr j zs q e2 e3
theorem FS.fst (fs : FS c Fb Hb env d F σ H) {a dx : Addr} {gs gs' : List (Str × V)} {t : SG.D × SG.D × SG.D} (fa : F a) (ha : H a = some (.ins c.dk dx gs)) (hk : DkOk c F (upd H a (.ins c.dk dx gs')) ⟨d.a, d.b, some t⟩ gs') : FS c Fb Hb env ⟨d.a, d.b, some t⟩ F σ (upd H a (.ins c.dk dx gs')) ∧ Le F H F (upd H a (.ins c.dk dx gs')) := by
  have es := fs.es
  have w := es.wf
  have nI : ∀ b o, H b = some o → (∀ C dx fs, o ≠ .ins C dx fs) → b ≠ a := fun b o e n z => by subst z; rw [ha] at e; cases e; exact n _ _ _ rfl
  have hl : Le F H F (upd H a (.ins c.dk dx gs')) := ⟨fun _ h => h, fun b xs _ e => by rw [upd_ne (nI b _ e (by intro _ _ _ z; cases z))]; exact e, fun b xs e => by rw [upd_ne (nI b _ e (by intro _ _ _ z; cases z))]; exact e, fun b φ e => by rw [upd_ne (nI b _ e (by intro _ _ _ z; cases z))]; exact e, fun b C dx' fs' f e => by
    by_cases z : b = a
    · subst z; rw [ha] at e; cases e; exact ⟨gs', upd_same⟩
    · exact ⟨fs', by rw [upd_ne z]; exact e⟩⟩
  have w' : Wf c F (upd H a (.ins c.dk dx gs')) ⟨d.a, d.b, some t⟩ := by
    refine ⟨fun b f => ?_, w.nd, by rw [upd_ne (nI _ _ w.die (by intro _ _ _ z; cases z))]; exact w.die, tabs_ext' w.tabs fun b o e n => ?_, fun b C dx' fs' f e => ?_, fun b b' C dx' fs' C' dx'' fs'' f e f' e' => ?_⟩
    · by_cases z : b = a
      · subst z; exact .inr ⟨dx, gs', upd_same⟩
      · rw [upd_ne z]; exact w.dom b f
    · rw [upd_ne (nI b o e n)]; exact e
    · by_cases z : b = a
      · subst z; rw [upd_same] at e; cases e; exact hk
      · rw [upd_ne z] at e
        exact absurd (w.one b a _ _ _ _ _ _ f e fa ha) z
    · have back : ∀ b C dx' fs', F b → upd H a (.ins c.dk dx gs') b = some (.ins C dx' fs') → ∃ C dx' fs', H b = some (.ins C dx' fs') := fun b C dx' fs' f e => by
        by_cases z : b = a
        · subst z; exact ⟨_, _, _, ha⟩
        · rw [upd_ne z] at e; exact ⟨_, _, _, e⟩
      obtain ⟨_, _, _, e1⟩ := back b C dx' fs' f e
      obtain ⟨_, _, _, e2⟩ := back b' C' dx'' fs'' f' e'
      exact w.one b b' _ _ _ _ _ _ f e1 f' e2
  have st := fs.st
  have hst : Step c Fb Hb F (upd H a (.ins c.dk dx gs')) := by
    refine ⟨st.sub, st.new, fun b o e n t => ?_, fun b C dx' fs' n e nf => ?_, fun b C dx' fs' f e => ?_⟩
    · have e' := st.keep b o e n t
      rw [upd_ne (nI b o e' t.nins)]; exact e'
    · have : b ≠ a := fun z => by
        subst z
        rcases st.new b fa with q | q | q
        · exact nf q
        · exact q.notI e
        · exact n q
      rw [upd_ne this]; exact st.insN b C dx' fs' n e nf
    · obtain ⟨fs2, e2⟩ := st.insF b C dx' fs' f e
      by_cases z : b = a
      · subst z; rw [ha] at e2; cases e2; exact ⟨gs', upd_same⟩
      · exact ⟨fs2, by rw [upd_ne z]; exact e2⟩
  refine ⟨⟨⟨w', es.len, fun i x e => ?_, fun i xs e => ?_, es.inj⟩, hst, fs.fr⟩, hl⟩
  · obtain ⟨v, e1, q⟩ := es.sh i x e
    exact ⟨v, e1, q.mono hl⟩
  · obtain ⟨p, vs, e1, h, r, nf, nd⟩ := es.ow i xs e
    exact ⟨p, vs, e1, by rw [upd_ne (nI p _ h (by intro _ _ _ z; cases z))]; exact h, r.mono hl, nf, nd⟩
end
end SG
namespace SG
open PySem PySem.Spec PyProof.Rows L2
structure RaiseF (cl : Nat → Addr) (K : PySem.W.Frag) (mg : Str → Option Value) (j : Nat) (nm : Str) : Prop where
  ex : PySem.W.excIn K (cl j) [.type "ValueError", .type "Exception", .type "BaseException", .type "object"] "ValueError.__new__" = true
  mg : mg nm = some (.ref (cl j))
  kp : PySem.W.keepIn K (.ref (cl j)) = true
  sb : PySem.W.subIn K (.ref (cl j)) (.type "BaseException") = some true
  ty : PySem.W.typeIn K (.ref (cl j)) = some (.type "type")
  db : (nm == ("__debug__" : Str)) = false
structure GF (c : Cn) (ck : Ck) (cf : CF) (k : Nat) (X : Cx) (W : WX) : Prop where
  G : Good c ck cf k X
  kind : X.env.scope.kind = .function
  tg : TgOk X X.env.scope
  tk : L2N.Takes X W
  hp : PassesOwn (model X.prog X.w) X.A X.env X.xe
  cls : ∀ j nm, ck.er j = some nm → RaiseF c.cl X.K X.mg j nm
def SndS (c : Cn) (Fb : Addr → Prop) (Hb : Hp) (cf : CF) (X : Cx) (W : WX) (s : S) : SSyn → Prop
  | .one st => PS X st (tS c Fb Hb cf W s)
  | .many l => PSs X l (tS c Fb Hb cf W s)
section
variable {c : Cn} {ck : Ck} {cf : CF} {k : Nat} {X : Cx} {W : WX} {Fb : Addr → Prop} {Hb : Hp}
theorem sw_eq {v tg : Expr} {l : Nat} (hk : X.env.scope.kind = .function) (hn : noSD v = true) : swapsWith v (some tg) l X.env = pure (swB X.env.scope v tg) := by
  have hb : X.env.blockKind = .function := by unfold PySem.Env.blockKind; rw [hk]; rfl
  cases v <;> first | rfl | (simp [noSD] at hn; done) | skip
  cases tg <;> first | rfl | skip
  unfold swapsWith
  simp only [hb]
  show pure _ = pure _
  congr 1
theorem fm_short {α β : Type} {f : α → Option β} : ∀ {l : List α}, (∃ x ∈ l, f x = none) → (l.filterMap f).length < l.length
  | [], ⟨_, h, _⟩ => by cases h
  | x :: r, ⟨y, hy, e⟩ => by
    cases hx : f x with
    | none =>
      rw [List.filterMap_cons_none hx]
      have := List.length_filterMap_le f r
      simp; omega
    | some z =>
      rw [List.filterMap_cons_some hx]
      have hm : y ∈ r := by
        rcases List.mem_cons.mp hy with q | q
        · subst q; rw [hx] at e; cases e
        · exact q
      have := fm_short ⟨y, hm, e⟩
      simpa using this
theorem swN_eq {v tg : Expr} (h : swN X.env.scope tg v = true) : swappedStores [tg] v X.env = pure none := by
  cases tg <;> first | (simp [swN] at h; done) | (cases v <;> rfl) | skip
  cases v <;> first | rfl | skip
  rename_i ts _ _ vs _ _
  simp only [swN] at h
  unfold swappedStores
  dsimp only
  by_cases h0 : (!(ts.length == 2 || ts.length == 3) || vs.length != ts.length || X.env.blockKind != .function) = true
  · simp only [h0, if_true]
  · have h2 : (ts.any fun t => match t with | .Name x _ => !(X.env.scope.names.lookup x == some .local) | _ => true) = true := by
      rcases Bool.or_eq_true_iff.mp h with z | z
      · simp [z] at h0
      · exact z
    obtain ⟨t, ht, hb⟩ := List.any_eq_true.mp h2
    have hlt := fm_short (f := fun e => match e with
        | .Name id pos => if (X.env.kindOf id == some .local && pos.line == ((ts.head?.map (·.pos.line)).getD 0)) = true then some id else none
        | _ => none) (l := ts) ⟨t, ht, by
      cases t <;> first | rfl | skip
      rename_i x p
      have hx : (X.env.kindOf x == some .local) = false := by
        show (X.env.scope.names.lookup x == some .local) = false
        simpa using hb
      simp [hx]⟩
    have hne : ((ts.filterMap fun e => match e with
        | .Name id pos => if (X.env.kindOf id == some .local && pos.line == ((ts.head?.map (·.pos.line)).getD 0)) = true then some id else none
        | _ => none).length != ts.length) = true := by simp only [bne_iff_ne]; omega
    rw [if_neg h0]
    split
    · rfl
    · exact if_pos (Bool.or_eq_true_iff.mpr (.inl hne))
theorem asgE_one {tg : Expr} {env : PySem.Env} (h : notStar tg = true) : (assignEach [tg] env).map (·.2) = [assign tg env] := by
  cases tg <;> first | rfl | (simp [notStar] at h)
theorem lc_parts {elt tg it : E} {own : List Nat} {x : Expr} (G : Good c ck cf k X) (tk : L2N.Takes X W) (h : chk ck (.lc elt tg it own) X.env.scope (.ex x) = true) :
    ∃ el tg' it' scope p, x = .ListComp el [⟨tg', it', [], 0⟩] scope p ∧ PI X tg' it' (tI c cf W it) ∧ BlkOk X.N X.env.scope scope (ownP ck.N own) ∧
      (∀ (s : Shared) (H : Hp) (C : Addr) (cl : List (Str × Addr)) (fp : List Addr), PG (X.blk s H scope (compEnvC scope cl C X.env) fp) tg' (gT c tg)) ∧
      (∀ (s : Shared) (H : Hp) (C : Addr) (cl : List (Str × Addr)) (fp : List Addr), PE (X.blk s H scope (compEnvC scope cl C X.env) fp) el (tE c cf W0 elt)) ∧
      (∀ x, foldedSetIterable it' X.env x = pure x) ∧
      ∀ σ H Q, tE c cf W (.lc elt tg it own) σ H Q → tLc (tI c cf W it) (gT c tg) tYes (tE c cf W0 elt) ((ownP ck.N own).map (·.2)) σ H Q := by
  cases x <;> try (simp [chk] at h; done)
  rename_i el gs scope p
  simp only [chk] at h
  split at h
  · rename_i z
    cases z
    simp only [Bool.and_eq_true] at h
    obtain ⟨⟨⟨⟨⟨⟨⟨h1, h2⟩, h3⟩, h4⟩, h5⟩, h6⟩, h7⟩, h8⟩ := h
    have e1 := of_decide_eq_true h1
    have hs : ∀ j ∈ tgSl tg, j ∈ own := fun j hj => by simpa using List.all_eq_true.mp h5 j hj
    refine ⟨_, _, _, _, _, rfl, pi_of (sound it G tk) h6 h3, by rw [G.N]; exact blkOk_by h2, (fun s H C cl fp => (sound_tg G.blk (W := W0)).1 _ h7 tgOk_blk), (fun s H C cl fp => (sound elt (X := X.blk s H _ (compEnvC _ cl C X.env) fp) (W := W0) G.blk takes0 (.ex _) h8).1), fold_of h4, fun σ H Q ⟨env, d, F, es, q⟩ => ?_⟩
    simp only [ev] at q
    refine ⟨env, d, F, es, q.bind.imp fun x d1 F1 H1 st w q1 => ?_⟩
    split at q1
    · exact q1.elim
    · rename_i l hl
      split at q1
      · rename_i hlim
        refine ⟨l, hl, fun J itok D hD => ?_⟩
        rw [e1]
        exact lc_reading (es.step st w) itok turn_plain hD hlim hs q1
      · exact q1.elim
  · cases h
theorem lcif_parts {elt tg it cd : E} {own : List Nat} {x : Expr} (G : Good c ck cf k X) (tk : L2N.Takes X W) (h : chk ck (.lcif elt tg it cd own) X.env.scope (.ex x) = true) :
    ∃ el tg' it' cd' scope p, x = .ListComp el [⟨tg', it', [cd'], 0⟩] scope p ∧ PI X tg' it' (tI c cf W it) ∧ BlkOk X.N X.env.scope scope (ownP ck.N own) ∧
      (∀ (s : Shared) (H : Hp) (C : Addr) (cl : List (Str × Addr)) (fp : List Addr), PG (X.blk s H scope (compEnvC scope cl C X.env) fp) tg' (gT c tg)) ∧
      (∀ (s : Shared) (H : Hp) (C : Addr) (cl : List (Str × Addr)) (fp : List Addr), PTs (X.blk s H scope (compEnvC scope cl C X.env) fp) [cd'] (tT c cf W0 cd)) ∧
      (∀ (s : Shared) (H : Hp) (C : Addr) (cl : List (Str × Addr)) (fp : List Addr), PE (X.blk s H scope (compEnvC scope cl C X.env) fp) el (tE c cf W0 elt)) ∧
      (∀ x, foldedSetIterable it' X.env x = pure x) ∧
      ∀ σ H Q, tE c cf W (.lcif elt tg it cd own) σ H Q → tLc (tI c cf W it) (gT c tg) (tT c cf W0 cd) (tE c cf W0 elt) ((ownP ck.N own).map (·.2)) σ H Q := by
  cases x <;> try (simp [chk] at h; done)
  rename_i el gs scope p
  simp only [chk] at h
  split at h
  · rename_i z
    cases z
    simp only [Bool.and_eq_true] at h
    obtain ⟨⟨⟨⟨⟨⟨⟨⟨h1, h2⟩, h3⟩, h4⟩, h5⟩, h6⟩, h7⟩, h9⟩, h8⟩ := h
    have e1 := of_decide_eq_true h1
    have hs : ∀ j ∈ tgSl tg, j ∈ own := fun j hj => by simpa using List.all_eq_true.mp h5 j hj
    refine ⟨_, _, _, _, _, _, rfl, pi_of (sound it G tk) h6 h3, by rw [G.N]; exact blkOk_by h2, (fun s H C cl fp => (sound_tg G.blk (W := W0)).1 _ h7 tgOk_blk), (fun s H C cl fp => pts_one (sound cd (X := X.blk s H _ (compEnvC _ cl C X.env) fp) (W := W0) G.blk takes0 (.ex _) h9).2), (fun s H C cl fp => (sound elt (X := X.blk s H _ (compEnvC _ cl C X.env) fp) (W := W0) G.blk takes0 (.ex _) h8).1), fold_of h4, fun σ H Q ⟨env, d, F, es, q⟩ => ?_⟩
    simp only [ev] at q
    refine ⟨env, d, F, es, q.bind.imp fun x d1 F1 H1 st w q1 => ?_⟩
    split at q1
    · exact q1.elim
    · rename_i l hl
      split at q1
      · rename_i hlim
        refine ⟨l, hl, fun J itok D hD => ?_⟩
        rw [e1]
        exact lc_reading (es.step st w) itok turn_if hD hlim hs q1
      · exact q1.elim
  · cases h
theorem lc2_parts {elt tg1 it1 tg2 it2 : E} {own own2 : List Nat} {x : Expr} (G : Good c ck cf k X) (tk : L2N.Takes X W) (h : chk ck (.lc2 elt tg1 it1 tg2 it2 own own2) X.env.scope (.ex x) = true) :
    ∃ el tg1' it1' tg2' it2' scope p, x = .ListComp el [⟨tg1', it1', [], 0⟩, ⟨tg2', it2', [], 0⟩] scope p ∧ PI X tg1' it1' (tI c cf W it1) ∧ BlkOk X.N X.env.scope scope (ownP ck.N own) ∧ (∀ j ∈ own2, j ∈ (ownP ck.N own).map (·.2)) ∧
      (∀ (s : Shared) (H : Hp) (C : Addr) (cl : List (Str × Addr)) (fp : List Addr), PG (X.blk s H scope (compEnvC scope cl C X.env) fp) tg1' (gT c tg1)) ∧
      (∀ (s : Shared) (H : Hp) (C : Addr) (cl : List (Str × Addr)) (fp : List Addr), PI (X.blk s H scope (compEnvC scope cl C X.env) fp) tg2' it2' (tI c cf W0 it2)) ∧
      (∀ (s : Shared) (H : Hp) (C : Addr) (cl : List (Str × Addr)) (fp : List Addr), PG (X.blk s H scope (compEnvC scope cl C X.env) fp) tg2' (gT c tg2)) ∧
      (∀ (s : Shared) (H : Hp) (C : Addr) (cl : List (Str × Addr)) (fp : List Addr), PE (X.blk s H scope (compEnvC scope cl C X.env) fp) el (tE c cf W0 elt)) ∧
      (∀ x, foldedSetIterable it1' X.env x = pure x) ∧ (∀ env x, foldedSetIterable it2' env x = pure x) ∧
      ∀ σ H Q, tE c cf W (.lc2 elt tg1 it1 tg2 it2 own own2) σ H Q → tLc2 (tI c cf W it1) (gT c tg1) tYes (tI c cf W0 it2) (gT c tg2) tYes (tE c cf W0 elt) ((ownP ck.N own).map (·.2)) own2 σ H Q := by
  cases x <;> try (simp [chk] at h; done)
  rename_i el gs scope p
  simp only [chk] at h
  split at h
  · rename_i z
    cases z
    simp only [Bool.and_eq_true] at h
    obtain ⟨⟨⟨⟨⟨⟨⟨⟨⟨⟨⟨⟨⟨⟨h1, h2⟩, h3⟩, h4⟩, h5⟩, h3'⟩, h4'⟩, h5'⟩, h9⟩, h6⟩, h7⟩, h6'⟩, h7'⟩, h10⟩, h8⟩ := h
    have e1 := of_decide_eq_true h1
    have hs : ∀ j ∈ tgSl tg1, j ∈ own := fun j hj => by simpa using List.all_eq_true.mp h5 j hj
    have hs2 : ∀ j ∈ tgSl tg2, j ∈ own2 := fun j hj => by simpa using List.all_eq_true.mp h5' j hj
    have hv : ∀ j ∈ own2, j ∈ (ownP ck.N own).map (·.2) := fun j hj => by rw [e1]; simpa using List.all_eq_true.mp h9 j hj
    refine ⟨_, _, _, _, _, _, _, rfl, pi_of (sound it1 G tk) h6 h3, by rw [G.N]; exact blkOk_by h2, hv, (fun s H C cl fp => (sound_tg G.blk (W := W0)).1 _ h7 tgOk_blk), (fun s H C cl fp => pi_of (sound it2 (X := X.blk s H _ (compEnvC _ cl C X.env) fp) (W := W0) G.blk takes0) h6' h3'), (fun s H C cl fp => (sound_tg G.blk (W := W0)).1 _ h7' tgOk_blk), (fun s H C cl fp => (sound elt (X := X.blk s H _ (compEnvC _ cl C X.env) fp) (W := W0) G.blk takes0 (.ex _) h8).1), fold_of h4, (fun env => fold_of h4'), fun σ H Q ⟨env, d, F, es, q⟩ => ?_⟩
    simp only [ev] at q
    refine ⟨env, d, F, es, q.bind.imp fun x d1 F1 H1 st w q1 => ?_⟩
    split at q1
    · exact q1.elim
    · rename_i l hl
      split at q1
      · rename_i hlim
        refine ⟨l, hl, fun J itok D hD => ?_⟩
        rw [e1]
        exact lc2_reading (es.step st w) itok hD hlim hs hs2 q1
      · exact q1.elim
  · cases h
theorem set_go {tg e : E} {D : Ends} {σ : L2.St} {H : Hp} (h : tS c Fb Hb cf W (.set tg e) D σ H) : tAsg (tE c cf W e) (gT c tg) D σ H := by
  obtain ⟨env, d, F, fs, so⟩ := h
  simp only [evS] at so
  refine ⟨env, d, F, fs.es, (so.out fs).imp fun x d1 F1 H1 st w so1 v dq => ?_⟩
  obtain ⟨env', ea, so2⟩ := so1.ofE
  have fs1 := fs.step st w
  exact ⟨env, d1, F1, x, fs1.es, dq, env', ea, fun σ' es' sm => so2 σ' H1 F1 .refl (fs1.asg ea es' sm)⟩
theorem gT_name {i : Nat} {v : V} {σ : L2.St} {H : Hp} {Q : L2.St → Hp → Prop} (h : gT c (.var i) v σ H Q) : gName i v σ H Q := by
  obtain ⟨env, d, F, x, es, dq, env', e, q⟩ := h
  simp only [asg] at e
  refine q _ (es.put dq e) ?_
  have := es.sameOut (v := v) e
  exact ⟨this.1, fun j hj => this.2 j (by simpa [tgSl] using hj)⟩
theorem st_set {tg e : E} {y : SSyn} (g : GF c ck cf k X W) (h : chkS ck X.env.scope (.set tg e) y = true) : SndS c Fb Hb cf X W (.set tg e) y := by
  simp only [chkS] at h
  split at h
  · simp only [Bool.and_eq_true] at h
    obtain ⟨⟨⟨⟨⟨h1, h2⟩, h3⟩, h4⟩, h5⟩, h6⟩ := h
    rename_i tg' v pos
    have ptg := (sound_tg g.G (W := W)).1 _ h4 g.tg
    cases hb : swB X.env.scope v tg' with
    | false => exact PS.imp (ps_asg (sound e g.G g.tk _ h5).1 ptg (by show swapsWith v (some tg') _ _ = _; rw [sw_eq g.kind h2, hb]) (swN_eq h3) (asgE_one h1)) fun D σ H h => set_go h
    | true =>
      rw [hb] at h6
      simp only [Bool.not_true, Bool.false_or, Bool.and_eq_true] at h6
      have hsw := sw_eq (X := X) (v := v) (tg := tg') (l := pos.line) g.kind h2
      rw [hb] at hsw
      cases v <;> try (simp [swB] at hb; done)
      cases tg' <;> try (simp [swB] at hb; done)
      rename_i el gs scope p yn py
      have hyl : X.env.scope.names.lookup yn = some .local := by
        simp only [swB, Bool.and_eq_true] at hb
        simpa using hb.1.1
      cases tg <;> try (simp [vOf] at h6; done)
      rename_i i
      have hi : X.N[i]? = some yn := by
        simp only [chk, Bool.and_eq_true] at h4
        rw [g.G.N]; exact of_decide_eq_true h4.1
      cases e <;> try (simp [isLcE] at h6; done)
      · obtain ⟨el', tg', it', scope', p', e1, a1, a2, a3, a4, a5, a6⟩ := lc_parts g.G g.tk h5
        cases e1
        exact PS.imp (ps_setLc g.G.calm (by rw [g.G.N]; exact g.G.nd) hi hyl hsw a1 a2 a3 (fun s H C cl fp => pts_nil) a4 a5) fun D σ H h => a6 _ _ _ (by
          obtain ⟨env, d, F, es, q⟩ := set_go h
          exact ⟨env, d, F, es, q.imp fun x d1 F1 H1 st w q1 v dq => gT_name (q1 v dq)⟩)
      · obtain ⟨el', tg', it', cd', scope', p', e1, a1, a2, a3, a7, a4, a5, a6⟩ := lcif_parts g.G g.tk h5
        cases e1
        exact PS.imp (ps_setLc g.G.calm (by rw [g.G.N]; exact g.G.nd) hi hyl hsw a1 a2 a3 a7 a4 a5) fun D σ H h => a6 _ _ _ (by
          obtain ⟨env, d, F, es, q⟩ := set_go h
          exact ⟨env, d, F, es, q.imp fun x d1 F1 H1 st w q1 v dq => gT_name (q1 v dq)⟩)
      · obtain ⟨el', tg1', it1', tg2', it2', scope', p', e1, a1, a2, av, a3, a4, a5, a6, a7, a8, a9⟩ := lc2_parts g.G g.tk h5
        cases e1
        exact PS.imp (ps_setLc2 g.G.calm (by rw [g.G.N]; exact g.G.nd) hi hyl hsw a1 a2 av a3 (fun s H C cl fp => pts_nil) a4 a5 (fun s H C cl fp => pts_nil) a6 a7 a8) fun D σ H h => a9 _ _ _ (by
          obtain ⟨env, d, F, es, q⟩ := set_go h
          exact ⟨env, d, F, es, q.imp fun x d1 F1 H1 st w q1 v dq => gT_name (q1 v dq)⟩)
  · cases h
theorem st_own {i : Nat} {y : SSyn} (g : GF c ck cf k X W) (h : chkS ck X.env.scope (.own i) y = true) : SndS c Fb Hb cf X W (.own i) y := by
  simp only [chkS] at h
  split at h
  · simp only [Bool.and_eq_true] at h
    obtain ⟨h1, h2⟩ := h
    have hi := of_decide_eq_true h1
    refine PS.imp (ps_set (i := i) (by rw [g.G.N]; exact g.G.nd) (by rw [g.G.N]; exact hi) (g.tg _ h2).1 (pe_lst pa_nil) rfl (g.tg _ h2).2) fun D σ H ⟨env, d, F, fs, so⟩ => ?_
    simp only [evS] at so
    obtain ⟨env', e, so⟩ := so.ofE
    refine ⟨by decide, fun p hp => so _ _ F (le_new hp) (fs.putO hp e)⟩
  · cases h
theorem par_sw {x y : Str} {px py pt pt2 : Pos} {kt k2 : Nat} {a b : Expr} (hk : X.env.scope.kind = .function) (h : parC X.env.scope x y px py a b = true) : swappedStores [.Tuple [.Name x px, .Name y py] kt pt] (.Tuple [a, b] k2 pt2) X.env = pure (some [x, y]) := by
  unfold parC at h
  simp only [Bool.and_eq_true] at h
  obtain ⟨⟨⟨⟨⟨⟨⟨h1, h2⟩, h3⟩, h4⟩, h5⟩, h6⟩, h7⟩, h8⟩ := h
  have n := of_decide_eq_true h1
  have l1 := of_decide_eq_true h2
  have l2 := of_decide_eq_true h3
  have hb : X.env.blockKind = .function := by unfold PySem.Env.blockKind; rw [hk]; rfl
  have k1 : X.env.kindOf x = some .local := l1
  have k2 : X.env.kindOf y = some .local := l2
  have ex : ([x, y] : List Str).eraseDups.length = 2 := by
    have : (y == x) = false := by simpa using Ne.symm n
    simp [List.eraseDups_cons, this]
  have f1 : ([a, b].all (foldedForSure 8)) = false := by cases e1 : foldedForSure 8 a <;> cases e2 : foldedForSure 8 b <;> simp_all
  have f2 : ([a, b].all (constantsAlone 8)) = false := by cases e1 : constantsAlone 8 a <;> cases e2 : constantsAlone 8 b <;> simp_all
  unfold swappedStores
  simp only [hb, List.any_cons, List.any_nil, List.filterMap_cons, k1, k2, List.head?_cons, Option.map_some, Option.getD_some, Expr.pos, h4, List.filterMap_nil, f1, f2]
  simp [ex]
  intro h
  exfalso
  rcases h with h | h
  · cases a <;> first | (simp [notStar] at h5; done) | (simp at h)
  · cases b <;> first | (simp [notStar] at h6; done) | (simp at h)
theorem st_par {i j : Nat} {a b : E} {y : SSyn} (g : GF c ck cf k X W) (h : chkS ck X.env.scope (.par i j a b) y = true) : SndS c Fb Hb cf X W (.par i j a b) y := by
  simp only [chkS] at h
  split at h
  · simp only [Bool.and_eq_true] at h
    obtain ⟨⟨⟨⟨h1, h2⟩, h3⟩, h4⟩, h5⟩ := h
    have hi := of_decide_eq_true h1
    have hj := of_decide_eq_true h2
    rename_i x px y' py _ _ u v _ _ _
    have h3' := h3
    unfold parC at h3'
    simp only [Bool.and_eq_true] at h3'
    obtain ⟨⟨⟨⟨⟨⟨⟨n1, n2⟩, n3⟩, n4⟩, n5⟩, n6⟩, n7⟩, n8⟩ := h3'
    have hn := of_decide_eq_true n1
    have hij : i ≠ j := fun z => by subst z; rw [hi] at hj; cases hj; exact hn rfl
    refine PS.imp (ps_par g.G.calm (by rw [g.G.N]; exact g.G.nd) (by rw [g.G.N]; exact hi) (by rw [g.G.N]; exact hj) hij (of_decide_eq_true n2) (of_decide_eq_true n3) (pa_cons (sound a g.G g.tk _ h4).1 (pa_cons (sound b g.G g.tk _ h5).1 pa_nil (star1 n6)) (star1 n5)) (par_sw g.kind h3) rfl) fun D σ H ⟨env, d, F, fs, so⟩ => ?_
    simp only [evS] at so
    refine ⟨env, d, F, fs.es, (so.out fs).imp fun x d1 F1 H1 st w so1 v dq => ?_⟩
    have fs1 := fs.step st w
    refine ⟨env, d1, F1, fs1.es, (so1.out fs1).imp fun y d2 F2 H2 st2 w2 so2 u dq2 => ⟨_, _, rfl, ?_⟩⟩
    have fs2 := fs1.step st2 w2
    obtain ⟨env2, e2, so3⟩ := so2.ofE
    cases e1 : env.put i (.sh x) with
    | none => rw [e1] at e2; cases e2
    | some env1 =>
      rw [e1] at e2
      have fa := fs2.put (dq.mono (st2.le w)) e1
      exact so3 _ H2 F2 .refl (fa.put dq2 e2)
  · cases h
theorem st_parO {i j : Nat} {a : E} {y : SSyn} (g : GF c ck cf k X W) (h : chkS ck X.env.scope (.parO i j a) y = true) : SndS c Fb Hb cf X W (.parO i j a) y := by
  simp only [chkS] at h
  split at h
  · simp only [Bool.and_eq_true, Bool.or_eq_true] at h
    obtain ⟨⟨⟨h1, h2⟩, h3⟩, h4⟩ := h
    have hi := of_decide_eq_true h1
    have hj := of_decide_eq_true h2
    rename_i x px y' py k1 p1 u lp k2 p2 pos
    rcases h3 with h3 | h3
    · have h3' := h3
      unfold parC at h3'
      simp only [Bool.and_eq_true] at h3'
      obtain ⟨⟨⟨⟨⟨⟨⟨n1, n2⟩, n3⟩, n4⟩, n5⟩, n6⟩, n7⟩, n8⟩ := h3'
      have hn := of_decide_eq_true n1
      have hij : i ≠ j := fun z => by subst z; rw [hi] at hj; cases hj; exact hn rfl
      refine PS.imp (ps_par g.G.calm (by rw [g.G.N]; exact g.G.nd) (by rw [g.G.N]; exact hi) (by rw [g.G.N]; exact hj) hij (of_decide_eq_true n2) (of_decide_eq_true n3) (pa_cons (sound a g.G g.tk _ h4).1 (pa_cons (pe_lst pa_nil) pa_nil (star1 n6)) (star1 n5)) (par_sw g.kind h3) rfl) fun D σ H ⟨env, d, F, fs, so⟩ => ?_
      simp only [evS] at so
      refine ⟨env, d, F, fs.es, (so.out fs).imp fun x d1 F1 H1 st w so1 v dq => ?_⟩
      have fs1 := fs.step st w
      refine ⟨by decide, fun p hp => ⟨_, _, rfl, ?_⟩⟩
      obtain ⟨env2, e2, so3⟩ := so1.ofE
      cases e1 : env.put i (.sh x) with
      | none => rw [e1] at e2; cases e2
      | some env1 =>
        rw [e1] at e2
        have fa := fs1.put dq e1
        exact so3 _ _ F1 (le_new hp) (fa.putO hp e2)
    · unfold parD at h3
      simp only [Bool.and_eq_true] at h3
      obtain ⟨⟨⟨⟨⟨n1, n2⟩, n3⟩, n4⟩, n5⟩, n6⟩ := h3
      have n3' := Bool.not_eq_true' _ |>.mp n3
      refine PS.imp (ps_asg (pe_tup (pa_cons (sound a g.G g.tk _ h4).1 (pa_cons (pe_lst pa_nil) pa_nil rfl) (star1 n6))) (pg_tup (n := 2) g.G.calm (pgs_cons (pg_name (i := i) (by rw [g.G.N]; exact g.G.nd) (by rw [g.G.N]; exact hi) (g.tg _ n4).1 (g.tg _ n4).2) (pgs_cons (pg_name (i := j) (by rw [g.G.N]; exact g.G.nd) (by rw [g.G.N]; exact hj) (g.tg _ n5).1 (g.tg _ n5).2) pgs_nil))) ((sw_eq (X := X) (v := .Tuple [u, .List [] lp] k2 p2) (tg := .Tuple [.Name x px, .Name y' py] k1 p1) (l := pos.line) g.kind n2).trans (by rw [n3'])) (swN_eq n1) rfl) fun D σ H ⟨env, d, F, fs, so⟩ => ?_
      simp only [evS] at so
      refine ⟨env, d, F, fs.es, (so.out fs).imp fun x d1 F1 H1 st w so1 v dq => ?_⟩
      have fs1 := fs.step st w
      refine ⟨by decide, fun p hp => ⟨(show 2 ≤ sizeLine by decide), fun q hq => ⟨q, _, rfl, .inl (.inl upd_same), rfl, _, _, rfl, _, _, rfl, rfl, ?_⟩⟩⟩
      obtain ⟨env2, e2, so3⟩ := so1.ofE
      cases e1 : env.put i (.sh x) with
      | none => rw [e1] at e2; cases e2
      | some env1 =>
        rw [e1] at e2
        have fa := fs1.put dq e1
        have fb := fa.putO hp e2
        exact so3 _ _ F1 ((le_new hp).trans (le_new hq)) (fb.step (.new' hq) (fb.es.wf.new' hq))
  · cases h
theorem par3_sw {x y z : Str} {px py pz pt pt2 : Pos} {kt k2 : Nat} {a b d : Expr} (hk : X.env.scope.kind = .function) (h : par3C X.env.scope x y z px py pz a b d = true) : swappedStores [.Tuple [.Name x px, .Name y py, .Name z pz] kt pt] (.Tuple [a, b, d] k2 pt2) X.env = pure (some [x, y, z]) := by
  unfold par3C at h
  simp only [Bool.and_eq_true] at h
  obtain ⟨⟨⟨⟨⟨⟨⟨⟨⟨⟨⟨⟨h1, h2⟩, h3⟩, h4⟩, h5⟩, h6⟩, h7⟩, h8⟩, h9⟩, h10⟩, h11⟩, h12⟩, h13⟩ := h
  have n1 := of_decide_eq_true h1
  have n2 := of_decide_eq_true h2
  have n3 := of_decide_eq_true h3
  have hb : X.env.blockKind = .function := by unfold PySem.Env.blockKind; rw [hk]; rfl
  have k1 : X.env.kindOf x = some .local := of_decide_eq_true h4
  have k2 : X.env.kindOf y = some .local := of_decide_eq_true h5
  have k3 : X.env.kindOf z = some .local := of_decide_eq_true h6
  have ex : ([x, y, z] : List Str).eraseDups.length = 3 := by
    have e1 : (y == x) = false := by simpa using Ne.symm n1
    have e2 : (z == x) = false := by simpa using Ne.symm n2
    have e3 : (z == y) = false := by simpa using Ne.symm n3
    simp [List.eraseDups_cons, e1, e2, e3]
  have f1 : ([a, b, d].all (foldedForSure 8)) = false := by cases e1 : foldedForSure 8 a <;> cases e2 : foldedForSure 8 b <;> cases e3 : foldedForSure 8 d <;> simp_all
  have f2 : ([a, b, d].all (constantsAlone 8)) = false := by cases e1 : constantsAlone 8 a <;> cases e2 : constantsAlone 8 b <;> cases e3 : constantsAlone 8 d <;> simp_all
  unfold swappedStores
  simp only [hb, List.any_cons, List.any_nil, List.filterMap_cons, k1, k2, k3, List.head?_cons, Option.map_some, Option.getD_some, Expr.pos, h7, h8, List.filterMap_nil, f1, f2]
  simp [ex]
  intro h
  exfalso
  rcases h with h | h | h
  · cases a <;> first | (simp [notStar] at h9; done) | (simp at h)
  · cases b <;> first | (simp [notStar] at h10; done) | (simp at h)
  · cases d <;> first | (simp [notStar] at h11; done) | (simp at h)
theorem st_par3 {i j l : Nat} {a b e : E} {y : SSyn} (g : GF c ck cf k X W) (h : chkS ck X.env.scope (.par3 i j l a b e) y = true) : SndS c Fb Hb cf X W (.par3 i j l a b e) y := by
  simp only [chkS] at h
  split at h
  · simp only [Bool.and_eq_true] at h
    obtain ⟨⟨⟨⟨⟨⟨h1, h2⟩, h3⟩, h4⟩, h5⟩, h6⟩, h7⟩ := h
    have hi := of_decide_eq_true h1
    have hj := of_decide_eq_true h2
    have hl := of_decide_eq_true h3
    have h4' := h4
    unfold par3C at h4'
    simp only [Bool.and_eq_true] at h4'
    obtain ⟨⟨⟨⟨⟨⟨⟨⟨⟨⟨⟨⟨n1, n2⟩, n3⟩, n4⟩, n5⟩, n6⟩, n7⟩, n8⟩, n9⟩, n10⟩, n11⟩, n12⟩, n13⟩ := h4'
    have x1 := of_decide_eq_true n1
    have x2 := of_decide_eq_true n2
    have x3 := of_decide_eq_true n3
    have hij : i ≠ j := fun z => by subst z; rw [hi] at hj; cases hj; exact x1 rfl
    have hil : i ≠ l := fun z => by subst z; rw [hi] at hl; cases hl; exact x2 rfl
    have hjl : j ≠ l := fun z => by subst z; rw [hj] at hl; cases hl; exact x3 rfl
    refine PS.imp (ps_par3 g.G.calm (by rw [g.G.N]; exact g.G.nd) (by rw [g.G.N]; exact hi) (by rw [g.G.N]; exact hj) (by rw [g.G.N]; exact hl) hij hil hjl (of_decide_eq_true n4) (of_decide_eq_true n5) (of_decide_eq_true n6) (pa_cons (sound a g.G g.tk _ h5).1 (pa_cons (sound b g.G g.tk _ h6).1 (pa_cons (sound e g.G g.tk _ h7).1 pa_nil (star1 n11)) (star1 n10)) (star1 n9)) (par3_sw g.kind h4) rfl) fun D σ H ⟨env, d, F, fs, so⟩ => ?_
    simp only [evS] at so
    refine ⟨env, d, F, fs.es, (so.out fs).imp fun x d1 F1 H1 st w so1 v dq => ?_⟩
    have fs1 := fs.step st w
    refine ⟨env, d1, F1, fs1.es, (so1.out fs1).imp fun y d2 F2 H2 st2 w2 so2 u dq2 => ?_⟩
    have fs2 := fs1.step st2 w2
    refine ⟨env, d2, F2, fs2.es, (so2.out fs2).imp fun z d3 F3 H3 st3 w3 so3 u3 dq3 => ⟨_, _, _, rfl, ?_⟩⟩
    have fs3 := fs2.step st3 w3
    obtain ⟨env3, e3, so4⟩ := so3.ofE
    cases e1 : env.put i (.sh x) with
    | none => rw [e1] at e3; cases e3
    | some env1 =>
      rw [e1] at e3
      dsimp only [Option.bind_some] at e3
      cases e2 : env1.put j (.sh y) with
      | none => rw [e2] at e3; cases e3
      | some env2 =>
        rw [e2] at e3
        have fa := fs3.put ((dq.mono (st2.le w)).mono (st3.le w2)) e1
        have fb := fa.put (dq2.mono (st3.le w2)) e2
        exact so4 _ H3 F3 .refl (fb.put dq3 e3)
  · cases h
theorem st_app {i : Nat} {e : E} {y : SSyn} (g : GF c ck cf k X W) (h : chkS ck X.env.scope (.app i e) y = true) : SndS c Fb Hb cf X W (.app i e) y := by
  simp only [chkS] at h
  split at h
  · simp only [Bool.and_eq_true] at h
    obtain ⟨⟨⟨⟨⟨⟨h1, h2⟩, h3⟩, h4⟩, h5⟩, h6⟩, h7⟩ := h
    have hi := of_decide_eq_true h1
    have e4 := of_decide_eq_true h4
    subst e4
    refine PS.imp (ps_expr (pe_bm PySem.F.plainAttrs_list PySem.F.slot_list_append PySem.F.type_list_append mt_append (pe_var (i := i) (by rw [g.G.N]; exact hi) (vis_of h2) (nm_of h3).1 (nm_of h3).2) (pa_cons (sound e g.G g.tk _ h7).1 pa_nil (star1 h6)) rfl ?_ h5 (star1 h6) rfl) rfl) fun D σ H ⟨env, d, F, fs, so⟩ => ?_
    · rw [star1 h6]; rfl
    · simp only [evS] at so
      cases eo : env.getO i with
      | none =>
        rw [eo] at so
        exact so.elim
      | some xs =>
        rw [eo] at so
        have e0 := getO_some eo
        obtain ⟨p, vs, e1, hp, r, nf, nd⟩ := fs.es.ow i xs e0
        refine ⟨.ref p, e1, .inl ⟨rfl, _, SqL.of hp⟩, env, d, F, fs.es, (so.out fs).imp fun x d1 F1 H1 st w so1 v dq => ?_⟩
        have fs1 := fs.step st w
        have hp1 : H1 p = some (.lst vs) := st.keep p _ hp nd trivial
        split at so1
        · rename_i hl
          obtain ⟨env', e2, so2⟩ := so1.ofE
          have r1 := (r.mono (st.le fs.es.wf)).snoc dq
          refine ⟨p, vs, v, rfl, rfl, hp1, ?_, ?_⟩
          · rw [r.length]; exact Nat.lt_of_lt_of_le hl lim_line
          · obtain ⟨f2, l2⟩ := fs1.change e0 e1 hp1 r1 e2
            exact so2 _ _ _ l2 f2
        · exact so1.elim
  · cases h
theorem le_refl {F : Addr → Prop} {H : Hp} : Le F H F H := .refl
theorem st_for {tg it : E} {b : S} {y : SSyn} (g : GF c ck cf k X W) (ihb : ∀ y, chkS ck X.env.scope b y = true → SndS c Fb Hb cf X W b y) (h : chkS ck X.env.scope (.fors tg it b) y = true) : SndS c Fb Hb cf X W (.fors tg it b) y := by
  simp only [chkS] at h
  split at h
  · simp only [Bool.and_eq_true] at h
    obtain ⟨⟨⟨⟨h1, h2⟩, h3⟩, h4⟩, h5⟩ := h
    have pb : PSs X _ (tS c Fb Hb cf W b) := ihb _ h5
    refine PS.imp (ps_for g.hp g.G.calm (pi_of (sound it g.G g.tk) h4 h1) ((sound_tg g.G (W := W)).1 _ h3 g.tg) pb (fold_of h2)) fun D σ H ⟨env, d, F, fs, so⟩ => ?_
    simp only [evS] at so
    refine ⟨env, d, F, fs.es, (so.out fs).imp fun x d1 F1 H1 st w so1 => ?_⟩
    have fs1 := fs.step st w
    split at so1
    · rename_i l hl
      refine ⟨l, hl, fun J itok => ?_⟩
      obtain ⟨G, Y, wk, hG, hY⟩ := itok
      refine for_it wk (fun i σ2 H2 => ∃ env2 d2 F2, FS c Fb Hb env2 d2 F2 σ2 H2 ∧ Le F1 H1 F2 H2 ∧ SO c Fb Hb W D F2 H2 (forLoop tg (fun env d => evS cf b env d) (l.drop i) env2 d2)) ⟨env, d1, F1, fs1, le_refl, by simpa using so1⟩ ?_ ?_ ?_
      · rintro i σ2 H2 hi ⟨env2, d2, F2, _, l2, _⟩
        exact hG H2 F2 l2
      · rintro i x2 σ2 H2 H3 hi ⟨env2, d2, F2, fs2, l2, so2⟩ hy
        have hli : i < l.length := hi
        have ey : l[i]? = some l[i] := by simp [hli]
        have : ∃ st2 : Step c F2 H2 F2 H3, Wf c F2 H3 d2 ∧ Dq c F2 H3 x2 l[i] := by
          rcases hY i H2 F2 x2 H3 l[i] l2 ey hy with ⟨e, dq⟩ | ⟨T, xs, ys, e1, e2, e3, e4, dq⟩
          · subst e; exact ⟨.refl, fs2.es.wf, dq⟩
          · subst e1 e3
            rw [e4]
            exact ⟨.new' e2, fs2.es.wf.new' e2, .newT fs2.es.wf e2 dq⟩
        obtain ⟨st3, w3, dq3⟩ := this
        have fs3 := fs2.step st3 w3
        rw [List.drop_eq_getElem_cons hli] at so2
        simp only [forLoop] at so2
        cases ea : asg tg l[i] env2 with
        | none => rw [ea] at so2; exact so2.elim
        | some env3 =>
          rw [ea] at so2
          refine ⟨env2, d2, F2, l[i], fs3.es, dq3, env3, ea, fun σ4 es4 sm => ?_⟩
          have fs4 := fs3.asg ea es4 sm
          have l3 := l2.trans (fs2.le st3)
          refine ⟨env3, d2, F2, fs4, ?_⟩
          dsimp only at so2
          cases eb : evS cf b env3 d2 with
          | nx env5 d5 =>
            rw [eb] at so2
            exact fun σ5 H5 F5 l5 fs5 => ⟨env5, d5, F5, fs5, l3.trans l5, SO.le so2 ((fs2.le st3).trans l5)⟩
          | rt v d5 => rw [eb] at so2; exact so2
          | er n d5 => rw [eb] at so2; exact so2
          | bad => rw [eb] at so2; exact so2
      · rintro σ2 H2 ⟨env2, d2, F2, fs2, l2, so2⟩
        rw [List.drop_length] at so2
        exact so2 σ2 H2 F2 le_refl fs2
    · exact so1.elim
  · cases h
theorem st_whl {n : Nat} {e : E} {b : S} {y : SSyn} (g : GF c ck cf k X W) (ihb : ∀ y, chkS ck X.env.scope b y = true → SndS c Fb Hb cf X W b y) (h : chkS ck X.env.scope (.whl n e b) y = true) : SndS c Fb Hb cf X W (.whl n e b) y := by
  simp only [chkS] at h
  split at h
  · simp only [Bool.and_eq_true] at h
    obtain ⟨h1, h2⟩ := h
    have pb : PSs X _ (tS c Fb Hb cf W b) := ihb _ h2
    refine PS.imp (ps_while g.hp (sound e g.G g.tk _ h1).2 pb) fun D σ H ⟨env, d, F, fs, so⟩ => ?_
    simp only [evS] at so
    refine ⟨fun m σ2 H2 => ∃ env2 d2 F2, FS c Fb Hb env2 d2 F2 σ2 H2 ∧ SO c Fb Hb W D F2 H2 (whileLoop (fun env d => ev cf e env d) (fun env d => evS cf b env d) m env2 d2), ⟨n, env, d, F, fs, so⟩, ?_⟩
    rintro m σ2 H2 ⟨env2, d2, F2, fs2, so2⟩
    cases m with
    | zero => exact so2.elim
    | succ m =>
      simp only [whileLoop] at so2
      refine ⟨env2, d2, F2, fs2.es, (so2.out fs2).imp fun x d3 F3 H3 st w so3 => ?_⟩
      have fs3 := fs2.step st w
      split at so3
      · rename_i ht
        refine ⟨true, ht, iteT' ⟨fun σ4 H4 => ∃ env2 d2 F2, FS c Fb Hb env2 d2 F2 σ4 H4 ∧ SO c Fb Hb W D F2 H4 (whileLoop (fun env d => ev cf e env d) (fun env d => evS cf b env d) m env2 d2), fun σ4 H4 z => ⟨m, Nat.lt_succ_self m, z⟩, env2, d3, F3, fs3, ?_⟩⟩
        cases eb : evS cf b env2 d3 with
        | nx env5 d5 =>
          rw [eb] at so3
          exact fun σ5 H5 F5 l5 fs5 => ⟨env5, d5, F5, fs5, SO.le so3 l5⟩
        | rt v d5 => rw [eb] at so3; exact so3
        | er n d5 => rw [eb] at so3; exact so3
        | bad => rw [eb] at so3; exact so3
      · rename_i ht
        exact ⟨false, ht, iteF' (so3 _ _ _ le_refl fs3)⟩
      · exact so3.elim
  · cases h
theorem wf_die {F : Addr → Prop} {H : Hp} {d d2 : Dice} (w : Wf c F H d) (hk : d2.k = d.k) : Wf c F (upd H c.dc (.lst [.int d2.a, .int d2.b])) d2 ∧ Step c F H F (upd H c.dc (.lst [.int d2.a, .int d2.b])) := by
  have ne : ∀ b, b ≠ c.dc → upd H c.dc (.lst [.int d2.a, .int d2.b]) b = H b := fun b hb => upd_ne hb
  have nI : ∀ b C dx fs, H b = some (.ins C dx fs) → b ≠ c.dc := fun b C dx fs e z => by rw [z, w.die] at e; cases e
  have st : Step c F H F (upd H c.dc (.lst [.int d2.a, .int d2.b])) := ⟨fun _ h => h, fun _ h => .inl h, fun b o e n _ => by rw [ne b n]; exact e, fun a C dx fs n e _ => by rw [ne a n]; exact e, fun a C dx fs _ e => ⟨fs, by rw [ne a (nI a C dx fs e)]; exact e⟩⟩
  refine ⟨w.same (st.le w) w.nd upd_same hk (tabs_ext w.tabs fun b o e n => by rw [ne b fun z => by rw [z, w.die] at e; cases e; exact n _ rfl]; exact e) (fun b f => .inl ⟨f, fun C dx fs e => by rw [ne b fun z => w.nd (z ▸ f)] at e; exact e⟩) fun b f xs e => ⟨xs, by rw [ne b fun z => w.nd (z ▸ f)]; exact e⟩, st⟩
theorem st_dst {i j : Nat} {e : E} {y : SSyn} (g : GF c ck cf k X W) (h : chkS ck X.env.scope (.dst i j e) y = true) : SndS c Fb Hb cf X W (.dst i j e) y := by
  simp only [chkS] at h
  split at h
  · simp only [Bool.and_eq_true] at h
    obtain ⟨⟨⟨⟨⟨⟨h1, h2⟩, h3⟩, h4⟩, h5⟩, h6⟩, h7⟩ := h
    have hi := of_decide_eq_true h1
    have hz := of_decide_eq_true h4
    have hj := of_decide_eq_true h5
    subst hz
    rename_i x _ _ _ _ v _
    have sw : ∀ tg l, (∀ n p, tg ≠ .Name n p) → swapsWithSole [tg] v l X.env = pure false := fun tg l ht => by
      cases v <;> first | rfl | (simp at h6)
    have sn : ∀ o ix p, swappedStores [.Subscript o ix p] v X.env = pure none := fun o ix p => by
      cases v <;> first | rfl | (simp at h6)
    refine PS.imp (ps_asg (sound e g.G g.tk _ h7).1 (pg_sub (pe_var (i := i) (by rw [g.G.N]; exact hi) (vis_of h2) (nm_of h3).1 (nm_of h3).2) pe_int set_list) (sw _ _ (by intro n p z; cases z)) (sn _ _ _) rfl) fun D σ H ⟨env, d, F, fs, so⟩ => ?_
    simp only [evS] at so
    split at so
    · rename_i he
      unfold Env.get at he
      split at he <;> cases he
      rename_i he
      refine ⟨env, d, F, fs.es, (so.out fs).imp fun x d1 F1 H1 st w so1 v dq => ?_⟩
      have fs1 := fs.step st w
      obtain ⟨u, e1, dqd⟩ := fs.es.sh i _ he
      cases dqd
      cases x <;> try (exact so1.elim)
      rename_i z
      cases dq
      refine ⟨_, e1, c.dc, [.int d1.a, .int d1.b], _, j, rfl, rfl, w.die, ?_, ?_⟩
      · rcases (show j = 0 ∨ j = 1 by omega) with z | z <;> subst z <;> rfl
      · rcases (show j = 0 ∨ j = 1 by omega) with z0 | z0 <;> subst z0
        · obtain ⟨w2, s2⟩ := wf_die (d2 := ⟨z, d1.b, d1.k⟩) w rfl
          exact so1 σ _ F1 (s2.le w) (fs1.step s2 w2)
        · obtain ⟨w2, s2⟩ := wf_die (d2 := ⟨d1.a, z, d1.k⟩) w rfl
          exact so1 σ _ F1 (s2.le w) (fs1.step s2 w2)
    · exact so.elim
  · cases h
theorem rep_ones {dc : Cn} {F : Addr → Prop} {H : Hp} (z : Int) : ∀ k : Nat, DqA dc F H (List.replicate k [V.int z]).flatten (List.replicate k (SG.D.int z))
  | 0 => .nil
  | k + 1 => by
    rw [List.replicate_succ, List.replicate_succ, List.flatten_cons]
    exact .cons (.int z) (rep_ones z k)
theorem st_ownR {i : Nat} {z : Int} {e : E} {y : SSyn} (g : GF c ck cf k X W) (h : chkS ck X.env.scope (.ownR i z e) y = true) : SndS c Fb Hb cf X W (.ownR i z e) y := by
  simp only [chkS] at h
  split at h
  · simp only [Bool.and_eq_true] at h
    obtain ⟨⟨⟨h1, h2⟩, h3⟩, h4⟩ := h
    have hi := of_decide_eq_true h1
    have hz := (of_decide_eq_true h3).symm
    subst hz
    refine PS.imp (ps_set (i := i) (by rw [g.G.N]; exact g.G.nd) (by rw [g.G.N]; exact hi) (g.tg _ h2).1 (pe_op op_rep (pe_lst (pa_cons pe_int pa_nil rfl)) (sound e g.G g.tk _ h4).1) rfl (g.tg _ h2).2) fun D σ H ⟨env, d, F, fs, so⟩ => ?_
    simp only [evS] at so
    refine ⟨(show 1 ≤ sizeLine by decide), fun p hp => ?_⟩
    have fs0 := fs.step (.new' (o := .lst [.int z]) hp) (fs.es.wf.new' hp)
    refine ⟨env, d, F, fs0.es, ((SO.le so (le_new hp)).out fs0).imp fun x d1 F1 H1 st w so1 v dq => ?_⟩
    have fs1 := fs0.step st w
    cases x <;> try (exact so1.elim)
    rename_i n
    cases dq
    dsimp only at so1
    split at so1
    · rename_i hn
      rw [Bool.and_eq_true, decide_eq_true_eq, decide_eq_true_eq] at hn
      obtain ⟨env', e2, so2⟩ := so1.ofE
      have hp1 := st.keep p _ (show upd H p (.lst [V.int z]) p = some (.lst [V.int z]) from upd_same) (fs.es.wf.fresh_ne hp) trivial
      refine ⟨p, n, _, rfl, rfl, hp1, by omega, by omega, ?_, fun q hq => ?_⟩
      · rw [sizeLine_eq]; show 1 * n.toNat ≤ _; omega
      · exact so2 _ _ F1 (le_new hq) (fs1.putL (rep_ones _ _) hq e2)
    · exact so1.elim
  · cases h
theorem st_aug {i : Nat} {e : E} {y : SSyn} (g : GF c ck cf k X W) (h : chkS ck X.env.scope (.aug i e) y = true) : SndS c Fb Hb cf X W (.aug i e) y := by
  simp only [chkS] at h
  split at h
  · simp only [Bool.and_eq_true] at h
    obtain ⟨⟨h1, h2⟩, h3⟩ := h
    have hi := of_decide_eq_true h1
    refine PS.imp (ps_aug (i := i) (by rw [g.G.N]; exact g.G.nd) (by rw [g.G.N]; exact hi) (g.tg _ h2).1 (sound e g.G g.tk _ h3).1 ip_add (g.tg _ h2).2) fun D σ H ⟨env, d, F, fs, so⟩ => ?_
    simp only [evS] at so
    split at so
    · rename_i a0 he
      unfold Env.get at he
      split at he <;> cases he
      rename_i he
      obtain ⟨u, e1, dqd⟩ := fs.es.sh i _ he
      cases dqd
      refine ⟨_, e1, env, d, F, fs.es, (so.out fs).imp fun x d1 F1 H1 st w so1 v dq => ?_⟩
      have fs1 := fs.step st w
      cases x <;> try (exact so1.elim)
      rename_i z
      cases dq
      obtain ⟨env', e2, so2⟩ := so1.ofE
      exact ⟨_, _, rfl, rfl, so2 _ H1 F1 .refl (fs1.put (.int _) e2)⟩
    · exact so.elim
  · cases h
theorem st_sti {i : Nat} {a e : E} {y : SSyn} (g : GF c ck cf k X W) (h : chkS ck X.env.scope (.sti i a e) y = true) : SndS c Fb Hb cf X W (.sti i a e) y := by
  simp only [chkS] at h
  split at h
  · simp only [Bool.and_eq_true] at h
    obtain ⟨⟨⟨⟨⟨⟨h1, h2⟩, h3⟩, h4⟩, h5⟩, h6⟩, h7⟩ := h
    have hi := of_decide_eq_true h1
    rename_i x px ix sp v pos
    have hb : swB X.env.scope v (.Subscript (.Name x px) ix sp) = false := by cases v <;> rfl
    refine PS.imp (ps_asg (sound e g.G g.tk _ h6).1 (pg_sub (pe_var (i := i) (by rw [g.G.N]; exact hi) (vis_of h2) (nm_of h3).1 (nm_of h3).2) (sound a g.G g.tk _ h7).1 set_list (by intro _; cases ix <;> first | rfl | (simp [notSlice] at h5))) ((sw_eq (X := X) (v := v) (tg := .Subscript (.Name x px) ix sp) (l := pos.line) g.kind h4).trans (by rw [hb])) (swN_eq (by cases v <;> rfl)) rfl) fun D σ H ⟨env, d, F, fs, so⟩ => ?_
    simp only [evS] at so
    refine ⟨env, d, F, fs.es, (so.out fs).imp fun x d1 F1 H1 st w so1 v dq => ?_⟩
    have fs1 := fs.step st w
    cases eo : env.getO i with
    | none =>
      rw [eo] at so1
      exact so1.elim
    | some xs =>
      rw [eo] at so1
      dsimp only at so1
      have e0 := getO_some eo
      obtain ⟨p, vs, e1, hp, r, nf, nd⟩ := fs1.es.ow i xs e0
      refine ⟨_, e1, env, d1, F1, fs1.es, (so1.out fs1).imp fun y d2 F2 H2 st2 w2 so2 u dq2 => ?_⟩
      have fs2 := fs1.step st2 w2
      have hp2 : H2 p = some (.lst vs) := st2.keep p _ hp nd trivial
      cases y <;> try (exact so2.elim)
      rename_i z
      cases dq2
      dsimp only at so2
      cases ej : ixP xs.length z with
      | none => rw [ej] at so2; exact so2.elim
      | some j =>
        rw [ej] at so2
        dsimp only at so2
        obtain ⟨env', e2, so3⟩ := so2.ofE
        obtain ⟨f3, l3⟩ := fs2.change e0 e1 hp2 (DqA.set (dq.mono (st2.le fs1.es.wf)) j (r.mono (st2.le fs1.es.wf))) e2
        exact ⟨p, vs, z, j, rfl, rfl, hp2, by rw [r.length]; rw [← ixP_eq]; exact ej, so3 _ _ _ l3 f3⟩
  · cases h
theorem st_own1 {i : Nat} {e : E} {y : SSyn} (g : GF c ck cf k X W) (h : chkS ck X.env.scope (.own1 i e) y = true) : SndS c Fb Hb cf X W (.own1 i e) y := by
  simp only [chkS] at h
  split at h
  · simp only [Bool.and_eq_true] at h
    obtain ⟨⟨⟨h1, h2⟩, h3⟩, h4⟩ := h
    have hi := of_decide_eq_true h1
    refine PS.imp (ps_set (i := i) (by rw [g.G.N]; exact g.G.nd) (by rw [g.G.N]; exact hi) (g.tg _ h2).1 (pe_lst (pa_cons (sound e g.G g.tk _ h4).1 pa_nil (star1 h3))) rfl (g.tg _ h2).2) fun D σ H ⟨env, d, F, fs, so⟩ => ?_
    simp only [evS] at so
    refine ⟨env, d, F, fs.es, (so.out fs).imp fun x d1 F1 H1 st w so1 v dq => ⟨by show 1 ≤ sizeLine; rw [sizeLine_eq]; decide, fun p hp => ?_⟩⟩
    obtain ⟨env', e2, so2⟩ := so1.ofE
    exact so2 _ _ F1 (le_new hp) ((fs.step st w).putL (.cons dq .nil) hp e2)
  · cases h
theorem st_fst {o e : E} {j : Nat} {y : SSyn} (g : GF c ck cf k X W) (h : chkS ck X.env.scope (.fst o j e) y = true) : SndS c Fb Hb cf X W (.fst o j e) y := by
  simp only [chkS] at h
  split at h
  · simp only [Bool.and_eq_true] at h
    obtain ⟨⟨⟨⟨⟨h1, h2⟩, h3⟩, h4⟩, h5⟩, h6⟩ := h
    have hj := of_decide_eq_true h2
    have hn := of_decide_eq_true h3
    subst hn
    obtain ⟨dc, dn⟩ := g.G.dk h1
    rename_i x p ap v pos
    have hb : swB X.env.scope v (.Attribute (.Name x p) (fldN j) ap) = false := by cases v <;> rfl
    refine PS.imp (ps_fld (sound o g.G g.tk _ h5).1 (sound e g.G g.tk _ h6).1 ((sw_eq (X := X) (v := v) (tg := .Attribute (.Name x p) (fldN j) ap) (l := pos.line) g.kind h4).trans (by rw [hb]))) fun D σ H ⟨env, d, F, fs, so⟩ => ?_
    simp only [evS] at so
    refine ⟨env, d, F, fs.es, (so.out fs).imp fun x1 d1 F1 H1 st w so1 v1 dq => ?_⟩
    have fs1 := fs.step st w
    refine ⟨env, d1, F1, fs1.es, (so1.out fs1).imp fun y2 d2 F2 H2 st2 w2 so2 v2 dq2 => ?_⟩
    have fs2 := fs1.step st2 w2
    have dqx := dq.mono (st2.le fs1.es.wf)
    cases y2 <;> try (exact so2.elim)
    dsimp only at so2
    cases dq2 with | obj fa ha =>
    rename_i a dx gs
    obtain ⟨x0, y0, z0, vx, vy, vz, e1, e2, r1, r2, r3⟩ := (w2.dsk _ _ _ _ fa ha).ex
    rw [e1, Option.bind_some] at so2
    subst e2
    have fin : ∀ (gs' : List (Str × V)) (t : SG.D × SG.D × SG.D), fldS (x0, y0, z0) x1 j = some t → putF (fldN j) v1 [(fldN 0, vx), (fldN 1, vy), (fldN 2, vz)] = gs' → (∀ (H' : Hp), Le F2 H2 F2 H' → DkOk c F2 H' ⟨d2.a, d2.b, some t⟩ gs') → D.nx σ (upd H2 a (.ins c.dk dx (putF (fldN j) v1 [(fldN 0, vx), (fldN 1, vy), (fldN 2, vz)]))) := fun gs' t et eg hk => by
      rw [et] at so2
      rw [eg]
      have hl : Le F2 H2 F2 (upd H2 a (.ins c.dk dx gs')) := by
        have nI : ∀ b o, H2 b = some o → (∀ C dx fs, o ≠ .ins C dx fs) → b ≠ a := fun b o e n z => by subst z; rw [ha] at e; cases e; exact n _ _ _ rfl
        exact ⟨fun _ h => h, fun b xs _ e => by rw [upd_ne (nI b _ e (by intro _ _ _ z; cases z))]; exact e, fun b xs e => by rw [upd_ne (nI b _ e (by intro _ _ _ z; cases z))]; exact e, fun b φ e => by rw [upd_ne (nI b _ e (by intro _ _ _ z; cases z))]; exact e, fun b C dx' fs' f e => by
          by_cases z : b = a
          · subst z; rw [ha] at e; cases e; exact ⟨gs', upd_same⟩
          · exact ⟨fs', by rw [upd_ne z]; exact e⟩⟩
      obtain ⟨f3, l3⟩ := fs2.fst fa ha (hk _ hl)
      exact so2 _ _ _ l3 f3
    refine ⟨a, c.dk, dx, _, rfl, ha, dc, dn j hj, by show 3 < 1000; decide, ?_⟩
    match j, hj, fin with
    | 0, _, fin => exact fin _ _ rfl rfl fun H' l => ⟨_, _, _, _, _, _, rfl, rfl, dqx.mono l, r2.mono l, r3.mono l⟩
    | 1, _, fin => exact fin _ _ rfl rfl fun H' l => ⟨_, _, _, _, _, _, rfl, rfl, r1.mono l, dqx.mono l, r3.mono l⟩
    | 2, _, fin => exact fin _ _ rfl rfl fun H' l => ⟨_, _, _, _, _, _, rfl, rfl, r1.mono l, r2.mono l, dqx.mono l⟩
  · cases h
theorem soundS (g : GF c ck cf k X W) (s : S) : ∀ y, chkS ck X.env.scope s y = true → SndS c Fb Hb cf X W s y := by
  induction s with
  | nil =>
    intro y h
    simp only [chkS] at h
    split at h
    · exact PSs.imp pss_nil fun D σ H ⟨env, d, F, fs, so⟩ => by
        simp only [evS] at so
        exact so σ H F le_refl fs
    · cases h
  | seq a r iha ihr =>
    intro y h
    simp only [chkS] at h
    split at h
    · split at h
      · rename_i l _ i hf
        cases a <;> try (simp [isFrz] at hf; done)
        rename_i i'
        refine PSs.imp (ihr (.many l) h) fun D σ H ⟨env, d, F, fs, so⟩ => ?_
        simp only [evS] at so
        cases eo : env.getO i' with
        | none => rw [eo] at so; exact so.elim
        | some xs =>
          rw [eo] at so
          dsimp only at so
          cases ep : env.put i' (.sh (.lst xs)) with
          | none => rw [ep] at so; exact so.elim
          | some env1 =>
            rw [ep] at so
            obtain ⟨F1, fs1, l1⟩ := fs.frz (getO_some eo) ep
            exact ⟨env1, d, F1, fs1, SO.le so l1⟩
      · split at h
        · rw [Bool.and_eq_true] at h
          refine PSs.imp (pss_cons (iha (.one _) h.1) (ihr (.many _) h.2)) fun D σ H ⟨env, d, F, fs, so⟩ => ?_
          simp only [evS] at so
          refine ⟨env, d, F, fs, ?_⟩
          cases eb : evS cf a env d with
          | nx env5 d5 =>
            rw [eb] at so
            exact fun σ5 H5 F5 l5 fs5 => ⟨env5, d5, F5, fs5, SO.le so l5⟩
          | rt v d5 => rw [eb] at so; exact so
          | er n d5 => rw [eb] at so; exact so
          | bad => rw [eb] at so; exact so
        · cases h
    · cases h
  | set tg e => intro y h; exact st_set g h
  | own i => intro y h; exact st_own g h
  | par i j a b => intro y h; exact st_par g h
  | parO i j a => intro y h; exact st_parO g h
  | par3 i j l a b e => intro y h; exact st_par3 g h
  | nev =>
    intro y h
    cases y with
    | one st => exact PS.imp ps_never fun D σ H ⟨env, d, F, fs, so⟩ => by simp only [evS] at so; exact so
    | many l => exact PSs.imp pss_never fun D σ H ⟨env, d, F, fs, so⟩ => by simp only [evS] at so; exact so
  | app i e => intro y h; exact st_app g h
  | ret e =>
    intro y h
    simp only [chkS] at h
    split at h
    · exact PS.imp (ps_ret (sound e g.G g.tk _ h).1) fun D σ H ⟨env, d, F, fs, so⟩ => by
        simp only [evS] at so
        exact ⟨env, d, F, fs.es, (so.out fs).imp fun x d1 F1 H1 st w so1 v dq => so1 v H1 F1 (fs.st.trans st) w dq⟩
    · cases h
  | ifs e a b iha ihb =>
    intro y h
    simp only [chkS] at h
    split at h
    · simp only [Bool.and_eq_true] at h
      obtain ⟨⟨h1, h2⟩, h3⟩ := h
      refine PS.imp (ps_if (sound e g.G g.tk _ h1).2 (iha (.many _) h2) (ihb (.many _) h3)) fun D σ H ⟨env, d, F, fs, so⟩ => ?_
      simp only [evS] at so
      refine ⟨env, d, F, fs.es, (so.out fs).imp fun x d1 F1 H1 st w so1 => ?_⟩
      have fs1 := fs.step st w
      split at so1
      · rename_i ht; exact ⟨true, ht, iteT' ⟨env, d1, F1, fs1, so1⟩⟩
      · rename_i ht; exact ⟨false, ht, iteF' ⟨env, d1, F1, fs1, so1⟩⟩
      · exact so1.elim
    · cases h
  | fors tg it b ihb => intro y h; exact st_for g ihb h
  | whl n e b ihb => intro y h; exact st_whl g ihb h
  | ex e =>
    intro y h
    simp only [chkS] at h
    split at h
    · rw [Bool.and_eq_true] at h
      rename_i v p
      refine PS.imp (ps_expr (sound e g.G g.tk _ h.2).1 ?_) fun D σ H ⟨env, d, F, fs, so⟩ => ?_
      · have := h.1
        cases v <;> first | rfl | (simp at this)
      · simp only [evS] at so
        exact ⟨env, d, F, fs.es, (so.out fs).imp fun x d1 F1 H1 st w so1 v dq => so1 σ H1 F1 le_refl (fs.step st w)⟩
    · cases h
  | ownR i z e => intro y h; exact st_ownR g h
  | aug i e => intro y h; exact st_aug g h
  | sti i a e => intro y h; exact st_sti g h
  | fst o j e => intro y h; exact st_fst g h
  | own1 i e => intro y h; exact st_own1 g h
  | dst i j e => intro y h; exact st_dst g h
  | rse j =>
    intro y h
    simp only [chkS] at h
    split at h
    · rw [Bool.and_eq_true] at h
      have R := g.cls j _ (of_decide_eq_true h.1)
      refine PS.imp (L2N.ps_raise g.G.calm g.tk (L2N.pmk_own PySem.F.excBase_ValueError R.ex R.mg R.kp (raises_own R.sb R.ty) (gl_of h.2) R.db)) fun D σ H ⟨env, d, F, fs, so⟩ => ?_
      simp only [evS] at so
      exact so σ H F fs.st fs.es.wf
    · cases h
  | _ => intro y h; simp [chkS] at h
end
end SG
namespace SG
open PySem PySem.Spec PyProof.Rows L2
structure TD where
  nm : Str
  st : Stmt
  N : List Str
  df : Df
abbrev Tb := List (Nat × TD)
def Tb.at (tb : Tb) (i : Nat) : Option TD := (tb.find? fun p => p.1 == i).map (·.2)
def Tb.fnm (tb : Tb) : Nat → Option Str := fun i => (tb.at i).map (·.nm)
theorem Tb.mem {tb : Tb} {i : Nat} {td : TD} (h : tb.at i = some td) : (i, td) ∈ tb := by
  unfold Tb.at at h
  cases e : tb.find? (fun p => p.1 == i) with
  | none => rw [e] at h; cases h
  | some p =>
    rw [e] at h
    cases h
    have h1 := List.mem_of_find?_eq_some e
    have h2 : (p.1 == i) = true := List.find?_some (p := fun p : Nat × TD => p.1 == i) e
    have h3 : p.1 = i := by simpa using h2
    rw [← h3]; exact h1
def scB (N P : List Str) (sc : Scope) : Bool :=
  decide (sc.kind = .function) && !sc.isCoroutine && !sc.isGenerator && decide N.Nodup && decide (N.take P.length = P) && P.all (fun x => decide (sc.names.lookup x = some .local) || decide (sc.names.lookup x = some .cell)) && sc.names.all (fun y => !decide (y.2 = .free))
theorem scB_ok {N P : List Str} {sc : Scope} (h : scB N P sc = true) : FnScope N P sc := by
  unfold scB at h
  simp only [Bool.and_eq_true, Bool.not_eq_true', decide_eq_true_eq, List.all_eq_true, Bool.or_eq_true, decide_eq_false_iff_not] at h
  obtain ⟨⟨⟨⟨⟨⟨h1, h2⟩, h3⟩, h4⟩, h5⟩, h6⟩, h7⟩ := h
  exact ⟨h1, h2, h3, h4, h5, h6, h7⟩
def TD.ok (td : TD) (fnm er : Nat → Option Str) (ex : CkX) : Bool :=
  scB td.N (td.N.take td.df.ps) (defScope td.st) && decide (td.N.length = td.df.n) && decide (td.df.ps ≤ td.df.n) && !(td.nm == ("__debug__" : Str)) && chkS ⟨td.N, fnm, er, false, ex⟩ (defScope td.st) td.df.body (.many (defBody td.st))
structure Mods (tb : Tb) (er : Nat → Option Str) (ex : CkX) (cl : Nat → Addr) (dk : Addr) (K : PySem.W.Frag) (mg : Str → Option Value) : Prop where
  ok : ∀ p ∈ tb, p.2.ok tb.fnm er ex = true
  cls : ∀ j nm, er j = some nm → RaiseF cl K mg j nm
  blt : ∀ x ∈ bltNames, mg (Str.ofString x) = none
  fns : ∀ p ∈ tb, ∃ f fd, Fun K p.2.nm p.2.nm p.2.st f fd ∧ mg p.2.nm = some (.ref f) ∧ Binds K fd (p.2.N.take p.2.df.ps) []
  nmk : ex.mkd = false
  nmt : ex.met = false
  dsk : ex.dk = true → DeskC dk K
  xc : ex.xc = true → ∀ c : Cn, c.cl = cl → ClsI c K mg er
structure Mts (tb tm : Tb) (er : Nat → Option Str) (ex : CkX) (dk : Addr) (K : PySem.W.Frag) : Prop where
  ok : ∀ p ∈ tm, p.2.ok tb.fnm er ex = true
  nf : ∀ p ∈ tm, ∀ j, j < 3 → fldN j ≠ p.2.nm
  fns : ∀ p ∈ tm, ∃ q f fd, Fun K p.2.nm q p.2.st f fd ∧ Meth K dk p.2.nm f ∧ Binds K fd (p.2.N.take p.2.df.ps) []
section
variable {P : Program} {w : World} {K : PySem.W.Frag} {mg : Str → Option Value} {base : Heap} {tb tm : Tb} {c : Cn} {er : Nat → Option Str} {ex : CkX} {cl : Nat → Addr} {dk : Addr}
theorem start_es {F : Addr → Prop} {H : Hp} {d : Dice} {vs : List V} {xs : List D} {N : List Str} {n : Nat} (w : Wf c F H d) (r : DqA c F H vs xs) (hn : N.length = n) (hl : xs.length ≤ n) : ES c (startE n xs) d F (L2.start N vs) H := by
  have el := r.length
  have key : ∀ (i : Nat) s, s ≠ Sl.no → (startE n xs)[i]? = some s → ∃ x, s = .sh x ∧ xs[i]? = some x := fun i s hs e => by
    unfold startE at e
    rw [List.getElem?_append] at e
    split at e
    · rw [List.getElem?_map] at e
      cases ex : xs[i]? with
      | none => rw [ex] at e; cases e
      | some x => rw [ex] at e; cases e; exact ⟨x, rfl, rfl⟩
    · rw [List.getElem?_replicate] at e
      split at e <;> cases e
      exact absurd rfl hs
  refine ⟨w, ?_, fun i x e => ?_, fun i ys e => ?_, fun i j ys zs p e => ?_⟩
  · unfold startE L2.start
    simp [el, hn]
  · obtain ⟨x', e1, e2⟩ := key i _ (by simp) e
    cases e1
    obtain ⟨v, e3, q⟩ := r.get e2
    refine ⟨v, ?_, q⟩
    unfold L2.start
    have hlt : i < vs.length := by
      rw [el]
      exact (List.getElem?_eq_some_iff.mp e2).1
    rw [List.getElem?_append_left (by simpa using hlt), List.getElem?_map, e3]; rfl
  · obtain ⟨x', e1, e2⟩ := key i _ (by simp) e
    cases e1
  · obtain ⟨x', e1, e2⟩ := key i _ (by simp) e
    cases e1
theorem okN {x qual : Str} {st : Stmt} {f : Addr} {fd : FuncData} {N ps : List Str} {k : Nat} {sp : Sp} (F : Fun K x qual st f fd) (S : FnScope N ps (defScope st)) (len : ∀ vs H Q E, sp vs H Q E → vs.length = ps.length)
    (hbody : ∀ (cdv : Value) (A : Around) (outer : List PySem.Env) (s : Shared) (H : Hp) (vs : List V) (Q : VK) (E : XK), fd.code = cdv → Room k (A.deeper (envOfC qual (defScope st) s.heap.objs.size f cdv)) → sp vs H Q E →
      ∃ t, PSs (cxOf (L2N.CX P w) P w K mg base N qual (defScope st) f cdv A outer s H E) (defBody st) t ∧ t { nx := fun _ H' => Q .non H', rt := Q } (L2.start N vs) H) : FnOk P w K mg base (L2N.CX P w) (k + 1) f fd ps sp := by
  obtain ⟨oc, od, kV, doc, pm, an, cdv, ct, osl, rfl, lk, hcd⟩ := F.ex
  exact fn_of lk hcd S len fun A outer s H vs Q E hr hsp => hbody cdv A outer s H vs Q E rfl hr hsp
theorem cx_gf {qual : Str} {scope : Scope} {f : Addr} {cdv : Value} {A : Around} {outer : List PySem.Env} {s : Shared} {H : Hp} {E : XK} {k : Nat} {cf : CF} {N ps : List Str} (S : FnScope N ps scope) (hr : Room k (A.deeper (envOfC qual scope s.heap.objs.size f cdv)))
    (blt : ∀ x ∈ bltNames, mg (Str.ofString x) = none) (hcl : ∀ j nm, er j = some nm → RaiseF c.cl K mg j nm) {lam : Bool}
    (fns : ∀ i nm, tb.fnm i = some nm → (nm == ("__debug__" : Str)) = false ∧ ∃ fa fd ps, mg nm = some (.ref fa) ∧ PySem.W.keepIn K (.ref fa) = true ∧ Binds K fd ps [] ∧ FnOk P w K mg base (L2N.CX P w) k fa fd ps (spF c cf i))
    (hlam : lam = true → CodeF c (cxOf (L2N.CX P w) P w K mg base N qual scope f cdv A outer s H E) ∧ Room (k + 2) (A.deeper (envOfC qual scope s.heap.objs.size f cdv)) ∧ ToldR c k P w K mg base)
    (hdk : ex.dk = true → DeskC c.dk K) (hxc : ex.xc = true → ClsI c K mg er)
    (hmk : ex.mkd = true → MkR c ⟨N, tb.fnm, er, lam, ex⟩ cf k (cxOf (L2N.CX P w) P w K mg base N qual scope f cdv A outer s H E))
    (hmet : ex.met = true → CodeF c (cxOf (L2N.CX P w) P w K mg base N qual scope f cdv A outer s H E) ∧ Room (k + 3) (A.deeper (envOfC qual scope s.heap.objs.size f cdv)) ∧ MetR c (k + 1) P w K mg base) :
    GF c ⟨N, tb.fnm, er, lam, ex⟩ cf k (cxOf (L2N.CX P w) P w K mg base N qual scope f cdv A outer s H E) (fun cls d _ H' => E cls d H') := by
  refine ⟨⟨rfl, S.nd, rfl, hr, blt, fns, hlam, hdk, hxc, hmk, hmet⟩, S.kind, fun x h => ⟨loc_of h, .inl rfl⟩, L2N.takes_of rfl rfl rfl rfl, passes_of rfl, hcl⟩
def FnsAt (P : Program) (w : World) (K : PySem.W.Frag) (mg : Str → Option Value) (base : Heap) (tb : Tb) (c : Cn) (defs : Nat → Option Df) (k : Nat) : Prop :=
  ∀ (i : Nat) (nm : Str), tb.fnm i = some nm → (nm == ("__debug__" : Str)) = false ∧ ∃ fa fd ps, mg nm = some (.ref fa) ∧ PySem.W.keepIn K (.ref fa) = true ∧ Binds K fd ps [] ∧ FnOk P w K mg base (L2N.CX P w) k fa fd ps (spF c (evCall defs k) i)
theorem td_ok0 {f : Addr} {fd : FuncData} {ps : List Str} {i : Nat} {defs : Nat → Option Df} : FnOk P w K mg base (L2N.CX P w) 0 f fd ps (spF c (evCall defs 0) i) := by
  refine ⟨fun vs H Q E h => ?_, fun A outer s H args us vs Q E _ _ _ _ h => ?_⟩
  · obtain ⟨F, d, xs, _, _, h⟩ := h
    exact h.elim
  · obtain ⟨F, d, xs, _, _, h⟩ := h
    exact h.elim
theorem td_ok {defs : Nat → Option Df} {td : TD} {qual : Str} {i k : Nat} {f : Addr} {fd : FuncData} (M : Mods tb er ex cl dk K mg) (hcc : c.cl = cl) (hcd : c.dk = dk) (ok : td.ok tb.fnm er ex = true) (F : Fun K td.nm qual td.st f fd) (hdf : defs i = some td.df) (ih : FnsAt P w K mg base tb c defs k) :
    FnOk P w K mg base (L2N.CX P w) (k + 1) f fd (td.N.take td.df.ps) (spF c (evCall defs (k + 1)) i) := by
  unfold TD.ok at ok
  simp only [Bool.and_eq_true, Bool.not_eq_true'] at ok
  obtain ⟨⟨⟨⟨h1, h2⟩, h3⟩, h4⟩, h5⟩ := ok
  have hN := of_decide_eq_true h2
  have hps := of_decide_eq_true h3
  have hpl : (td.N.take td.df.ps).length = td.df.ps := by rw [List.length_take]; omega
  have S := scB_ok h1
  refine okN F S (fun vs H Q E h => ?_) fun cdv A outer s H vs Q E _ hr h => ?_
  · obtain ⟨F', d, xs, _, r, h⟩ := h
    rw [hpl, r.length]
    simp only [evCall, hdf] at h
    by_cases hz : xs.length = td.df.ps
    · exact hz
    · rw [if_neg hz] at h; exact h.elim
  · obtain ⟨F', d, xs, wf, r, h⟩ := h
    simp only [evCall, hdf] at h
    by_cases hz : xs.length = td.df.ps
    · rw [if_pos hz] at h
      have gf := cx_gf (P := P) (w := w) (K := K) (mg := mg) (base := base) (tb := tb) (c := c) (ex := ex) (cf := evCall defs k) (E := E) (outer := outer) (H := H) (lam := false) S hr M.blt (fun j nm h => hcc ▸ M.cls j nm h) ih (fun z => by cases z) (fun z => hcd ▸ M.dsk z) (fun z => M.xc z c hcc) (fun z => by rw [M.nmk] at z; cases z) (fun z => by rw [M.nmt] at z; cases z)
      refine ⟨fun D σ H2 => ∃ Fb Hb, tS c Fb Hb (evCall defs k) (fun cls d _ H' => E cls d H') td.df.body D σ H2, ⟨fun pins s2 σ H2 D I ⟨Fb, Hb, q⟩ => (soundS (Fb := Fb) (Hb := Hb) gf td.df.body (.many (defBody td.st)) h5).run pins s2 σ H2 D I q⟩, F', H, startE td.df.n xs, d, F', ⟨start_es wf r hN (by omega), .refl, fun i ys p e1 _ => ?_⟩, ?_⟩
      · have es := start_es (N := td.N) wf r hN (by omega)
        exfalso
        unfold startE at e1
        rw [List.getElem?_append] at e1
        split at e1
        · rw [List.getElem?_map] at e1
          cases ex : xs[i]? <;> rw [ex] at e1 <;> cases e1
        · rw [List.getElem?_replicate] at e1
          split at e1 <;> cases e1
      · cases eo : evS (evCall defs k) td.df.body (startE td.df.n xs) d with
        | nx env' d' =>
          rw [eo] at h
          exact fun σ' H' F2 _ fs => h _ H' F2 fs.st fs.es.wf .non
        | rt v d' =>
          rw [eo] at h
          exact fun v' H' F2 st w dq => h v' H' F2 st w dq
        | er n d' =>
          rw [eo] at h
          exact fun σ' H' F2 st w => h H' F2 st w
        | bad => rw [eo] at h; exact h
    · rw [if_neg hz] at h
      exact h.elim
theorem fnm_at {i : Nat} {nm : Str} (h : tb.fnm i = some nm) : ∃ td, (i, td) ∈ tb ∧ td.nm = nm := by
  unfold Tb.fnm at h
  cases e : tb.at i with
  | none => rw [e] at h; cases h
  | some td =>
    rw [e] at h
    cases h
    exact ⟨td, Tb.mem e, rfl⟩
theorem TD.ok_db {td : TD} {fnm : Nat → Option Str} (ok : td.ok fnm er ex = true) : (td.nm == ("__debug__" : Str)) = false := by
  unfold TD.ok at ok
  simp only [Bool.and_eq_true, Bool.not_eq_true'] at ok
  exact ok.1.2
theorem fns_ok {defs : Nat → Option Df} (M : Mods tb er ex cl dk K mg) (hD : ∀ p ∈ tb, defs p.1 = some p.2.df) : ∀ (c : Cn), c.cl = cl → c.dk = dk → ∀ (k : Nat), FnsAt P w K mg base tb c defs k := by
  intro c hcc hcd k
  induction k with
  | zero =>
    intro i nm h
    obtain ⟨td, hm, rfl⟩ := fnm_at h
    obtain ⟨f, fd, F, m, b⟩ := M.fns (i, td) hm
    exact ⟨TD.ok_db (M.ok (i, td) hm), f, fd, _, m, F.kp, b, td_ok0⟩
  | succ k ih =>
    intro i nm h
    obtain ⟨td, hm, rfl⟩ := fnm_at h
    obtain ⟨f, fd, F, m, b⟩ := M.fns (i, td) hm
    exact ⟨TD.ok_db (M.ok (i, td) hm), f, fd, _, m, F.kp, b, td_ok M hcc hcd (M.ok (i, td) hm) F (hD (i, td) hm) ih⟩
theorem mts_ok {defs : Nat → Option Df} (M : Mods tb er ex cl dk K mg) (MT : Mts tb tm er ex dk K) (hD : ∀ p ∈ tb, defs p.1 = some p.2.df) (hT : ∀ p ∈ tm, defs p.1 = some p.2.df) (hcc : c.cl = cl) (hcd : c.dk = dk) (k : Nat) (i : Nat) (nm : Str) (h : tm.fnm i = some nm) :
    ∃ fa fd ps, Meth K dk nm fa ∧ (∀ j, j < 3 → fldN j ≠ nm) ∧ Binds K fd ps [] ∧ FnOk P w K mg base (L2N.CX P w) k fa fd ps (spF c (evCall defs k) i) := by
  obtain ⟨td, hm, rfl⟩ := fnm_at h
  obtain ⟨q, f, fd, F, m, b⟩ := MT.fns (i, td) hm
  refine ⟨f, fd, _, m, MT.nf (i, td) hm, b, ?_⟩
  cases k with
  | zero => exact td_ok0
  | succ k => exact td_ok M hcc hcd (MT.ok (i, td) hm) F (hT (i, td) hm) (fns_ok M hD c hcc hcd k)
end
end SG
namespace SG
open PySem PySem.Spec PyProof.Rows L2
def isCell : List Stmt → Bool
  | [.If (.Compare (.Name a1 _) [.Eq] [.List [] _] _) [.Return (some (.BinOp (.Name b1 _) .Mult (.Constant (.int 7919) _ _) _)) _] [] _,
     .Return (some (.BinOp (.Subscript (.Name a2 _) (.BinOp (.Name b2 _) .Mod (.Call (.Name l1 _) [.Name a3 _] [] _) _) _) .Add (.BinOp (.BinOp (.Name b3 _) .FloorDiv (.Call (.Name l2 _) [.Name a4 _] [] _) _) .Mult (.Constant (.int 104729) _ _) _) _)) _] =>
    decide (a1 = "script") && decide (a2 = "script") && decide (a3 = "script") && decide (a4 = "script") && decide (b1 = "k") && decide (b2 = "k") && decide (b3 = "k") && decide (l1 = "len") && decide (l2 = "len")
  | _ => false
def cellN : List Str := ["script", "k"]
def roundsN : List Str := ["script", "most", "k"]
def spC (K : PySem.W.Frag) : Sp := fun vs H Q _ => ∃ (a : Addr) (ns : List Int) (k : Int), vs = [.ref a, .int k] ∧ SqL K H a (ns.map V.int) ∧ 0 ≤ k ∧ k < 1000 ∧ ns.length ≤ 1000 ∧ ∀ z H', Same H H' → Q (.int z) H'
theorem ints_dp {K : PySem.W.Frag} {H : Hp} : ∀ ns : List Int, DpAll K H (ns.map V.int) (ns.map PyData.int)
  | [] => .nil
  | n :: r => .cons (.int n) (ints_dp r)
theorem ints_lay : ∀ ns : List Int, PyData.canLayAll0 (ns.map PyData.int) = true
  | [] => by simp [PyData.canLayAll0]
  | n :: r => by simp [PyData.canLayAll0, PyData.canLay0, ints_lay r]
theorem ints_dep : ∀ ns : List Int, PyData.depthAll (ns.map PyData.int) ≤ 1
  | [] => by simp [PyData.depthAll]
  | n :: r => by
    have := ints_dep r
    simp [PyData.depthAll, PyData.depth]
    omega
theorem ints_shaped (ns : List Int) : SeqAt.shaped (.list (ns.map PyData.int)) = true := by
  unfold SeqAt.shaped
  have := ints_dep ns
  rw [Bool.and_eq_true]
  refine ⟨by simp [PyData.canLay0, ints_lay], decide_eq_true ?_⟩
  simp only [PyData.depth]
  omega
section
variable {P : Program} {w : World} {K : PySem.W.Frag} {mg : Str → Option Value} {base : Heap}
theorem ok_cell {st : Stmt} {f : Addr} {fd : FuncData} {k : Nat} (F : Fun K "_law_cell" "_law_cell" st f fd) (S : FnScope cellN cellN (defScope st)) (hb : isCell (defBody st) = true) (hl : (defScope st).names.lookup ("len" : Str) = some .globalImplicit) (ml : mg "len" = none) :
    FnOk P w K mg base (L2N.CX P w) (k + 1) f fd cellN (spC K) := by
  refine okN F S (fun vs H Q E h => ?_) fun cdv A outer s H vs Q E _ hr h => ?_
  · obtain ⟨a, ns, z, rfl, _⟩ := h; rfl
  · obtain ⟨a, ns, z, rfl, hS, h0, h1, hlen, q⟩ := h
    unfold isCell at hb
    split at hb
    · rename_i hbe
      simp only [Bool.and_eq_true, decide_eq_true_eq] at hb
      obtain ⟨⟨⟨⟨⟨⟨⟨⟨e1, e2⟩, e3⟩, e4⟩, e5⟩, e6⟩, e7⟩, e8⟩, e9⟩ := hb
      subst e1 e2 e3 e4 e5 e6 e7 e8 e9
      rw [hbe]
      generalize hX : cxOf (L2N.CX P w) P w K mg base cellN "_law_cell" (defScope st) f cdv A outer s H E = X
      have XN : X.N = cellN := by rw [← hX]; rfl
      have XK' : X.K = K := by rw [← hX]; rfl
      have Xm : X.mg = mg := by rw [← hX]; rfl
      have v0 : Vis X.env.scope "script" := by rw [← hX]; rcases S.par "script" (by decide) with h | h; exact .inl h; exact .inr (.inl h)
      have v1 : Vis X.env.scope "k" := by rw [← hX]; rcases S.par "k" (by decide) with h | h; exact .inl h; exact .inr (.inl h)
      have g : Gl X "len" := by rw [← hX]; exact gl_of (by unfold glB; show (match (defScope st).names.lookup ("len" : Str) with | some .globalImplicit => true | _ => false) = true; rw [hl])
      have hu : X.A.units + 64 < cLine := by rw [← hX]; have := hr.un; show (A.deeper _).units + 64 < cLine; omega
      refine ⟨_, pss_cons (ps_if (pt_cmpR (op_eqD hu) (pe_var (i := 0) (by rw [XN]; rfl) v0) (pe_lst pa_nil) rfl) (pss_one (ps_ret (pe_op op_mul (pe_var (i := 1) (by rw [XN]; rfl) v1) pe_int))) pss_nil)
        (pss_one (ps_ret (pe_op op_add (pe_ix ix_seq (pe_var (i := 0) (by rw [XN]; rfl) v0) (pe_op op_mod (pe_var (i := 1) (by rw [XN]; rfl) v1) (pe_callB call_len g (by rw [Xm]; exact ml) PySem.boot_len (pa_cons (pe_var (i := 0) (by rw [XN]; rfl) v0) pa_nil))) (fun _ _ => rfl))
          (pe_op op_mul (pe_op op_fdiv (pe_var (i := 1) (by rw [XN]; rfl) v1) (pe_callB call_len g (by rw [Xm]; exact ml) PySem.boot_len (pa_cons (pe_var (i := 0) (by rw [XN]; rfl) v0) pa_nil))) pe_int)))), ?_⟩
      rw [XK']
      refine ⟨.ref a, rfl, by decide, fun p hp => ?_⟩
      have sm : Same H (upd H p (.lst [])) := fun b o e => upd_keep hp b o e
      refine ⟨_, .list [], .lst (sm.seq hS) (ints_dp ns), .lst (SqL.of upd_same) .nil, ints_shaped ns, ints_shaped [], _, rfl, ?_⟩
      cases ns with
      | nil =>
        have : PyData.eqv (.list (([] : List Int).map PyData.int)) (.list []) = true := by simp [PyData.eqv, PyData.eqvAll]
        rw [this]
        exact iteT' ⟨.int z, rfl, _, _, rfl, rfl, .inr ⟨by decide, by decide⟩, q _ _ sm⟩
      | cons n0 nr =>
        have : PyData.eqv (.list ((n0 :: nr).map PyData.int)) (.list []) = false := by simp [PyData.eqv, PyData.eqvAll]
        rw [this]
        refine iteF' ?_
        have hS2 := sm.seq hS
        have hL : LenV K (.ref a) (upd H p (.lst [])) ((n0 :: nr).map V.int).length := .inl ⟨_, hS2, rfl⟩
        have pos : 0 < (((n0 :: nr).map V.int).length : Int) := by first | (simp; done) | (simp; omega)
        have hlen' : (((n0 :: nr).map V.int).length : Int) < 1073741824 := by simp at hlen ⊢; omega
        have hi0 : 0 ≤ z % (((n0 :: nr).map V.int).length : Int) := Int.emod_nonneg _ (by omega)
        have hi1 : z % (((n0 :: nr).map V.int).length : Int) < (((n0 :: nr).map V.int).length : Int) := Int.emod_lt_of_pos _ pos
        obtain ⟨j, hj⟩ := Int.eq_ofNat_of_zero_le hi0
        have hj2 : j < (n0 :: nr).length := by rw [hj] at hi1; simp at hi1 ⊢; omega
        have hat : atI ((n0 :: nr).map V.int) (z % (((n0 :: nr).map V.int).length : Int)) = some (.int (n0 :: nr)[j]) := by
          rw [hj]
          refine atI_nat ?_
          rw [List.getElem?_map, List.getElem?_eq_getElem hj2]; rfl
        refine ⟨.ref a, rfl, .int z, rfl, .ref a, rfl, .ref a, _, rfl, hL, _, _, rfl, rfl, pos, .inl ⟨a, _, _, _, rfl, rfl, hS2, hat, ?_⟩⟩
        refine ⟨.int z, rfl, .ref a, rfl, .ref a, _, rfl, hL, _, _, rfl, rfl, ⟨pos, hlen'⟩, _, _, rfl, rfl, .inr ⟨by decide, by decide⟩, _, _, rfl, rfl, ?_⟩
        exact q _ _ sm
    · cases hb
def isRounds (sc : Scope) : List Stmt → Bool
  | [.Return (some (.ListComp (.List [.Call (.Name c1 _) [.Name a1 _, .Name k1 _] [] _, .Constant (.int 0) _ _] _) [⟨.Name k2 _, .Call (.Name r1 _) [.Call (.Name m1 _) [.Constant (.int 1) _ _, .Call (.Name n1 _) [.Name o1 _, .Call (.Name l1 _) [.Name a2 _] [] _] [] _] [] _] [] _, [], 0⟩] scope _)) _] =>
    decide (c1 = "_law_cell") && decide (a1 = "script") && decide (k1 = "k") && decide (k2 = "k") && decide (r1 = "range") && decide (m1 = "max") && decide (n1 = "min") && decide (o1 = "most") && decide (l1 = "len") && decide (a2 = "script") &&
      blkC roundsN sc scope [("k", 2)] && visB (relS scope sc) "script" && visB (relS scope sc) "k" && locB scope "k" && glB (relS scope sc) "_law_cell" && glB sc "range" && glB sc "max" && glB sc "min" && glB sc "len"
  | _ => false
def spR (K : PySem.W.Frag) : Sp := fun vs H Q _ => ∃ (a : Addr) (ns : List Int) (m : Int), vs = [.ref a, .int m] ∧ SqL K H a (ns.map V.int) ∧ ns.length ≤ 900 ∧ m ≤ 900 ∧
  ∀ (R : Addr) (ps : List Addr) (H' : Hp), Same H H' → H' R = some (.lst (ps.map V.ref)) → R ∉ ps → ps.Nodup → (∀ p ∈ ps, ∃ z, H' p = some (.lst [.int z, .int 0])) → Q (.ref R) H'
theorem ok_rounds {st : Stmt} {f fC : Addr} {fd fdC : FuncData} {k : Nat} (F : Fun K "_law_rounds" "_law_rounds" st f fd) (S : FnScope roundsN ["script", "most"] (defScope st)) (hb : isRounds (defScope st) (defBody st) = true)
    (FC : FnOk P w K mg base (L2N.CX P w) k fC fdC cellN (spC K)) (mC : mg "_law_cell" = some (.ref fC)) (kC : PySem.W.keepIn K (.ref fC) = true) (bC : Binds K fdC cellN []) (blt : ∀ x ∈ bltNames, mg (Str.ofString x) = none) :
    FnOk P w K mg base (L2N.CX P w) (k + 1) f fd ["script", "most"] (spR K) := by
  refine okN F S (fun vs H Q E h => ?_) fun cdv A outer s H vs Q E _ hr h => ?_
  · obtain ⟨a, ns, z, rfl, _⟩ := h; rfl
  · obtain ⟨a, ns, m, rfl, hS, hlen, hm, q⟩ := h
    unfold isRounds at hb
    split at hb
    · rename_i hbe
      simp only [Bool.and_eq_true, decide_eq_true_eq] at hb
      obtain ⟨⟨⟨⟨⟨⟨⟨⟨⟨⟨⟨⟨⟨⟨⟨⟨⟨⟨e1, e2⟩, e3⟩, e4⟩, e5⟩, e6⟩, e7⟩, e8⟩, e9⟩, e10⟩, g1⟩, g2⟩, g3⟩, g4⟩, g5⟩, g6⟩, g7⟩, g8⟩, g9⟩ := hb
      subst e1 e2 e3 e4 e5 e6 e7 e8 e9 e10
      rw [hbe]
      rename_i scope _ _
      generalize hX : cxOf (L2N.CX P w) P w K mg base roundsN "_law_rounds" (defScope st) f cdv A outer s H E = X
      have XN : X.N = roundsN := by rw [← hX]; rfl
      have XK' : X.K = K := by rw [← hX]; rfl
      have Xm : X.mg = mg := by rw [← hX]; rfl
      have Xs : X.env.scope = defScope st := by rw [← hX]; rfl
      have Xc : X.calm = true := by rw [← hX]; rfl
      have XA : Room k X.A := by rw [← hX]; exact hr
      have FC' : FnOk X.prog X.w X.K X.mg X.base (L2N.CX X.prog X.w) k fC fdC cellN (spC X.K) := by rw [← hX]; exact FC
      have v0 : Vis X.env.scope "script" := by rw [Xs]; rcases S.par "script" (by decide) with h | h; exact .inl h; exact .inr (.inl h)
      have v1 : Vis X.env.scope "most" := by rw [Xs]; rcases S.par "most" (by decide) with h | h; exact .inl h; exact .inr (.inl h)
      have gl : ∀ x, glB (defScope st) x = true → Gl X x := fun x h => gl_of (by rw [Xs]; exact h)
      have bN : ∀ x ∈ bltNames, X.mg (Str.ofString x) = none := by rw [Xm]; exact blt
      have nd : X.N.Nodup := by rw [XN]; decide
      refine ⟨_, pss_one (ps_ret (pe_lc (own := [("k", 2)]) (g := gName 2) (tt := tYes) Xc nd
        (pi_range1 (gl _ g6) (bN "range" (by decide)) (pa_cons (pe_callB (call_max2 Xc) (gl _ g7) (bN "max" (by decide)) (by decide +kernel) (pa_cons pe_int (pa_cons (pe_callB (call_min2 Xc) (gl _ g8) (bN "min" (by decide)) (by decide +kernel)
          (pa_cons (pe_var (i := 1) (by rw [XN]; rfl) v1) (pa_cons (pe_callB call_len (gl _ g9) (bN "len" (by decide)) PySem.boot_len (pa_cons (pe_var (i := 0) (by rw [XN]; rfl) v0) pa_nil)) pa_nil))) pa_nil))) pa_nil))
        (by rw [XN, Xs]; exact blkOk_by g1)
        (fun s H C cl fp => by
          have tk := (tgOk_blk (X := X) (s := s) (H := H) (scope := scope) (cl := cl) (C := C) (fp := fp)) "k" g4
          exact pg_name (i := 2) nd (by rw [show (X.blk s H scope (compEnvC scope cl C X.env) fp).N = X.N from rfl, XN]; rfl) tk.1 tk.2)
        (fun s H C cl fp => pts_nil)
        (fun s H C cl fp => by
          have es : (X.blk s H scope (compEnvC scope cl C X.env) fp).env.scope = relS scope (defScope st) := by rw [← Xs]; rfl
          have bN : (X.blk s H scope (compEnvC scope cl C X.env) fp).N = roundsN := XN
          exact pe_lst (pa_cons (pe_callS (X := X.blk s H scope (compEnvC scope cl C X.env) fp) FC' XA (gl_of (by rw [es]; exact g5)) (show X.mg _ = _ by rw [Xm]; exact mC) (show PySem.W.keepIn X.K _ = true by rw [XK']; exact kC) (show Binds X.K _ _ _ by rw [XK']; exact bC) (fun σ => L2N.passAt takes0 σ)
            (pa_cons (pe_var (i := 0) (by rw [bN]; rfl) (vis_of (by rw [es]; exact g2))) (pa_cons (pe_var (i := 2) (by rw [bN]; rfl) (vis_of (by rw [es]; exact g3))) pa_nil))) (pa_cons pe_int pa_nil))))), ?_⟩
      refine ⟨.int m, rfl, .ref a, rfl, ?_⟩
      rw [XK']
      refine ⟨.ref a, _, rfl, .inl ⟨_, hS, rfl⟩, _, _, rfl, _, _, rfl, ?_⟩
      generalize hj : (if (if (((ns.map V.int).length : Nat) : Int) < m then (((ns.map V.int).length : Nat) : Int) else m) > 1 then (if (((ns.map V.int).length : Nat) : Int) < m then (((ns.map V.int).length : Nat) : Int) else m) else 1) = j
      have hj0 : 0 ≤ j ∧ j ≤ 1000 := by
        rw [← hj]
        simp only [List.length_map]
        split <;> split <;> omega
      refine ⟨j, rfl, by omega, by omega, fun D hD => ?_⟩
      refine lc_range (fun i H' => ∃ ps : List Addr, Same H H' ∧ H' D = some (.lst (ps.map V.ref)) ∧ D ∉ ps ∧ ps.Nodup ∧ (∀ p ∈ ps, ∃ z, H' p = some (.lst [.int z, .int 0])) ∧ ps.length = i) ⟨[], fun b o e => upd_keep hD b o e, upd_same, by simp, by simp, by simp, rfl⟩ ?_ ?_
      · rintro i H' hi ⟨ps, sm, hd, nD, np, hp, hl⟩
        refine ⟨rfl, ?_⟩
        unfold tYes
        dsimp only
        rw [if_pos rfl]
        refine ⟨_, rfl, _, rfl, a, ns, _, rfl, sm.seq hS, by omega, by omega, by omega, fun z H2 sm2 => ?_⟩
        refine ⟨by show 2 ≤ sizeLine; decide, fun p fp => ?_⟩
        have hd2 := sm2 _ _ hd
        have nDp : D ≠ p := ne_of_none hd2 fp
        have npp : p ∉ ps := fun z => by
          obtain ⟨z1, e⟩ := hp p z
          rw [sm2 _ _ e] at fp; cases fp
        refine ⟨ps.map V.ref, by rw [upd_ne nDp]; exact hd2, ?_, ps ++ [p], fun b o e => ?_, by rw [upd_same]; simp, ?_, ?_, fun b hb => ?_, by simp [hl]⟩
        · rw [sizeLine_eq]; simp; omega
        · have nb : b ≠ D := ne_of_none e hD
          rw [upd_ne nb]
          exact upd_keep fp b o (sm2 _ _ (sm _ _ e))
        · simp [nD, nDp]
        · rw [List.nodup_append]; exact ⟨np, by simp, fun x hx y hy => by simp at hy; subst hy; exact fun e => npp (e ▸ hx)⟩
        · have nb : b ≠ D := fun e => by subst e; rcases List.mem_append.mp hb with h | h; exact nD h; simp at h; exact nDp h
          rw [upd_ne nb]
          rcases List.mem_append.mp hb with h | h
          · obtain ⟨z1, e⟩ := hp b h
            exact ⟨z1, upd_keep fp _ _ (sm2 _ _ e)⟩
          · simp at h; subst h; exact ⟨z, upd_same⟩
      · rintro H' ⟨ps, sm, hd, nD, np, hp, hl⟩
        exact q D ps H' sm hd nD np hp
    · cases hb
end
end SG
namespace SG
open PySem PySem.Spec PyProof.Rows L2
section
variable {c : Cn} {F F1 F2 : Addr → Prop} {H H1 H2 : Hp} {d : Dice} {x dx : Addr} {o : HO}
theorem Step.upd0 (s : Step c F H F1 H1) (hx : H x = none) : Step c F H F1 (upd H1 x o) := by
  have ne : ∀ b q, H b = some q → b ≠ x := fun b q e z => by subst z; rw [hx] at e; cases e
  exact ⟨s.sub, s.new, fun b q e n t => by rw [upd_ne (ne b q e)]; exact s.keep b q e n t, fun a C dx fs n e f => by rw [upd_ne (ne a _ e)]; exact s.insN a C dx fs n e f, fun a C dx fs f e => by
    obtain ⟨fs', e'⟩ := s.insF a C dx fs f e
    exact ⟨fs', by rw [upd_ne (ne a _ e)]; exact e'⟩⟩
theorem le_updI {C : Addr} {fs gs : List (Str × V)} (hx : H x = some (.ins C dx fs)) (nx : ¬ F x) : Le F H F (upd H x (.ins C dx gs)) := by
  have ne : ∀ b q, H b = some q → (∀ C dx fs, q ≠ .ins C dx fs) → b ≠ x := fun b q e n z => by subst z; rw [hx] at e; cases e; exact n _ _ _ rfl
  have nf : ∀ b, F b → b ≠ x := fun b f z => nx (z ▸ f)
  exact ⟨fun _ h => h, fun b xs f e => by rw [upd_ne (nf b f)]; exact e, fun b xs e => by rw [upd_ne (ne b _ e (by intro _ _ _ z; cases z))]; exact e, fun b φ e => by rw [upd_ne (ne b _ e (by intro _ _ _ z; cases z))]; exact e, fun b C' dx' fs' f e => ⟨fs', by rw [upd_ne (nf b f)]; exact e⟩⟩
theorem Wf.updI (w : Wf c F H d) {C : Addr} {fs gs : List (Str × V)} (hx : H x = some (.ins C dx fs)) (nx : ¬ F x) : Wf c F (upd H x (.ins C dx gs)) d :=
  w.same (le_updI hx nx) w.nd (by rw [upd_ne (fun z => by rw [← z, w.die] at hx; cases hx)]; exact w.die) rfl (tabs_ext' w.tabs fun b o e n => by rw [upd_ne (fun z => by subst z; rw [hx] at e; cases e; exact n _ _ _ rfl)]; exact e)
    (fun b f => .inl ⟨f, fun C' dx' fs' e => by rw [upd_ne (show b ≠ x from fun z => nx (z ▸ f))] at e; exact e⟩) fun b f xs e => ⟨xs, by rw [upd_ne (show b ≠ x from fun z => nx (z ▸ f))]; exact e⟩
theorem Wf.lay (w : Wf c F H d) (hk : d.k = none) {vx vy vz : V} {a b e : D} (hx : H x = some (.ins c.dk dx [(fldN 0, vx), (fldN 1, vy), (fldN 2, vz)])) (qa : Dq c F H vx a) (qb : Dq c F H vy b) (qe : Dq c F H vz e) :
    Wf c (addF F x) H ⟨d.a, d.b, some (a, b, e)⟩ := by
  have hl : Le F H (addF F x) H := ⟨fun _ h => .inl h, fun _ _ _ e => e, fun _ _ e => e, fun _ _ e => e, fun _ _ _ fs _ e => ⟨fs, e⟩⟩
  have no : ∀ y C dx fs, F y → H y = some (.ins C dx fs) → False := fun y C dx fs f h => by
    obtain ⟨_, _, _, _, _, _, e1, _⟩ := (w.dsk y C dx fs f h).ex
    rw [hk] at e1; cases e1
  have one : ∀ y C dx' fs, addF F x y → H y = some (.ins C dx' fs) → y = x := fun y C dx' fs f h => f.elim (fun f => (no y C dx' fs f h).elim) id
  refine ⟨fun b f => f.elim (w.dom b) fun z => .inr ⟨dx, _, z ▸ hx⟩, fun z => z.elim w.nd fun z => ?_, w.die, w.tabs, fun y C dx' fs f h => ?_, fun y z C dx' fs C' dx'' fs' f h f' h' => (one y C dx' fs f h).trans (one z C' dx'' fs' f' h').symm⟩
  · rw [← z, w.die] at hx; cases hx
  · have e := one y C dx' fs f h
    subst e
    rw [hx] at h
    cases h
    exact ⟨_, _, _, _, _, _, rfl, rfl, qa.mono hl, qb.mono hl, qe.mono hl⟩
theorem Step.lay (s : Step c F H F1 H1) (hx : H x = none) : Step c F H (addF F1 x) H1 :=
  ⟨fun b f => .inl (s.sub b f), fun b f => f.elim (s.new b) fun z => .inr (.inl (.of (z ▸ hx))), s.keep, s.insN, s.insF⟩
end
def isInit (sc : Scope) : List Stmt → Bool
  | [.Expr (.Call (.Name g _) [.Name t1 _] [] _) _, .Assign [.Attribute (.Name s1 _) f1 _] (.Name t2 _) _, .Assign [.Attribute (.Name s2 _) f2 _] (.List [] _) _, .Assign [.Attribute (.Name s3 _) f3 _] (.List [] _) _] =>
    decide (g = "need_table") && glB sc g && decide (t1 = "table") && decide (t2 = "table") && decide (s1 = "self") && decide (s2 = "self") && decide (s3 = "self") && decide (f1 = fldN 0) && decide (f2 = fldN 1) && decide (f3 = fldN 2) && visB sc "table" && visB sc "self"
  | _ => false
def initN : List Str := ["self", "table"]
def initDf (n : Nat) : Df := ⟨1, 1, .seq (.ex (.call n (.cons (.var 0) .nil))) .nil⟩
theorem init_ev {defs : Nat → Option Df} {k n : Nat} {t : D} {d : Dice} (h : defs 900 = some (initDf n)) : evCall defs (k + 1) 900 [t] d = match evCall defs k n [t] d with
    | .ok _ d' => .ok .non d'
    | .err e d' => .err e d'
    | .bad => .bad := by
  simp only [evCall, h, initDf]
  simp [startE, evS, ev, Env.get, Res.bind, Res.of, tups]
  cases evCall defs k n [t] d <;> rfl
section
variable {P : Program} {w : World} {K : PySem.W.Frag} {mg : Str → Option Value} {base : Heap} {tb tm : Tb} {c : Cn} {er : Nat → Option Str} {ex : CkX} {cl : Nat → Addr} {dk : Addr}
theorem init_ok {defs : Nat → Option Df} {qual : Str} {st : Stmt} {f : Addr} {fd : FuncData} {k n : Nat} (F : Fun K "__init__" qual st f fd) (hs : scB initN initN (defScope st) = true) (hi : isInit (defScope st) (defBody st) = true) (hn : tb.fnm n = some "need_table") (h900 : defs 900 = some (initDf n))
    (dkc : DeskC c.dk K) (ih : FnsAt P w K mg base tb c defs k) : FnOk P w K mg base (L2N.CX P w) (k + 1) f fd initN (spInit c (evCall defs (k + 1))) := by
  have S := scB_ok hs
  refine okN F S (fun vs H Q E h => ?_) fun cdv A outer s H vs Q E _ hr h => ?_
  · obtain ⟨_, _, _, _, _, _, _, rfl, _⟩ := h; rfl
  · obtain ⟨F0, d, t, v, x, dx, H1, rfl, eH, nx, ndx, nn, wf, dq, h⟩ := h
    obtain ⟨_, fa, fdn, psn, mn, kp, bn, ok⟩ := ih n _ hn
    generalize hB : defBody st = B at hi
    unfold isInit at hi
    split at hi
    · rename_i g pg t1 p1 p2 p3 s1 p4 f1 p5 t2 p6 p7 s2 p8 f2 p9 p10 p11 s3 p12 f3 p13 p14 p15
      simp only [Bool.and_eq_true] at hi
      obtain ⟨⟨⟨⟨⟨⟨⟨⟨⟨⟨⟨i1, i2⟩, i3⟩, i4⟩, i5⟩, i6⟩, i7⟩, i8⟩, i9⟩, i10⟩, i11⟩, i12⟩ := hi
      have j1 := of_decide_eq_true i1
      have j3 := of_decide_eq_true i3
      have j4 := of_decide_eq_true i4
      have j5 := of_decide_eq_true i5
      have j6 := of_decide_eq_true i6
      have j7 := of_decide_eq_true i7
      have j8 := of_decide_eq_true i8
      have j9 := of_decide_eq_true i9
      have j10 := of_decide_eq_true i10
      subst j1 j3 j4 j5 j6 j7 j8 j9 j10
      have tk : L2N.Takes (cxOf (L2N.CX P w) P w K mg base initN qual (defScope st) f cdv A outer s H E) (fun cls d _ H' => E cls d H') := L2N.takes_of rfl rfl rfl rfl
      have pvT : ∀ p, PE (cxOf (L2N.CX P w) P w K mg base initN qual (defScope st) f cdv A outer s H E) (.Name "table" p) (tVar 1) := fun p => pe_var rfl (vis_of i11) (by decide) (by decide)
      have pvS : ∀ p, PE (cxOf (L2N.CX P w) P w K mg base initN qual (defScope st) f cdv A outer s H E) (.Name "self" p) (tVar 0) := fun p => pe_var rfl (vis_of i12) (by decide) (by decide)
      have c1 := pe_callS (p := pg) (pos := p2) (E := fun (σ : L2.St) cls d H => E cls d H) ok hr (gl_of i2) mn kp bn (fun σ => L2N.passAt tk σ) (pa_cons (pvT p1) pa_nil rfl) (by decide) rfl rfl
      refine ⟨_, pss_cons (ps_expr c1 rfl) (pss_cons (ps_fld (pvS p4) (pvT p6) rfl) (pss_cons (ps_fld (pvS p8) (pe_lst pa_nil) rfl) (pss_cons (ps_fld (pvS p12) (pe_lst pa_nil) rfl) pss_nil))), ?_⟩
      rw [init_ev h900] at h
      have n2 : upd H1 dx (.own x) x = none := by rw [upd_ne (Ne.symm nn)]; exact nx
      have w1 : Wf c F0 H d := by rw [eH]; exact (wf.new' ndx).new' n2
      have s1 : Step c F0 H1 F0 H := by rw [eH]; exact (Step.new' ndx).trans (.new' n2)
      have hx1 : H x = some (.ins c.dk dx []) := by rw [eH, upd_same]
      have nF : ¬ F0 x := wf.fresh_F nx
      have ndc : x ≠ c.dc := wf.fresh_ne nx
      refine ⟨v, rfl, F0, d, [t], w1, .cons (dq.mono (s1.le wf)) .nil, ?_⟩
      cases eo : evCall defs k n [t] d with
      | bad => rw [eo] at h; exact h
      | err j d' => rw [eo] at h; exact fun H' F' st wf' => h H' F' (s1.trans st) wf'
      | ok z d' =>
        rw [eo] at h
        obtain ⟨hk, h⟩ := h
        intro _ H' F' st wf' _
        have hx' : H' x = some (.ins c.dk dx []) := st.insN x _ dx [] ndc hx1 nF
        have nF' : ¬ F' x := fun z => (st.new x z).elim nF fun z => z.elim (fun z => z.notI hx1) ndc
        have wa : Wf c F' (upd H' x (.ins c.dk dx [(fldN 0, v)])) d' := wf'.updI hx' nF'
        have sa : Step c F0 H1 F' (upd H' x (.ins c.dk dx [(fldN 0, v)])) := (s1.trans st).upd0 nx
        have dv : Dq c F' (upd H' x (.ins c.dk dx [(fldN 0, v)])) v t := dq.mono (sa.le wf)
        refine ⟨v, rfl, .ref x, rfl, x, c.dk, dx, [], rfl, hx', dkc.cls, dkc.no 0 (by decide), by decide, Nat.zero_le _, fun p hp => ⟨.ref x, rfl, x, c.dk, dx, [(fldN 0, v)], rfl, ?_, dkc.cls, dkc.no 1 (by decide), (by show 1 < 1000; decide), Nat.zero_le _, fun q hq => ⟨.ref x, rfl, x, c.dk, dx, [(fldN 0, v), (fldN 1, .ref p)], rfl, ?_, dkc.cls, dkc.no 2 (by decide), (by show 2 < 1000; decide), ?_⟩⟩⟩
        · exact upd_keep hp _ _ upd_same
        · exact upd_keep hq _ _ upd_same
        · have ha : (upd H' x (.ins c.dk dx [(fldN 0, v)])) x = some (.ins c.dk dx [(fldN 0, v)]) := upd_same
          generalize hHa : upd H' x (.ins c.dk dx [(fldN 0, v)]) = Ha at wa sa dv ha
          have hp' : Ha p = none := hHa ▸ hp
          have wb := wa.newF (xs := []) hp'
          have sb := sa.trans (Step.newF (c := c) (F := F') (o := .lst []) hp')
          have dvb := dv.mono (le_newF (F := F') (o := .lst []) hp')
          have dp := Dq.newL wa hp' .nil
          have hb : upd Ha p (.lst []) x = some (.ins c.dk dx [(fldN 0, v)]) := upd_keep hp' _ _ ha
          have nb : ¬ addF F' p x := fun z => z.elim nF' fun z => by subst z; rw [ha] at hp'; cases hp'
          have wc := wb.updI (gs := [(fldN 0, v), (fldN 1, .ref p)]) hb nb
          have sc := sb.upd0 (o := .ins c.dk dx [(fldN 0, v), (fldN 1, .ref p)]) nx
          have lc := le_updI (gs := [(fldN 0, v), (fldN 1, .ref p)]) hb nb
          have dvc := dvb.mono lc
          have dpc := dp.mono lc
          have hc : (upd (upd Ha p (.lst [])) x (.ins c.dk dx [(fldN 0, v), (fldN 1, .ref p)])) x = some (.ins c.dk dx [(fldN 0, v), (fldN 1, .ref p)]) := upd_same
          generalize hHc : upd (upd Ha p (.lst [])) x (.ins c.dk dx [(fldN 0, v), (fldN 1, .ref p)]) = Hc at wc sc dvc dpc hc
          have hq' : Hc q = none := by rw [← hHc, ← hHa]; exact hq
          have wd := wc.newF (xs := []) hq'
          have sd := sc.trans (Step.newF (c := c) (F := addF F' p) (o := .lst []) hq')
          have dvd := dvc.mono (le_newF (F := addF F' p) (o := .lst []) hq')
          have dpd := dpc.mono (le_newF (F := addF F' p) (o := .lst []) hq')
          have dqd := Dq.newL wc hq' .nil
          have hd : upd Hc q (.lst []) x = some (.ins c.dk dx [(fldN 0, v), (fldN 1, .ref p)]) := upd_keep hq' _ _ hc
          have nd : ¬ addF (addF F' p) q x := fun z => z.elim nb fun z => by subst z; rw [hc] at hq'; cases hq'
          have we := wd.updI (gs := [(fldN 0, v), (fldN 1, .ref p), (fldN 2, .ref q)]) hd nd
          have se := sd.upd0 (o := .ins c.dk dx [(fldN 0, v), (fldN 1, .ref p), (fldN 2, .ref q)]) nx
          have le := le_updI (gs := [(fldN 0, v), (fldN 1, .ref p), (fldN 2, .ref q)]) hd nd
          have wz := we.lay hk (x := x) (dx := dx) upd_same (dvd.mono le) (dpd.mono le) (dqd.mono le)
          have fin := h (fun b fb => ?_) _ _ _ (se.lay nx) wz (.inr rfl) upd_same
          · rw [← hHc, ← hHa] at fin; exact fin
          · rcases wf.dom b fb with h | ⟨dx', fs', h⟩
            · exact h
            · obtain ⟨fs'', e2⟩ := (s1.trans st).insF b _ dx' fs' fb h
              obtain ⟨_, _, _, _, _, _, e1, _⟩ := (wf'.dsk _ _ _ _ ((s1.trans st).sub b fb) e2).ex
              rw [hk] at e1; cases e1
    · cases hi
end
end SG
namespace SG
open PySem PySem.Spec PyProof.Rows L2 HotX L2H
section
variable {prog : Program} {w : World} {A : Around} {E : Value → Shared → Prop} {s : Shared}
theorem list_end_hot {it l x1 : Addr} {i : Nat} {items : Array Value} {Q : Option Value → Shared → Prop} (hot : HotAt A x1 s.heap) (hx1 : x1 ≠ it)
    (hit : s.heap.IsListIter it l i) (hl : s.heap.IsList l items) (hx : items[i]? = none)
    (hQ : ∀ h', (∀ b o, b ≠ it → s.heap.get? b = some o → h'.get? b = some o) → Q none { s with heap := h' }) : wpAny (model prog w) A (pyNext (.ref it)) Q E s := by
  obtain ⟨o, ho, hc, hd⟩ := id hit
  obtain ⟨ol, hol, _, nl, hdl⟩ := hl
  obtain ⟨hh, o1, vs1, h1, d1, c1⟩ := hot
  unfold pyNext
  refine wpAny_bind (wpAny_attempt (wpAny_callSpecial?_slot (name := Str.ofString "__next__") hit.typeIs slot_listiter_next
    (wpAny_call_entry slot_listiter_next hit.typeIs entry_listiter_next ?_ (args_listiter_next _))))
  show wpAny _ _ (field (.ref it) 0 >>= _) _ _ s
  refine wpAny_bind (wpAny_field ho hd (x := .ref l) rfl ?_)
  show wpAny _ _ (if (Value.ref l == Value.none) = true then _ else _) _ _ s
  rw [if_neg (show ¬ ((Value.ref l == Value.none) = true) from Bool.false_ne_true)]
  show wpAny _ _ (field (.ref it) 1 >>= _) _ _ s
  refine wpAny_bind (wpAny_field ho hd (x := .int i 0) rfl ?_)
  show wpAny _ _ (seqItems? (.ref l) >>= _) _ _ s
  refine wpAny_bind (wpAny_seqItems hol hdl ?_)
  simp only [Int.toNat_natCast, hx]
  refine wpAny_bind (wpAny_rule (wpAny_bind (wpAny_setField ho hd (by simp) ?_)))
  have h1' : ∀ g, (s.heap.update it g).get? x1 = some o1 := fun g => by rw [Heap.get?_update_other _ _ (Ne.symm hx1)]; exact h1
  show wpAny _ _ (newExc (.type "StopIteration") [] >>= _) _ _ _
  refine wpAny_bind ?_
  simp only [newExc, newTuple]
  refine wpAny_bind (wpAny_newObj_type ?_ (by size_fits))
  refine wpAny_bind (m := firstArgMember _ _) (wpAny_of_eq (a := Value.none) (by first | rfl | (simp only [firstArgMember]; rfl)) ?_)
  refine wpAny_newObj_type ?_ (by size_fits)
  refine raiseNew_hot ⟨hh, o1, vs1, Heap.get?_push_of_some _ (Heap.get?_push_of_some _ (h1' _)), d1, c1⟩ (Nat.ne_of_lt (Heap.lt_size (Heap.get?_push_of_some _ (h1' _)))) (Heap.get?_push_size _ rfl) rfl (by first | (simp; done) | (simp; omega) | (simp only [Array.size_append]; simp; omega)) ?_
  refine wpAny_bind (wpAny_isInstance (T := "StopIteration") (b := true) ⟨_, Heap.get?_update_self _ (Heap.get?_push_size _ rfl) rfl, rfl⟩ isSubtype_stop ?_)
  refine wpAny_pure (hQ _ fun b o hb e => ?_)
  have e2 : ∀ g, (s.heap.update it g).get? b = some o := fun g => by rw [Heap.get?_update_other _ _ (Ne.symm hb)]; exact e
  rw [Heap.get?_update_other _ _ (Nat.ne_of_gt (Heap.lt_size (Heap.get?_push_of_some _ (e2 _))))]
  exact Heap.get?_push_of_some _ (Heap.get?_push_of_some _ (e2 _))
def Held (h : Heap) (x1 : Addr) : Prop := ∃ (o : Obj) (vs : Array Value), h.get? x1 = some o ∧ o.data = .fields vs ∧ vs[2]? = some .none
theorem walks_hot {x1 : Addr} (hh : A.handled = some (.ref x1)) (I ax : Addr) (hne : ax ≠ I) (hx1 : x1 ≠ I) (items : Array Value) :
    Walks prog w A I [I, ax, x1] [I] items.size (fun i v => items[i]? = some v) (fun i h => h.IsListIter I ax i ∧ h.IsList ax items ∧ Held h x1) where
  sub := fun b hb => by simp at hb; simp [hb]
  frame := fun _ _ _ st hk => ⟨st.1.at fun o e => hk I (by simp) o e, st.2.1.at fun o e => hk ax (by simp) o e, let ⟨o, vs, e, r⟩ := st.2.2; ⟨o, vs, hk x1 (by simp) o e, r⟩⟩
  item := fun i s Q E hi st hQ => by
    refine wpAny_pyNext_list_item st.1 st.2.1 (x := items[i]) (by simp [hi]) fun h' hit' hs' => ?_
    refine hQ _ h' s.toks (by simp [hi]) ⟨hit', st.2.1.extBut hs'.extBut hne, ?_⟩ fun b o hb e => hs'.extBut b o (fun h => hb (by simp [h])) e
    obtain ⟨o, vs, e, r⟩ := st.2.2
    exact ⟨o, vs, hs'.extBut x1 o hx1 e, r⟩
  done := fun s Q E st hQ => by
    obtain ⟨o, vs, e, r⟩ := st.2.2
    exact list_end_hot ⟨hh, o, vs, e, r⟩ hx1 st.1 st.2.1 (by simp) fun h' he' => hQ h' s.toks fun b o hb e => he' b o (fun h => hb (by simp [h])) e
  self := fun _ _ _ _ st hQ => wpAny_pyIter_listiter st.1 hQ
theorem sum_hot {x1 l : Addr} {its : List Value} {ns : List Int} {Q : Value → Shared → Prop} (hot : HotAt A x1 s.heap) (hl : s.heap.IsList l its.toArray) (hi : IntsAre its ns)
    (h : ∀ h' tk t', (∀ b o, s.heap.get? b = some o → h'.get? b = some o) → Q (.int ns.sum t') { s with heap := h', toks := tk }) : wpAny (model prog w) A (call (.builtin "sum") [.ref l]) Q E s := by
  obtain ⟨xs, e⟩ := hi.allInts.items
  have hn : numsOf (intItems xs).toList = ns := by rw [← e]; exact hi.numsOf
  rw [nums_intItems] at hn
  rw [e] at hl
  obtain ⟨hh, o1, vs1, h1, d1, c1⟩ := hot
  refine call_sum_walkG (iter_intList hl fun s₂ e st hfp hlI => ?_)
  have hx : x1 < s.heap.objs.size := Heap.lt_size h1
  have h1' : s₂.heap.get? x1 = some o1 := by rw [e]; exact Heap.get?_push_of_some _ h1
  refine ⟨_, _, _, _, _, _, numAt xs, rfl, walks_hot (A := A.in1) hh _ l hlI (Nat.ne_of_lt hx) (intItems xs), ⟨st.1, st.2, o1, vs1, h1', d1, c1⟩, fun b hb => ?_, (fun _ _ => intItems_at), fun h' tk t' hk => ?_⟩
  · rcases (by simpa using hb : b = s.heap.objs.size ∨ b = l ∨ b = x1) with z | z | z
    · exact hfp b (by simp [z])
    · exact hfp b (by simp [z])
    · rw [z]; exact Heap.lt_size h1'
  · subst e
    have := h h' tk t' (old_kept hk)
    have e3 : preSum (numAt xs) xs.size = ns.sum := by rw [preSum_eq, List.take_of_length_le (by simp), hn]
    have e4 : (intItems xs).size = xs.size := by simp [intItems]
    rw [e4, e3]
    exact this
end
section
variable {X : Cx}
theorem cr_sumH (hc : HotC X) : CallR X (.builtin "sum") (rSum X.K) := by
  intro pins s σ H vs us Q I r h
  obtain ⟨a, ns, rfl, hs, q⟩ := h
  obtain ⟨its, rv, hl, _⟩ := I.list hs
  rw [Vals.ref1 r]
  obtain ⟨x1, hot⟩ := hc.at I
  exact sum_hot hot hl.isList rv.ints fun h' tk t' hk => ⟨.int _, H, I.kept hk, ⟨_, rfl⟩, q⟩
end
end SG
namespace SG
open PySem PySem.Spec PyProof.Rows L2 HotX L2H
section
variable {X : Cx} {pins : List (Addr × Obj)} {σ : L2.St} {H : Hp} {s : Shared} {E : Value → Shared → Prop} {a it : Addr}
theorem list_item {tg : Expr} {i : Nat} (I : Inv X pins σ H s) (hf : FpOk X pins H it) (st : s.heap.IsListIter it a i) (hg : (Itl X.K a).go i H) :
    wpAny (model X.prog X.w) X.A (pyNext (.ref it)) (fun r s1 => ∃ u, r = some u ∧
      wpAny (model X.prog X.w) X.A (letOwnedTupleGo tg (.ref it) u) (fun _ s2 => ∃ x H', Inv X pins σ H' s2 ∧ RelV x u ∧ (Itl X.K a).yld i H x H' ∧ s2.heap.IsListIter it a (i + 1) ∧ H' it = none) E s1) E s := by
  obtain ⟨xs, x, hq, hx⟩ := hg
  obtain ⟨its, rv, p, hz⟩ := I.list hq
  obtain ⟨u, hu, ru⟩ := rv.get hx
  obtain ⟨f0, f1, f2, f3, f4, f5⟩ := hf
  refine wpAny_pyNext_list_item st p.isList (x := u) (by simpa using hu) fun h' st' sb => ?_
  have I1 : Inv X pins σ H { s with heap := h' } := I.turned (t' := s.toks) (fun b o hb e => (sb.2 b hb).trans e) f0 f1 f3 f4 f5
  obtain ⟨o, e, c, d⟩ := id st'
  exact ⟨u, rfl, go_of (s := { s with heap := h' }) e c d (by decide) ⟨x, H, I1, ru, ⟨rfl, fun ys hy => by rw [I.list_inj hy hq]; exact hx⟩, st', f0⟩⟩
theorem list_stop {i : Nat} {x1 : Addr} (hot : HotAt X.A x1 s.heap) (hx1 : x1 ≠ it) (I : Inv X pins σ H s) (hf : FpOk X pins H it) (st : s.heap.IsListIter it a i) (hg : (Itl X.K a).stop i H) :
    wpAny (model X.prog X.w) X.A (pyNext (.ref it)) (fun r s1 => r = none ∧ Inv X pins σ H s1) E s := by
  obtain ⟨xs, hq, hx⟩ := hg
  obtain ⟨its, rv, p, hz⟩ := I.list hq
  obtain ⟨f0, f1, f2, f3, f4, f5⟩ := hf
  have hl := rv.length
  exact list_end_hot hot hx1 st p.isList (by simp; omega) fun h' eb => ⟨rfl, I.turned (t' := s.toks) (fun b o hb e => eb b o hb e) f0 f1 f3 f4 f5⟩
end
section
variable {X : Cx}
theorem pe_lcH {elt tg iter : Expr} {scope : Scope} {own : List (Str × Nat)} {pos : Pos} {tl te : TE} {g : TG} (hc : HotC X) (hN : X.N.Nodup) (hi : PE X iter tl) (ok : BlkOk X.N X.env.scope scope own)
    (hg : ∀ (s : Shared) (H : Hp) (C : Addr) (cl : List (Str × Addr)) (fp : List Addr), PG (X.blk s H scope (compEnvC scope cl C X.env) fp) tg g)
    (he : ∀ (s : Shared) (H : Hp) (C : Addr) (cl : List (Str × Addr)) (fp : List Addr), PE (X.blk s H scope (compEnvC scope cl C X.env) fp) elt te) (hs : ∀ x, foldedSetIterable iter X.env x = pure x := by intro _; rfl) :
    PE X (.ListComp elt [⟨tg, iter, [], 0⟩] scope pos) (tLc (iList X.K tl) g tYes te (own.map (·.2))) := by
  refine ⟨fun pins s σ H Q I h => ?_⟩
  rw [eval_ListComp]
  have hfree : ∀ y ∈ scope.names, y.2 = .free → ∃ c, X.env.cells.lookup y.1 = some c := fun y hy e => by
    rcases ok.free y hy e with k | k
    · exact I.ok.has _ (.inl k)
    · exact I.ok.has _ (.inr k)
  refine wpAny_comprehension_free (use := none) rfl hs (closure_ok hfree) ok.kind (fun y hy e => by rw [ok.uniq y hy, e])
    (thn (hi.run pins s σ H _ I h) fun xv s1 ⟨x, H1, I1, r1, q1⟩ => ?_)
  obtain ⟨a, e, ⟨xs, hq⟩, q⟩ := q1
  subst e
  cases r1
  obtain ⟨its, rv, p, hz⟩ := I1.list hq
  refine wpAny_pyIter_list p.isList ?_
  generalize hit : s1.heap.objs.size = it
  have st2 : (s1.heap.push { cls := .type "list_iterator", data := .fields #[.ref a, .int 0 0] }).IsListIter it a 0 := ⟨_, by rw [← hit]; exact Heap.get?_push_size _ rfl, rfl, rfl⟩
  have I2 : Inv X pins σ H1 { s1 with heap := s1.heap.push { cls := .type "list_iterator", data := .fields #[.ref a, .int 0 0] } } := I1.kept (t' := s1.toks) fun b o e => Heap.get?_push_of_some _ e
  have f2 : FpOk X pins H1 it := by rw [← hit]; exact I1.fpOk (Nat.le_refl _) (I1.hok.fresh (Nat.le_refl _))
  obtain ⟨px, hpx, hpm⟩ := hc
  have pin2 := I2.pin px (List.mem_append_left _ hpm)
  generalize hs2 : ({ s1 with heap := s1.heap.push { cls := .type "list_iterator", data := .fields #[.ref a, .int 0 0] } } : Shared) = s2 at I2 pin2
  have st2' : s2.heap.IsListIter it a 0 := by rw [← hs2]; exact st2
  have hitl : it < s2.heap.objs.size := by rw [← hs2, ← hit]; show _ < (s1.heap.push _).objs.size; rw [Heap.size_push]; exact Nat.lt_succ_self _
  have hx1 : px.1 ≠ it := by
    have := (I1.pin px (List.mem_append_left _ hpm)).1
    rw [← hit]
    exact Nat.ne_of_lt (Heap.lt_size this)
  refine wpAny_newObj_type (newEnv_comp ?_) (by show 0 ≤ sizeLine; decide)
  generalize hD : s2.heap.objs.size = D
  have hDn : H1 D = none := I2.hok.fresh (Nat.le_of_eq hD)
  obtain ⟨W, ⟨m0, w0⟩, turn⟩ := q D hDn
  generalize hs3 : ({ s2 with heap := s2.heap.push { cls := .type "list", data := .seq ([] : List Value).toArray } } : Shared) = s3
  have h3 : s3.heap = s2.heap.push { cls := .type "list", data := .seq ([] : List Value).toArray } := by rw [← hs3]
  have I3 : Inv X pins σ (upd H1 D (.lst [])) s3 := by
    rw [← hs3]
    refine I2.laid (t' := s2.toks) (fun b o e => Heap.get?_push_of_some _ e) (Nat.le_of_eq hD) ⟨Nat.zero_le _, [], 0, .nil, ?_⟩
    rw [← hD]
    exact Heap.get?_push_size _ rfl
  have f3 : ∀ b ∈ [it], FpOk X pins (upd H1 D (.lst [])) b ∧ b < s3.heap.objs.size := fun b hb => by
    have e : b = it := by simpa using hb
    subst e
    refine ⟨⟨?_, f2.2⟩, by rw [h3, Heap.size_push]; exact Nat.lt_succ_of_lt hitl⟩
    rw [upd_ne (by rw [← hD]; exact Nat.ne_of_lt hitl)]
    exact f2.1
  have st3 : s3.heap.IsListIter it a 0 := st2'.at fun o e => by rw [h3]; exact Heap.get?_push_of_some _ e
  have pin3 := I3.pin px (List.mem_append_left _ hpm)
  have I4 := block_start I3 ok hN f3
  have pg := hg s3 (upd H1 D (.lst [])) s3.heap.objs.size (cellsFrom (s3.heap.objs.size + 1) scope.names (cloFrom X.env.cells scope.names [])) [it]
  have pe := he s3 (upd H1 D (.lst [])) s3.heap.objs.size (cellsFrom (s3.heap.objs.size + 1) scope.names (cloFrom X.env.cells scope.names [])) [it]
  show codeAny _ _ (.compStart (.ListComp elt [⟨tg, iter, [], 0⟩] scope pos) 0 (.ref it) (.ref D) (compEnvC scope (cellsFrom (s3.heap.objs.size + 1) scope.names (cloFrom X.env.cells scope.names [])) s3.heap.objs.size X.env)) (compPost (model X.prog X.w) X.A X.xe none _ (.ref D) s3.heap.objs.size) { s3 with heap := pushCells (s3.heap.push { cls := .type "dict", data := .dict #[] }) scope.names }
  have nfp : (upd H1 D (.lst [])) it = none := (f3 it (by simp)).1.1
  generalize hce : compEnvC scope (cellsFrom (s3.heap.objs.size + 1) scope.names (cloFrom X.env.cells scope.names [])) s3.heap.objs.size X.env = ce at I4 pg pe ⊢
  have cL : ce.locals = s3.heap.objs.size := by subst hce; rfl
  generalize hH3 : upd H1 D (.lst []) = H3 at I3 I4 pg pe w0 nfp f3 pin3
  generalize hs4 : ({ s3 with heap := pushCells (s3.heap.push { cls := .type "dict", data := .dict #[] }) scope.names } : Shared) = s4 at I4 ⊢
  have st4 : s4.heap.IsListIter it a 0 := st3.at fun o e => by rw [← hs4]; exact pushCells_keeps _ _ _ _ (Heap.get?_push_of_some _ e)
  have stat : ∀ {σ' : L2.St} {H' : Hp} {s' : Shared}, Inv (X.blk s3 H3 scope ce [it]) [] σ' H' s' → H' it = none → ∀ b ∈ [it], FpOk (X.blk s3 H3 scope ce [it]) [] H' b := fun {σ' H' s'} I' hn b hb =>
    ⟨by have e : b = it := by simpa using hb
        rw [e]; exact hn, (I'.ok.exf b hb).1, I'.ok.exfs b hb, .inl hb, fun x c e => (I'.ok.exf b hb).2 x c e, fun p hp => absurd (show p ∈ ([] : List (Addr × Obj)) ++ [] from hp) (by simp)⟩
  have objs : ∀ {i : Nat} {h : Heap}, h.IsListIter it a i → ∀ b ∈ [it], ∃ o, h.get? b = some o ∧ ∀ v, o.data ≠ .cell v := fun {i h} st b hb => by
    have e : b = it := by simpa using hb
    subst e
    obtain ⟨o, e, c, d⟩ := st
    exact ⟨o, e, fun v z => by rw [d] at z; cases z⟩
  have hot5 : ∀ {σ' : L2.St} {H' : Hp} {s' : Shared}, Inv (X.blk s3 H3 scope ce [it]) [] σ' H' s' → HotAt X.A px.1 s'.heap := fun {σ' H' s'} I' => by
    obtain ⟨hh, v1, e1, c1⟩ := hpx
    refine ⟨hh, px.2, v1, I'.base.keep px.1 px.2 pin3.1 pin3.2.1 (fun hm => ?_) (by simpa using hx1), e1, c1⟩
    rcases List.mem_cons.mp (I3.stkSub px.1 hm) with z | z
    · exact pin3.2.2.1 z
    · exact pin3.2.2.2.1 z
  have loop : codeAny (model X.prog X.w) X.A (.compLoop (.ListComp elt [⟨tg, iter, [], 0⟩] scope pos) 0 (.ref it) (.ref D) ce) (compPost (model X.prog X.w) X.A X.xe none (EP X pins σ Q) (.ref D) s3.heap.objs.size) s4 := by
    refine compLoop_any (fun n s' => ∃ i H', Inv (X.blk s3 H3 scope ce [it]) [] (wipe σ (own.map (·.2))) H' s' ∧ s'.heap.IsListIter it a i ∧ H' it = none ∧ W i n H') ?_ m0 ⟨0, H3, I4, st4, nfp, w0⟩
    rintro n s5 ⟨i, H5, I5, st5, n5, w5⟩
    rcases turn i n H5 w5 with ⟨stop, qq⟩ | ⟨go, Nx, hNx, step⟩
    · have td := list_stop (X := X.blk s3 H3 scope ce [it]) (E := fun _ _ => False) (hot5 I5) hx1 I5 (stat I5 n5 it (by simp)) st5 stop
      refine thnF td fun r s6 ⟨hr, I6⟩ => ?_
      subst hr
      have I7 : Inv X pins σ H5 s6 := I3.call' (ch := [it]) I6.os I6.base I6.hok I6.bare fun b hb => ⟨(f3 b hb).1.2.2.2.1, (f3 b hb).1.2.1, (f3 b hb).1.2.2.2.2.1, (f3 b hb).1.2.2.2.2.2⟩
      have nC : H5 s3.heap.objs.size = none := by
        have z : H5 ce.locals = none := I6.free
        rw [cL] at z
        exact z
      obtain ⟨m, hn, _⟩ := I6.loc
      have hn : s6.heap.Ns ce.locals m := hn
      rw [cL] at hn
      refine ⟨m, hn, fun h'' sb => ?_⟩
      obtain ⟨f0, f1, f2, f3, f4, f5⟩ := I3.fpOk (Nat.le_refl _) nC
      exact ⟨.ref D, H5, I7.turned (t' := s6.toks) (fun b o hb e => (sb.2 b hb).trans e) f0 f1 f3 f4 f5, rfl, qq⟩
    · have ti := list_item (X := X.blk s3 H3 scope ce [it]) (tg := tg) (E := fun _ _ => False) I5 (stat I5 n5 it (by simp)) st5 go
      refine thnF ti fun r s6 ⟨u, hr, h6⟩ => ?_
      subst hr
      refine thnF h6 fun _ s7 ⟨x, H7, I7, r7, y7, st7, n7⟩ => ?_
      have I7' := I7.pinned (stat I7 n7) (objs st7)
      refine thnF (pg.run _ s7 _ H7 x u _ I7' r7 (step x H7 y7)) fun _ s8 ⟨σ8, H8, I8, hw8, q8⟩ => ?_
      have fin : ∀ {s' : Shared} {H' : Hp}, Inv (X.blk s3 H3 scope ce [it]) ([] ++ pinsAt [it] s7.heap) σ8 H' s' → Nx H' → ∃ m, m < n ∧ ∃ i H', Inv (X.blk s3 H3 scope ce [it]) [] (wipe σ (own.map (·.2))) H' s' ∧ s'.heap.IsListIter it a i ∧ H' it = none ∧ W i m H' := fun {s' H'} I' nx => by
        obtain ⟨m', hm, w'⟩ := hNx H' nx
        have pin' : ∀ b ∈ [it], ∀ o, s7.heap.get? b = some o → s'.heap.get? b = some o ∧ H' b = none := fun b hb o e =>
          let z := I'.pin (b, o) (List.mem_append_right _ (List.mem_append_right _ (mem_pinsAt hb e)))
          ⟨z.1, z.2.1⟩
        have hl : (wipe σ (own.map (·.2))).length = σ8.length := by rw [← hw8, wipe_length]
        refine ⟨m', hm, i + 1, H', (I'.unpinned (pins := [])).weak hl (fun j v e => ?_), st7.at fun o e => (pin' it (by simp) o e).1, ?_, w'⟩
        · rw [← hw8] at e
          exact (wipe_some e).1
        · obtain ⟨o, e, _⟩ := objs st7 it (by simp)
          exact (pin' it (by simp) o e).2
      have q9 : te σ8 H8 fun y H4 => ∃ acc, H4 D = some (.lst acc) ∧ acc.length < sizeLine ∧ Nx (upd H4 D (.lst (acc ++ [y]))) := by
        unfold tYes at q8
        simpa using q8
      refine thnF (show wpAny _ _ (forIn ([] : List Expr) true _) (fun b s9 => b = true ∧ s9 = s8) _ s8 from wpAny_pure ⟨rfl, rfl⟩) fun b s9 ⟨hb, hs9⟩ => ?_
      subst hb hs9
      simp only [if_true]
      refine thnF (pe.run _ s9 σ8 H8 _ I8 q9) fun z s10 ⟨yv, H10, I10, r10, acc, hD10, hz10, nx⟩ => ?_
      exact app_ok (X := X.blk s3 H3 scope ce [it]) I10 hD10 hz10 r10 fun s11 I11 => fin I11 nx
  exact codeAny_compStart_list loop (wpAny_pyIter_listiter st4 loop)
end
end SG
namespace SG
open PySem PySem.Spec PyProof.Rows L2 HotX L2H
def errN : List Str := ["InvalidTable", "InvalidRight", "InvalidPlace", "InvalidSign", "InvalidText", "NotSquare", "NotInvertible", "NotNegative", "TooLarge", "Unchanged", "NothingToUndo"]
def termN : List Str := ["e", "flags", "kinds", "flag"]
def isIs (nm : Str) : Expr → Bool
  | .Call (.Name x _) [.Name y _, .Name z _] [] _ => decide (x = "isinstance") && decide (y = "e") && decide (z = nm)
  | _ => false
def isIss : List Str → List Expr → Bool
  | [], [] => true
  | nm :: r, x :: l => isIs nm x && isIss r l
  | _, _ => false
def isSt (nm : Str) : Expr → Bool
  | .Constant (.str z) _ _ => decide (z = nm)
  | _ => false
def isSts : List Str → List Expr → Bool
  | [], [] => true
  | nm :: r, x :: l => isSt nm x && isSts r l
  | _, _ => false
def isTerm (sc : Scope) : List Stmt → Bool
  | [.Assign [.Name f1 _] (.List l1 _) _,
     .Assign [.Name f2 _] (.BinOp (.Name f3 _) .Add (.List l2 _) _) _,
     .Assign [.Name f4 _] (.BinOp (.Name f5 _) .Add (.List l3 _) _) _,
     .Assign [.Name f6 _] (.BinOp (.Name f7 _) .Add (.List l4 _) _) _,
     .Assign [.Name k1 _] (.List m1 _) _,
     .Assign [.Name k2 _] (.BinOp (.Name k3 _) .Add (.List m2 _) _) _,
     .If (.BoolOp .Or [.Compare (.Call (.Name s1 _) [.ListComp (.Call (.Name i1 _) [.Name g1 _] [] _) [⟨.Name g2 _, .Name f8 _, [], 0⟩] scope _] [] _) [.NotEq] [.Constant (.int 1) _ _] _, .UnaryOp .Not v _] _) _ [] _,
     .Return (some (.Tuple [.Constant (.str r1) _ _, .Subscript (.Name k4 _) (.Call (.Attribute (.Name f9 _) a1 ap) [.Constant (.bool true) _ _] [] cp) _] _ _)) _] =>
    decide (f1 = "flags") && decide (f2 = "flags") && decide (f3 = "flags") && decide (f4 = "flags") && decide (f5 = "flags") && decide (f6 = "flags") && decide (f7 = "flags") && decide (f8 = "flags") && decide (f9 = "flags") && decide (k1 = "kinds") && decide (k2 = "kinds") && decide (k3 = "kinds") && decide (k4 = "kinds") &&
      decide (s1 = "sum") && decide (i1 = "int") && decide (g1 = "flag") && decide (g2 = "flag") && decide (r1 = "error") && decide (a1 = Str.ofString "index") && (ap.endLine == cp.line) &&
      isIss (errN.take 3) l1 && isIss ((errN.drop 3).take 3) l2 && isIss ((errN.drop 6).take 3) l3 && isIss (errN.drop 9) l4 && isSts (errN.take 6) m1 && isSts (errN.drop 6) m2 && isIs "ValueError" v &&
      blkC termN sc scope [("flag", 3)] && locB scope "flag" && visB (relS scope sc) "flag" && glB (relS scope sc) "int" && glB sc "sum" && glB sc "isinstance" && glB sc "ValueError" && errN.all (glB sc) && visB sc "e" && visB sc "flags" && visB sc "kinds" && decide (sc.names.lookup ("flags" : Str) = some .local) && decide (sc.names.lookup ("kinds" : Str) = some .local)
  | _ => false
structure ClsOk (K : PySem.W.Frag) (mg : Str → Option Value) (cl : Nat → Addr) : Prop where
  mg : ∀ (j : Nat) nm, errN[j]? = some nm → mg nm = some (.ref (cl j))
  kp : ∀ j, j < 11 → PySem.W.keepIn K (.ref (cl j)) = true
  ne : ∀ j k, j < 11 → k < 11 → PySem.W.kitOne K (.ref (cl k)) (.ref (cl j)) = some (decide (k = j))
  ve : ∀ k, k < 11 → PySem.W.kitOne K (.ref (cl k)) (.type "ValueError") = some true
  ex : ∀ k, k < 11 → ExcC K (cl k)
theorem call_isP {X : Cx} {p : Addr × Obj} {D : Addr} (hp : p ∈ X.pn) (C : ExcC X.K D) (hz : Zc (.ref D) none p.2) (hf : ∃ vs, p.2.data = .fields vs) : CallR X (.builtin "isinstance") (rIsE X.K D p.1) := by
  intro pins s σ H xs us Q I r h
  obtain ⟨c, cv, b, rfl, hcv, e, q⟩ := h
  cases r with
  | cons rx rr =>
    cases rr with
    | cons rt rr =>
      cases rr
      cases rx
      have ec := hcv _ rt
      subst ec
      obtain ⟨hget, _⟩ := I.pin p (List.mem_append.mpr (.inl hp))
      obtain ⟨vs, hv⟩ := hf
      have J : PySem.W.InstAt s.heap p.1 p.2 D none := by
        obtain ⟨a, ⟨oc, od, oda, osl⟩⟩ := p
        obtain ⟨h1, h2⟩ := hz
        dsimp only at h1 h2 hv hget
        subst h1 h2 hv
        exact ⟨hget, rfl, rfl, trivial⟩
      exact PySem.W.kia_one (PySem.W.handS_kitx_exc C.hg C.hk C.hs C.hd C.ha C.hn C.ht C.hm) I.kIn J e (fun z => nomatch z) fun tk => ⟨.bl b, H, I.kept (t' := tk) fun _ _ z => z, rfl, q⟩
structure TermX (X : Cx) (sc : Scope) (cl : Nat → Addr) (k : Nat) (p : Addr × Obj) : Prop where
  N : X.N = termN
  sc : X.env.scope = sc
  hot : HotC X
  mem : p ∈ X.pn
  z : Zc (.ref (cl k)) none p.2
  f : ∃ vs, p.2.data = .fields vs
  cls : ClsOk X.K X.mg cl
  k : k < 11
  blt : ∀ x ∈ (["sum", "int", "isinstance", "ValueError"] : List String), X.mg (Str.ofString x) = none
def tIss (a : Addr) (bs : List Bool) : TA := fun σ H Q => σ[0]? = some (some (.ref a)) ∧ Q (bs.map V.bl) H
section
variable {X : Cx} {sc : Scope} {cl : Nat → Addr} {k : Nat} {p : Addr × Obj}
theorem TermX.is (T : TermX X sc cl k p) {x : Expr} {nm : Str} {j : Nat} (h : isIs nm x = true) (hj : errN[j]? = some nm) (hv : visB sc "e" = true) (hi : glB sc "isinstance" = true) (hg : glB sc nm = true) :
    PE X x (fun σ H Q => σ[0]? = some (some (.ref p.1)) ∧ Q (.bl (decide (k = j))) H) ∧ notStar x = true := by
  unfold isIs at h
  split at h
  · simp only [Bool.and_eq_true, decide_eq_true_eq] at h
    obtain ⟨⟨h1, h2⟩, h3⟩ := h
    subst h1 h2 h3
    have hjl : j < 11 := (List.getElem?_eq_some_iff.mp hj).1
    have hdb : ∀ z ∈ errN, (z == ("__debug__" : Str)) = false := by decide
    have pc : ∀ {q : Pos}, PE X (.Name _ q) (tC (.ref (cl j))) := fun {q} => pe_glob (gl_of (by rw [T.sc]; exact hg)) (T.cls.mg j _ hj) rfl (hdb _ (List.mem_of_getElem? hj))
    refine ⟨PE.imp (pe_callB (call_isP T.mem (T.cls.ex k T.k) T.z T.f) (gl_of (by rw [T.sc]; exact hi)) (T.blt "isinstance" (by decide)) (by decide +kernel) (pa_cons (pe_var (i := 0) (by rw [T.N]; rfl) (vis_of (by rw [T.sc]; exact hv))) (pa_cons pc pa_nil rfl) rfl) (by decide) (by decide) rfl rfl) fun σ H Q ⟨e, q⟩ => ?_, rfl⟩
    exact ⟨_, e, _, _, _, rfl, fun u r => r, T.cls.ne j k hjl T.k, q⟩
  · cases h
theorem TermX.iss (T : TermX X sc cl k p) (hv : visB sc "e" = true) (hi : glB sc "isinstance" = true) (hg : errN.all (glB sc) = true) : ∀ (l : List Expr) (nms : List Str) (j : Nat), isIss nms l = true → (∀ i nm, nms[i]? = some nm → errN[j + i]? = some nm) →
    PA X l (tIss p.1 ((List.range nms.length).map fun i => decide (k = j + i)))
  | [], [], j, _, _ => PA.imp pa_nil fun σ H Q ⟨_, q⟩ => q
  | x :: l, nm :: nms, j, h, hj => by
    simp only [isIss, Bool.and_eq_true] at h
    have h0 := hj 0 nm rfl
    have g0 : glB sc nm = true := List.all_eq_true.mp hg nm (List.mem_of_getElem? h0)
    have p1 := T.is h.1 h0 hv hi g0
    have p2 := TermX.iss T hv hi hg l nms (j + 1) h.2 fun i nm' e => by
      have := hj (i + 1) nm' (by simpa using e)
      rw [← this]; congr 1; omega
    refine PA.imp (pa_cons p1.1 p2 (star1 p1.2)) fun σ H Q ⟨e, q⟩ => ⟨e, e, ?_⟩
    have : (List.range (nm :: nms).length).map (fun i => decide (k = j + i)) = decide (k = j + 0) :: (List.range nms.length).map fun i => decide (k = j + 1 + i) := by
      rw [List.length_cons, List.range_succ_eq_map, List.map_cons, List.map_map]
      congr 1
      refine List.map_congr_left fun i _ => ?_
      simp only [Function.comp]
      congr 2
      omega
    rw [this] at q
    exact q
  | [], _ :: _, _, h, _ => by simp [isIss] at h
  | _ :: _, [], _, h, _ => by simp [isIss] at h
theorem TermX.sts : ∀ (l : List Expr) (nms : List Str), isSts nms l = true → PA X l (fun σ H Q => Q (nms.map V.str) H)
  | [], [], _ => PA.imp pa_nil fun σ H Q q => q
  | x :: l, nm :: nms, h => by
    simp only [isSts, Bool.and_eq_true] at h
    obtain ⟨h1, h2⟩ := h
    unfold isSt at h1
    split at h1
    · have e := of_decide_eq_true h1
      subst e
      exact PA.imp (pa_cons pe_str (TermX.sts l nms h2) rfl) fun σ H Q q => q
    · cases h1
  | [], _ :: _, h => by simp [isSts] at h
  | _ :: _, [], h => by simp [isSts] at h
def flB (k : Nat) : List Bool := ((((List.range 3).map fun i => decide (k = 0 + i)) ++ (List.range 3).map fun i => decide (k = 3 + i)) ++ (List.range 3).map fun i => decide (k = 6 + i)) ++ (List.range 2).map fun i => decide (k = 9 + i)
theorem flB_ok : ∀ k, k < 11 → ((flB k).map fun b => if b then (1 : Int) else 0).sum = 1 ∧ (flB k)[k]? = some true ∧ ∀ m, m < k → (flB k)[m]? = some false := by decide
theorem errN_at : ∀ k, k < 11 → (errN.take 6 ++ errN.drop 6)[k]? = some ⟨(errS k).toArray⟩ := by decide
theorem sub_at {l : List Str} {j n : Nat} : ∀ i nm, ((l.drop j).take n)[i]? = some nm → l[j + i]? = some nm := fun i nm h => by
  rw [List.getElem?_take] at h
  split at h
  · rwa [List.getElem?_drop] at h
  · cases h
theorem sub_drop {l : List Str} {j : Nat} : ∀ i nm, (l.drop j)[i]? = some nm → l[j + i]? = some nm := fun i nm h => by rwa [List.getElem?_drop] at h
theorem sub_take {l : List Str} {n : Nat} : ∀ i nm, (l.take n)[i]? = some nm → l[0 + i]? = some nm := fun i nm h => by
  rw [List.getElem?_take] at h
  split at h
  · rwa [Nat.zero_add]
  · cases h
def tTerm (a : Addr) (k : Nat) : TS := fun D σ H => σ = [some (.ref a), none, none, none] ∧ ∀ q H', Same H H' → H' q = some (.tup [.str ⟨errT.toArray⟩, .str ⟨(errS k).toArray⟩]) → D.rt (.ref q) H'
theorem same_upd {H : Hp} {p : Addr} {o : HO} (h : H p = none) : Same H (upd H p o) := fun b q e => upd_keep h b q e
theorem same_refl {H : Hp} : Same H H := fun _ _ e => e
theorem same_trans {H H1 H2 : Hp} (a : Same H H1) (b : Same H1 H2) : Same H H2 := fun c o e => b c o (a c o e)
theorem rd_lst {σ : L2.St} {H : Hp} {t : TA} {ys : List V} {Q : VK} (ht : ∀ H Q, Q ys H → t σ H Q) (hl : ys.length ≤ 11) (q : ∀ p' H', Same H H' → H' p' = some (.lst ys) → Q (.ref p') H') : tLst t σ H Q :=
  ht _ _ ⟨Nat.le_trans hl (by decide), fun p hp => q p _ (same_upd hp) upd_same⟩
theorem rd_cat {σ : L2.St} {H : Hp} {t : TA} {xs ys : List V} {i : Nat} {p : Addr} {Q : VK} (e : σ[i]? = some (some (.ref p))) (hp : H p = some (.lst xs)) (ht : ∀ H Q, Q ys H → t σ H Q) (hl : xs.length + ys.length ≤ 11)
    (q : ∀ p' H', Same H H' → H' p' = some (.lst (xs ++ ys)) → Q (.ref p') H') : tOp rCat (tVar i) (tLst t) σ H Q :=
  ⟨_, e, rd_lst ht (by omega) fun p2 H2 sm h2 => ⟨p, p2, xs, ys, rfl, rfl, sm _ _ hp, h2, Nat.le_trans hl (by decide), fun p3 hp3 => q p3 _ (same_trans sm (same_upd hp3)) upd_same⟩⟩
def flI (k : Nat) : List Int := (flB k).map fun b => if b then (1 : Int) else 0
theorem flB_len (k : Nat) : (flB k).length = 11 := rfl
theorem TermX.isV (T : TermX X sc cl k p) {x : Expr} (h : isIs "ValueError" x = true) (hv : visB sc "e" = true) (hi : glB sc "isinstance" = true) (hg : glB sc "ValueError" = true) :
    PT X x (fun σ H Q => σ[0]? = some (some (.ref p.1)) ∧ Q true H) := by
  unfold isIs at h
  split at h
  · simp only [Bool.and_eq_true, decide_eq_true_eq] at h
    obtain ⟨⟨h1, h2⟩, h3⟩ := h
    subst h1 h2 h3
    refine PT.imp (pt_truth (pe_callB (call_isP T.mem (T.cls.ex k T.k) T.z T.f) (gl_of (by rw [T.sc]; exact hi)) (T.blt "isinstance" (by decide)) (by decide +kernel) (pa_cons (pe_var (i := 0) (by rw [T.N]; rfl) (vis_of (by rw [T.sc]; exact hv))) (pa_cons (pe_bltn (v := .ty "ValueError") (gl_of (by rw [T.sc]; exact hg)) (T.blt "ValueError" (by decide)) (by decide +kernel) rfl (by decide) (by decide)) pa_nil rfl) rfl) (by decide) (by decide) rfl rfl) (fun _ => rfl)) fun σ H Q ⟨e, q⟩ => ?_
    exact ⟨_, e, _, _, _, rfl, fun u r => r, T.cls.ve k T.k, true, rfl, q⟩
  · cases h
theorem TermX.tgF (T : TermX X sc cl k p) {s : Shared} {H : Hp} {scope : Scope} {cs : List (Str × Addr)} {C : Addr} {fp : List Addr} {pos : Pos} (lf : locB scope "flag" = true) : PG (X.blk s H scope (compEnvC scope cs C X.env) fp) (.Name "flag" pos) (gName 3) := by
  have tk := (tgOk_blk (X := X) (s := s) (H := H) (scope := scope) (cl := cs) (C := C) (fp := fp)) "flag" lf
  exact pg_name (i := 3) (by show X.N.Nodup; rw [T.N]; decide) (by show X.N[3]? = _; rw [T.N]; rfl) tk.1 tk.2
theorem TermX.elF (T : TermX X sc cl k p) {s : Shared} {H : Hp} {scope : Scope} {cs : List (Str × Addr)} {C : Addr} {fp : List Addr} {p1 p2 p3 : Pos} (gi : glB (relS scope sc) "int" = true) (vf : visB (relS scope sc) "flag" = true) :
    PE (X.blk s H scope (compEnvC scope cs C X.env) fp) (.Call (.Name "int" p1) [.Name "flag" p2] [] p3) (fun σ H Q => ∃ b, σ[3]? = some (some (.bl b)) ∧ Q (.int (if b then 1 else 0)) H) := by
  have es : (X.blk s H scope (compEnvC scope cs C X.env) fp).env.scope = relS scope sc := by rw [← T.sc]; rfl
  refine PE.imp (pe_callTy call_int1 (gl_of (by rw [es]; exact gi)) (T.blt "int" (by decide)) (by decide +kernel) (pa_cons (pe_var (i := 3) (by show X.N[3]? = _; rw [T.N]; rfl) (vis_of (by rw [es]; exact vf))) pa_nil)) fun σ H Q ⟨b, e, q⟩ => ?_
  exact ⟨_, e, .inr ⟨b, rfl, q⟩⟩
theorem rd_lc {K : PySem.W.Frag} {σ : L2.St} {H : Hp} {Q : VK} {p4 : Addr} (e4 : H p4 = some (.lst ((flB k).map V.bl))) (hv : σ[1]? = some (some (.ref p4))) (hl : σ.length = 4) (q : ∀ Dl H7, Same H H7 → H7 Dl = some (.lst ((flI k).map V.int)) → Q (.ref Dl) H7) :
    tLc (iList K (tVar 1)) (gName 3) tYes (fun σ H Q => ∃ b, σ[3]? = some (some (.bl b)) ∧ Q (.int (if b then 1 else 0)) H) [3] σ H Q := by
  refine ⟨.ref p4, hv, p4, rfl, ⟨_, SqL.of e4⟩, fun Dl hD => ?_⟩
  refine lc_it (walk_list (K := K) (xs := (flB k).map V.bl)) (g := gName 3) (tt := tYes) (te := fun σ H Q => ∃ b, σ[3]? = some (some (V.bl b)) ∧ Q (V.int (if b then 1 else 0)) H) (vs := [3]) (σ := σ) (Qd := fun H => Q (.ref Dl) H) (fun i H' => Same H H' ∧ H' Dl = some (.lst (((flI k).take i).map V.int))) ⟨same_upd hD, by simpa using upd_same⟩ (fun i H' hi ⟨sm, _⟩ => SqL.of (sm _ _ e4)) ?_ ?_
  · rintro i x Ha Hb hi ⟨sm, hd⟩ ⟨rfl, hx⟩
    have hi' : i < (flB k).length := by simpa using hi
    rw [List.getElem?_map, List.getElem?_eq_getElem hi'] at hx
    cases hx
    refine ⟨by simp [L2.wipe], ?_⟩
    unfold tYes
    dsimp only
    rw [if_pos rfl]
    refine ⟨_, by rw [List.getElem?_set_self (by simp [L2.wipe]; omega)], _, hd, ?_, fun b o e => ?_, ?_⟩
    · have : ((flI k).take i).length ≤ 11 := by rw [List.length_take]; have := flB_len k; simp [flI]; omega
      rw [List.length_map]
      exact Nat.lt_of_le_of_lt this (by decide)
    · have : b ≠ Dl := ne_of_none e hD
      rw [upd_ne this]; exact sm b o e
    · rw [upd_same]
      have h2 : i < (flI k).length := by simpa [flI] using hi'
      rw [List.take_succ, List.getElem?_eq_getElem h2]
      simp [flI]
  · rintro H7 ⟨s7, e7⟩
    have : ((flI k).take ((flB k).map V.bl).length) = flI k := List.take_of_length_le (by simp [flI])
    rw [this] at e7
    exact q Dl H7 s7 e7
theorem TermX.walk {body : List Stmt} (T : TermX X sc cl k p) (hb : isTerm sc body = true) : PSs X body (tTerm p.1 k) := by
  unfold isTerm at hb
  split at hb
  · simp only [Bool.and_eq_true, decide_eq_true_eq] at hb
    obtain ⟨⟨⟨⟨⟨⟨⟨⟨⟨⟨⟨⟨⟨⟨⟨⟨⟨⟨⟨⟨⟨⟨⟨⟨⟨⟨⟨⟨⟨⟨⟨⟨⟨⟨⟨⟨⟨⟨⟨f1, f2⟩, f3⟩, f4⟩, f5⟩, f6⟩, f7⟩, f8⟩, f9⟩, k1⟩, k2⟩, k3⟩, k4⟩, s1⟩, i1⟩, g1⟩, g2⟩, r1⟩, a1⟩, ln⟩, l1⟩, l2⟩, l3⟩, l4⟩, m1⟩, m2⟩, vv⟩, bk⟩, lf⟩, vf⟩, gi⟩, gs⟩, gn⟩, gv⟩, ge⟩, ve⟩, vfl⟩, vk⟩, lfl⟩, lk⟩ := hb
    subst f1 f2 f3 f4 f5 f6 f7 f8 f9 k1 k2 k3 k4 s1 i1 g1 g2 r1 a1
    have nd : X.N.Nodup := by rw [T.N]; decide
    have loF : L2.Loc X.env.scope "flags" := .inl (by rw [T.sc]; exact lfl)
    have loK : L2.Loc X.env.scope "kinds" := .inl (by rw [T.sc]; exact lk)
    have lF : X.fn "flags" = true ∨ X.env.scope.names.lookup ("flags" : Str) = some .local := .inr (by rw [T.sc]; exact lfl)
    have lK : X.fn "kinds" = true ∨ X.env.scope.names.lookup ("kinds" : Str) = some .local := .inr (by rw [T.sc]; exact lk)
    have viF : Vis X.env.scope "flags" := vis_of (by rw [T.sc]; exact vfl)
    have viK : Vis X.env.scope "kinds" := vis_of (by rw [T.sc]; exact vk)
    have n1 : X.N[1]? = some ("flags" : Str) := by rw [T.N]; rfl
    have n2 : X.N[2]? = some ("kinds" : Str) := by rw [T.N]; rfl
    have j1 := T.iss ve gn ge _ _ 0 l1 sub_take
    have j2 := T.iss ve gn ge _ _ 3 l2 sub_at
    have j3 := T.iss ve gn ge _ _ 6 l3 sub_at
    have j4 := T.iss ve gn ge _ _ 9 l4 sub_drop
    have mm1 := TermX.sts (X := X) _ _ m1
    have mm2 := TermX.sts (X := X) _ _ m2
    refine PSs.imp (pss_cons (ps_set (i := 1) nd n1 loF (pe_lst j1) rfl lF) (pss_cons (ps_set (i := 1) nd n1 loF (pe_op op_cat (pe_var (i := 1) n1 viF) (pe_lst j2)) rfl lF) (pss_cons (ps_set (i := 1) nd n1 loF (pe_op op_cat (pe_var (i := 1) n1 viF) (pe_lst j3)) rfl lF)
      (pss_cons (ps_set (i := 1) nd n1 loF (pe_op op_cat (pe_var (i := 1) n1 viF) (pe_lst j4)) rfl lF) (pss_cons (ps_set (i := 2) nd n2 loK (pe_lst mm1) rfl lK) (pss_cons (ps_set (i := 2) nd n2 loK (pe_op op_cat (pe_var (i := 2) n2 viK) (pe_lst mm2)) rfl lK)
      (pss_cons (ps_if (PW.pt (pw_or (pt_cmpR op_ne (pe_callB (cr_sumH T.hot) (gl_of (by rw [T.sc]; exact gs)) (T.blt "sum" (by decide)) (by decide +kernel) (pa_cons (pe_lcH (own := [("flag", 3)]) (te := fun σ H Q => ∃ b, σ[3]? = some (some (.bl b)) ∧ Q (.int (if b then 1 else 0)) H) (g := gName 3) T.hot nd (pe_var (i := 1) n1 viF) (by rw [T.N, T.sc]; exact blkOk_by bk)
          (fun s H C cl fp => T.tgF lf) (fun s H C cl fp => T.elF gi vf)) pa_nil)) pe_int rfl) (pw_or1 (pt_not (T.isV vv ve gn gv))))) pss_never pss_nil)
      (pss_one (ps_ret (pe_tup (pa_cons pe_str (pa_cons (pe_ix ix_seq (pe_var (i := 2) n2 viK) (pe_bm PySem.F.plainAttrs_list PySem.F.slot_list_index PySem.F.type_list_index mt_index (pe_var (i := 1) n1 viF) (pa_cons pe_bl pa_nil) rfl rfl ln) (fun _ _ => rfl)) pa_nil)))))))))))) fun D σ H ⟨hσ, q⟩ => ?_
    subst hσ
    simp only [tSeq, tAsg, gName]
    try dsimp only
    refine rd_lst (fun H Q q => ⟨rfl, q⟩) (Nat.le_of_ble_eq_true rfl) fun p1 H1 s1 e1 => ?_
    try dsimp only
    refine rd_cat rfl e1 (fun H Q q => ⟨rfl, q⟩) (Nat.le_of_ble_eq_true rfl) fun p2 H2 s2 e2 => ?_
    try dsimp only
    refine rd_cat rfl e2 (fun H Q q => ⟨rfl, q⟩) (Nat.le_of_ble_eq_true rfl) fun p3 H3 s3 e3 => ?_
    try dsimp only
    refine rd_cat rfl e3 (fun H Q q => ⟨rfl, q⟩) (Nat.le_of_ble_eq_true rfl) fun p4 H4 s4 e4 => ?_
    try dsimp only
    refine rd_lst (fun H Q q => q) (by decide) fun p5 H5 s5 e5 => ?_
    try dsimp only
    refine rd_cat rfl e5 (fun H Q q => q) (by decide) fun p6 H6 s6 e6 => ?_
    have e4 : H4 p4 = some (.lst ((flB k).map V.bl)) := by rw [e4]; simp [flB]; rfl
    have e46 : H6 p4 = some (.lst ((flB k).map V.bl)) := s6 _ _ (s5 _ _ e4)
    obtain ⟨fs, fk, fm⟩ := flB_ok k T.k
    unfold tIfS tOr tTest tOp tCB tCons
    dsimp only
    refine rd_lc e46 ?_ ?_ fun Dl H7 s7 e7 => ?_
    · rfl
    · rfl
    refine ⟨Dl, flI k, rfl, SqL.of e7, rfl, ?_⟩
    rw [show (flI k).sum = 1 from fs]
    refine ⟨_, rfl, iteF' (show tNot _ _ _ _ from ⟨rfl, iteF' ?_⟩)⟩
    refine ⟨.ref p6, rfl, .ref p4, rfl, .inl ⟨rfl, _, SqL.of (s7 _ _ e46)⟩, p4, _, .bl true, k, .bl true, rfl, rfl, SqL.of (s7 _ _ e46), rfl, ?_, ?_, rfl, fun m z hm hz => ?_, ?_⟩
    · exact List.all_eq_true.mpr fun z hz => by obtain ⟨b, _, rfl⟩ := List.mem_map.mp hz; rfl
    · rw [List.getElem?_map, fk]; rfl
    · rw [List.getElem?_map, fm m hm] at hz; cases hz; rfl
    · have e6' : H7 p6 = _ := s7 _ _ e6
      refine .inl ⟨p6, _, _, .str ⟨(errS k).toArray⟩, rfl, rfl, SqL.of e6', ?_, ?_⟩
      · refine atI_nat ?_
        rw [← List.map_append, List.getElem?_map, errN_at k T.k]; rfl
      · refine ⟨show 2 ≤ sizeLine by decide, fun p8 hp8 => ?_⟩
        exact q p8 _ (same_trans s1 (same_trans s2 (same_trans s3 (same_trans s4 (same_trans s5 (same_trans s6 (same_trans s7 (same_upd hp8)))))))) upd_same
  · cases hb
end
end SG
namespace SG
open PySem PySem.Spec PyProof.Rows L2 HotX L2H
section
variable {P : Program} {w : World} {K : PySem.W.Frag} {mg : Str → Option Value} {base : Heap} {cl : Nat → Addr}
theorem run_term {f : Addr} {name qual : Str} {params : Arguments} {body : List Stmt} {scope : Scope} {dV kV doc pm cdv ct oc : Value} {an od : Option Addr} {osl : Array (Option Value)}
    (lk : K.lookup f = some ⟨oc, od, .func (PySem.W.fnOf name qual params body scope dV kV doc pm an cdv ct), osl⟩) (hcd : PySem.W.codeIn K cdv qual = true) (S : FnScope termN ["e"] scope) (hT : isTerm scope body = true) (hC : ClsOk K mg cl)
    (hB : ∀ x ∈ (["sum", "int", "isinstance", "ValueError"] : List String), mg (Str.ofString x) = none)
    {A : Around} {outer : List PySem.Env} {s : Shared} {H : Hp} {args : Args} {us : List Value} {Q : VK} {p : Addr × Obj} {k : Nat} (hr : RoomH 1 A) (hot : Hot1 A p) (pin : PinOk outer H s p) (e0 : Env0 P w K mg base A outer s H)
    (hb : BindsTo s (PySem.W.fnOf name qual params body scope dV kV doc pm an cdv ct) args ((["e"] : List Str).zip us)) (r : Vals [.ref p.1] us) (hk : k < 11) (hz : Zc (.ref (cl k)) none p.2)
    (q : ∀ q H', Same H H' → H' q = some (.tup [.str ⟨errT.toArray⟩, .str ⟨(errS k).toArray⟩]) → Q (.ref q) H') : codeAny (model P w) A (.call (.ref f) args) (CR C8.CX0 outer P w H s Q C8.E0) s := by
  have KX : K.In s.heap := e0.mod.kin.keeps fun b o e => (e0.bs b o e).1
  have lim : s.heap.NoLimit := e0.mod.nolimit.keeps fun b o e => (e0.bs b o e).1
  have hkind : ∀ y ∈ (["e"] : List Str).zip us, scope.names.lookup y.1 = some .local ∨ (scope.names.lookup y.1 = some .cell ∧ ((cellsFrom (s.heap.objs.size + 1) scope.names []).lookup y.1).isSome = true) := fun ⟨n, v⟩ hy => by
    rcases S.par n (List.of_mem_zip hy).1 with z | z
    · exact .inl z
    · exact .inr ⟨z, PySem.W.cellsFrom_some _ _ _ (.inl z)⟩
  refine codeAny_call_function hr.depth (KX _ _ lk) rfl S.co S.gen rfl (PySem.W.codeRec_of KX hcd) (hb _ _ _ _ ?_)
  refine wpAny_newFunctionEnv_cells S.kind hkind fun env he s1 x => ?_
  subst he
  refine ⟨lim.keeps x.toInCall.keep, codeAny_func ?_⟩
  have T : TermX (cxH C8.CX0 P w K mg base termN qual scope f cdv A outer s H C8.E0 p) scope cl k p :=
    ⟨rfl, rfl, ⟨p, hot, List.mem_cons_self⟩, List.mem_cons_self, hz, let ⟨vs, e, _⟩ := hot.2; ⟨vs, e⟩, hC, hk, hB⟩
  have I : Inv (cxH C8.CX0 P w K mg base termN qual scope f cdv A outer s H C8.E0 p) [] (L2.start termN [.ref p.1]) H s1 := inv_startH S pin e0 rfl r x
  refine wpAny_mono ((T.walk hT).run [] s1 _ H { nx := fun _ _ => False, rt := Q } I ⟨rfl, q⟩) (fun fl s' hs => ?_) fun e s' hs => hs
  cases fl with
  | ret u =>
    obtain ⟨v, σ', H', J, rv, z⟩ := hs
    exact ⟨v, H', J.os, J.bare, J.base, J.hok, rv, z⟩
  | next =>
    obtain ⟨σ', H', J, z⟩ := hs
    exact z.elim
  | brk =>
    obtain ⟨_, _, _, z⟩ := hs
    exact False.elim z
  | cont =>
    obtain ⟨_, _, _, z⟩ := hs
    exact False.elim z
end
structure TermF (K : PySem.W.Frag) (mg : Str → Option Value) (cl : Nat → Addr) : Prop where
  ex : ∃ (f : Addr) (fd : FuncData) (st : Stmt), Fun K "_law_term" "_law_term" st f fd ∧ mg "_law_term" = some (.ref f) ∧ Binds K fd ["e"] [] ∧ FnScope termN ["e"] (defScope st) ∧ isTerm (defScope st) (defBody st) = true
  cls : ClsOk K mg cl
  blt : ∀ x ∈ (["sum", "int", "isinstance", "ValueError"] : List String), mg (Str.ofString x) = none
section
variable {X : Cx} {cl : Nat → Addr}
theorem pe_term {p : Addr × Obj} {k i : Nat} {x : Str} {q p1 pos : Pos} (F : TermF X.K X.mg cl) (hr : RoomH 1 X.A) (hot : Hot1 X.A p) (hp : p ∈ X.pn) (hk : k < 11) (hz : Zc (.ref (cl k)) none p.2) (hg : Gl X "_law_term") (hN : X.N[i]? = some x) (hv : Vis X.env.scope x)
    (hd : (x == ("__debug__" : Str)) = false) (hcd : (x == ("__classdict__" : Str)) = false) :
    PE X (.Call (.Name "_law_term" q) [.Name x p1] [] pos) (fun σ H Q => σ[i]? = some (some (.ref p.1)) ∧ ∀ q H', Same H H' → H' q = some (.tup [.str ⟨errT.toArray⟩, .str ⟨(errS k).toArray⟩]) → Q (.ref q) H') := by
  refine ⟨fun pins s σ H Q I ⟨h1, h2⟩ => ?_⟩
  obtain ⟨f, fd, st, Fu, hm, hb, S, hT⟩ := F.ex
  refine wpAny_Call_Name_kw (ld_glob I hg hm ?_ (by decide))
  have ha : PA X [.Name x p1] (tCons (tVar i) tNil) := pa_cons (pe_var hN hv hd hcd) pa_nil
  refine PySem.W.callWith_K (h₀ := X.base) I.ok.mod.kin Fu.kp (thn (ha.run pos pins s σ H (fun vs H1 => vs = [V.ref p.1] ∧ H = H1) I ⟨_, h1, rfl, rfl⟩) fun us s1 ⟨vs, H1, I1, r, ev, eH⟩ => ⟨I1.kIn, ?_⟩) rfl rfl
  subst ev
  subst eH
  have hl : us.length = 1 := by rw [← r.length]; rfl
  have b := hb s1 us I1.kIn (by rw [List.append_nil]; exact hl)
  rw [List.append_nil] at b
  have P1 := I1.pin p (List.mem_append_left _ hp)
  have hpin : PinOk X.stack H s1 p := ⟨P1.1, P1.2.1, fun hm => (List.mem_cons.mp (I1.stkSub p.1 hm)).elim P1.2.2.1 P1.2.2.2.1, P1.2.2.2.2⟩
  obtain ⟨oc, od, kV, doc, pm, an, cdv, ct, osl, rfl, lk, hcd'⟩ := Fu.ex
  refine wpAny_call (codeAny_mono (run_term (args := ⟨us, []⟩) lk hcd' S hT F.cls F.blt hr hot hpin I1.env0 b r hk hz h2) fun r s' hq => ?_)
  cases r with
  | error e => exact (show False from hq).elim
  | ok fl =>
    cases fl with
    | ret u => exact I1.after hq
    | next => exact False.elim hq
    | brk => exact False.elim hq
    | cont => exact False.elim hq
end
open LamX in
def lamCxN (X : Cx) (A : Around) (outer : List PySem.Env) (s : Shared) (H : Hp) (E : XK) (scope : Scope) (f c' : Addr) : Cx :=
  (lamCx X A outer s H E scope f c').wish fun e s' => wpAny (model X.prog X.w) (A.deeper (lamEnv X scope s.heap.objs.size f c')) (leaving (lamEnv X scope s.heap.objs.size f c') e) (fun _ s'' => L2N.CX X.prog X.w outer H s E e s'') (fun e' s'' => L2N.CX X.prog X.w outer H s E e' s'') s'
def toldN : List Str := ["deed", "e"]
def isTold (sc : Scope) : List Stmt → Bool
  | [.Try [.Return (some (.Call (.Name a _) [] [] _)) _] [.ExceptHandler (some (.Name x _)) (some n) [.Return (some (.Call (.Name t _) [.Name m _] [] _)) _] _] [] [] _] =>
    decide (a = "deed") && decide (x = "SignError") && decide (n = "e") && decide (t = "_law_term") && decide (m = "e") && glB sc "SignError" && glB sc "_law_term" && visB sc "deed" && decide (sc.names.lookup ("e" : Str) = some .local)
  | _ => false
structure ToldF (K : PySem.W.Frag) (mg : Str → Option Value) (cl : Nat → Addr) : Prop where
  tm : TermF K mg cl
  ex : ∃ (f : Addr) (fd : FuncData) (st : Stmt), Fun K "_law_told" "_law_told" st f fd ∧ mg "_law_told" = some (.ref f) ∧ Binds K fd ["deed"] [] ∧ FnScope toldN ["deed"] (defScope st) ∧ isTold (defScope st) (defBody st) = true
  sg : ∃ CS, mg "SignError" = some (.ref CS) ∧ ∀ k, k < 11 → PySem.W.exmOne K (.ref (cl k)) (.ref CS) = some true
section
open LamX
variable {X : Cx} {pins : List (Addr × Obj)} {σ : L2.St} {H : Hp} {s : Shared}
theorem pe_actN {Ng : List Str} {qg : Str} {sg : Scope} {g f c' : Addr} {cdg pm ctv : Value} {params : Arguments} {body : Expr} {scope : Scope} {k i : Nat} {a : Str} {pn : List (Addr × Obj)} {xe : Value → Shared → Prop} {W : WX} {E : XK} {tb : TE} {p1 p2 : Pos}
    (I : Inv X pins σ H s) (L : LamS X.env.scope scope) (hf : s.heap.get? f = some (PySem.W.kla_obj "<lambda>" (X.env.qual ++ "<lambda>") params body scope (cloFrom X.env.cells scope.names []) pm c' ctv)) (hfn : H f = none) (hfr : f ∉ frs X.stack)
    (hbind : bindArgs (PySem.W.kla_fn "<lambda>" (X.env.qual ++ "<lambda>") params body scope (cloFrom X.env.cells scope.names []) pm (.ref c') ctv) ⟨[], []⟩ = pure [])
    (tk : L2N.Takes ((cxOf C8.CX0 X.prog X.w X.K X.mg X.base Ng qg sg g cdg X.A X.stack s H C8.E0).tr pn xe) W) (hr : Room (k + 1) (X.A.deeper (envOfC qg sg s.heap.objs.size g cdg)))
    (hbody : ∀ (A : Around) (outer : List PySem.Env) (s : Shared) (H : Hp), Room k (A.deeper (lamEnv X scope s.heap.objs.size f c')) → PE (lamCxN X A outer s H E scope f c') body tb)
    (hN : Ng[i]? = some a) (hv : Vis sg a) (hd : (a == ("__debug__" : Str)) = false) (hcd : (a == ("__classdict__" : Str)) = false) :
    PE ((cxOf C8.CX0 X.prog X.w X.K X.mg X.base Ng qg sg g cdg X.A X.stack s H C8.E0).tr pn xe) (.Call (.Name a p1) [] [] p2)
      (fun σZ HZ Q => (∀ cls d H', E cls d H' → W cls d σZ H') ∧ σZ[i]? = some (some (.ref f)) ∧ HZ c' = some (CodeO c' (X.env.qual ++ "<lambda>")) ∧ tb σ HZ Q) := by
  refine ⟨fun pinsZ sZ σZ HZ Q IZ h => ?_⟩
  obtain ⟨hW, hs, hc, ht⟩ := h
  refine wpAny_Call_Name_kw (thn ((pe_var (pos := p1) (i := i) hN hv hd hcd).run pinsZ sZ σZ HZ (fun v H1 => v = .ref f ∧ H1 = HZ) IZ ⟨.ref f, hs, rfl, rfl⟩) fun u s1 ⟨v, H1, I1, r1, q1⟩ => ?_)
  obtain ⟨ev, eH⟩ := q1
  subst ev
  rw [eH] at I1
  obtain rfl : u = Value.ref f := r1
  have of1 := I1.base.keep f _ hf hfn hfr (fun z => nomatch (show f ∈ ([] : List Addr) from z))
  refine PySem.W.callWith_F0 ⟨_, _, _, _, of1⟩ ?_
  have un : Un (frs X.stack) [] H HZ s.heap s1.heap := I1.base
  obtain ⟨⟨oc, vs, t, hoc, hdc, hvc⟩, _, _⟩ := I1.hok c' _ hc
  have rc : codeAny (model X.prog X.w) (X.A.deeper (envOfC qg sg s.heap.objs.size g cdg)) (.call (.ref f) ⟨[], []⟩) (CR (L2N.CX X.prog X.w) (envOfC qg sg s.heap.objs.size g cdg :: X.stack) X.prog X.w HZ s1 Q E) s1 := by
    refine PySem.W.kla_callFunE hr.depth of1 rfl L.co L.gen rfl ⟨c', oc, vs, t, rfl, hoc, hdc, hvc⟩ ?_
    rw [hbind]
    refine wpAny_pure (wpAny_newFunctionEnv (fun y hy => (L.own y hy).2) (fun y hy => absurd hy (by simp)) (fun h₁ hns hsb => ⟨I1.nolimit.fresh _ hsb, ?_⟩) L.kind)
    show codeAny _ _ (.expr body (lamEnv X scope s1.heap.objs.size f c')) _ _
    have kp : ∀ b o, s1.heap.get? b = some o → h₁.get? b = some o := fun b o e => hsb.extBut b o (Nat.ne_of_lt (Heap.lt_size e)) (Heap.get?_push_of_some _ e)
    have J0 := lam_start2 (E := E) (f := f) (c' := c') (tk := s1.toks + ([] : List (Str × Value)).length) I L I1.env0 hr.hd un hns kp
    have J : Inv (lamCxN X (X.A.deeper (envOfC qg sg s.heap.objs.size g cdg)) (envOfC qg sg s.heap.objs.size g cdg :: X.stack) s1 HZ E scope f c') [] σ HZ { s1 with heap := h₁, toks := s1.toks + ([] : List (Str × Value)).length } := J0.wish _
    refine PySem.W.kla_codeExpr (wpAny_mono ((hbody _ _ s1 HZ (hr.deeper _)).run [] _ _ HZ Q J ht) (fun v s' hq => ?_) fun e s' hq => hq)
    obtain ⟨w', H', J', rv, q⟩ := hq
    exact ⟨w', H', J'.os, J'.bare, J'.base, J'.hok, rv, q⟩
  refine wpAny_call (codeAny_mono rc fun r s' hq => ?_)
  cases r with
  | error e => exact tk e s' (L2N.XE.of_call I1 (fun cls d H' h => hW cls d H' h) hq)
  | ok fl =>
    cases fl with
    | ret u => exact I1.after hq
    | next => exact False.elim hq
    | brk => exact False.elim hq
    | cont => exact False.elim hq
theorem lam_par {params : Arguments} (h : noPar params = true) : (∀ env, defaultsOf params env = ([], [])) ∧ ∀ (body : Expr) (scope : Scope) (q : Str) (cl : List (Str × Addr)) (pm cv ctv : Value), bindArgs (PySem.W.kla_fn "<lambda>" q params body scope cl pm cv ctv) ⟨[], []⟩ = pure [] := by
  unfold noPar at h
  split at h
  · exact ⟨fun _ => rfl, fun _ _ _ _ _ _ _ => rfl⟩
  · cases h
theorem told_rule {c : Cn} {k : Nat} {P : Program} {w : World} {K : PySem.W.Frag} {mg : Str → Option Value} {base : Heap} (F : ToldF K mg c.cl) : ToldR c k P w K mg base := by
  intro X e1 e2 e3 e4 e5 hc hr hcode params body scope lpos p pos t hg hl hp hbody
  subst e1 e2 e3 e4 e5
  obtain ⟨cc, PT, hcd, TB, hmT, hu⟩ := hcode
  obtain ⟨g, fd, st, Fu, hm, hb, Sg, isT⟩ := F.ex
  obtain ⟨CS, hCS, hex⟩ := F.sg
  obtain ⟨oc, od, kV, doc, pm, an, cdv, ct, osl, rfl, lk, hcg⟩ := Fu.ex
  obtain ⟨hdef, hbind⟩ := lam_par hp
  have L := lamS_by hl
  refine ⟨fun pins s σ H Q I h => ?_⟩
  obtain ⟨hT, h⟩ := h
  refine wpAny_Call_Name_kw (ld_glob I (gl_of hg) hm ?_ (by decide))
  refine PySem.W.callWith_K (h₀ := X.base) I.ok.mod.kin Fu.kp ?_ (by rfl) (by rfl)
  show wpAny _ _ (spliced ((false, eval (.Lambda params body scope lpos) X.env) :: backTo pos (starEach [] X.env))) _ _ s
  refine Calls.spliced_cons (lam_make2 I TB hcd hmT hu hT (hdef _) (L.has I.ok) fun f c' pm' ctv H1 s' I1 eN T1 hf hfn hfr hco => ?_)
  refine Calls.spliced_nil ⟨I1.kIn, ?_⟩
  have hq := h H1 eN T1
  have rc : codeAny (model X.prog X.w) X.A (.call (.ref g) ⟨[.ref f], []⟩) (CR C8.CX0 X.stack X.prog X.w H1 s' Q C8.E0) s' := by
    refine run_ofS (N := toldN) (ps := ["deed"]) (us := [.ref f]) (vs := [.ref f]) lk hcg Sg hr I1.env0 (hb s' [.ref f] I1.kIn rfl) (.cons rfl .nil) rfl fun hr' => ?_
    unfold isTold at isT
    split at isT
    · rename_i hbe
      simp only [Bool.and_eq_true, decide_eq_true_eq] at isT
      obtain ⟨⟨⟨⟨⟨⟨⟨⟨z1, z2⟩, z3⟩, z4⟩, z5⟩, g1⟩, g2⟩, v1⟩, le⟩ := isT
      subst z1 z2 z3 z4 z5
      rw [hbe]
      generalize hZ : (cxOf C8.CX0 X.prog X.w X.K X.mg X.base toldN "_law_told" (defScope st) g cdv X.A X.stack s' H1 C8.E0).nox = Z
      have ZK : Z.K = X.K := by rw [← hZ]; rfl
      have Zm : Z.mg = X.mg := by rw [← hZ]; rfl
      have Zs : Z.env.scope = defScope st := by rw [← hZ]; rfl
      have ZN : Z.N = toldN := by rw [← hZ]; rfl
      have ZA : RoomH 1 Z.A := by rw [← hZ]; exact (roomH_of hr').mono (by omega)
      have st1 : Z.stack = Z.env :: Z.outer := by rw [← hZ]; rfl
      have st2 : Z.env.frame = some Z.env.locals := by rw [← hZ]; rfl
      have tr : ∀ (W : WX) (pn : List (Addr × Obj)) (xe : Value → Shared → Prop) (p1 p2 p3 : Pos), L2N.Takes (Z.tr pn xe) W → PSs (Z.tr pn xe) [.Return (some (.Call (.Name "deed" p1) [] [] p2)) p3]
          (fun D σZ HZ => ∃ Ech : XK, (∀ cls d H', Ech cls d H' → W cls d σZ H') ∧ σZ[0]? = some (some (.ref f)) ∧ HZ c' = some (CodeO c' (X.env.qual ++ "<lambda>")) ∧ t (fun cls d _ H' => Ech cls d H') σ HZ D.rt) := by
        intro W pn xe p1 p2 p3 tk
        refine ⟨fun pinsZ sZ σZ HZ D IZ hh => ?_⟩
        obtain ⟨Ech, hW, h1, h2, h3⟩ := hh
        subst hZ
        exact (pss_one (ps_ret (pos := p3) (pe_actN (pn := pn) (xe := xe) (p1 := p1) (p2 := p2) (i := 0) (k := k) (E := Ech) I1 L hf hfn hfr (hbind _ _ _ _ _ _ _) tk hr' (fun A outer s H hr2 =>
          hbody (lamCxN X A outer s H Ech scope f c') (fun cls d _ H' => Ech cls d H') ⟨rfl, rfl, rfl, rfl, rfl, rfl⟩ rfl hr2 rfl (L2N.takes_of rfl rfl rfl rfl)) rfl (vis_of v1) (by decide) (by decide)))).run pinsZ sZ σZ HZ D IZ ⟨hW, h1, h2, h3⟩
      have su : ∀ (a : Addr) (oe : Obj) (cls : Value) (d : Option Addr) (pn : List (Addr × Obj)) (p1 p2 p3 p4 : Pos), L2N.Zn cls d oe → (∃ vs, oe.data = .fields vs) → PSs (Z.suite a ((a, oe) :: pn)) [.Return (some (.Call (.Name "_law_term" p1) [.Name "e" p2] [] p3)) p4]
          (fun D σZ HZ => ∃ n, n < 11 ∧ cls = .ref (c.cl n) ∧ d = none ∧ σZ[1]? = some (some (.ref a)) ∧ ∀ q H', Same HZ H' → H' q = some (.tup [.str ⟨errT.toArray⟩, .str ⟨(errS n).toArray⟩]) → D.rt (.ref q) H') := by
        intro a oe cls d pn p1 p2 p3 p4 zn ⟨vs, hvs⟩
        refine ⟨fun pinsZ sZ σZ HZ D IZ hh => ?_⟩
        obtain ⟨n, hn, ec, ed, h1, h2⟩ := hh
        subst ec ed
        refine (pss_one (ps_ret (pos := p4) (pe_term (X := Z.suite a ((a, oe) :: pn)) (cl := c.cl) (p := (a, oe)) (k := n) (i := 1) (q := p1) (p1 := p2) (pos := p3) ?_ ?_ ⟨rfl, vs, hvs, zn.2.2 vs hvs⟩ List.mem_cons_self hn zn.zc ?_ ?_ ?_ (by decide) (by decide)))).run pinsZ sZ σZ HZ D IZ ⟨h1, h2⟩
        · show TermF Z.K Z.mg c.cl
          rw [ZK, Zm]; exact F.tm
        · exact ⟨ZA.dp, ZA.un⟩
        · exact gl_of (by show glB Z.env.scope _ = true; rw [Zs]; exact g2)
        · show Z.N[1]? = _; rw [ZN]; rfl
        · show Vis Z.env.scope _; rw [Zs]; exact .inl le
      refine ⟨_, (pss_one (L2N.ps_try_as (X := Z) (i := 1) (c := .ref CS) st1 st2 (by rw [ZN]; decide) (by rw [ZN]; rfl) (by show Z.env.scope.names.lookup _ = _; rw [Zs]; exact le) ⟨gl_of (by rw [Zs]; exact g1), by decide, .inl (by rw [Zm]; exact hCS)⟩ (takes0 (X := Z)) (fun W pn xe tk _ => tr W pn xe _ _ _ tk) (fun a oe cls d pn zn hv => su a oe cls d pn _ _ _ _ zn hv))) |> fun h => (by subst hZ; exact h.nox), ?_⟩
      refine ⟨fun cls dd H' => ∃ n, n < 11 ∧ cls = .ref (c.cl n) ∧ dd = none ∧ ∀ q H'', Same H' H'' → H'' q = some (.tup [.str ⟨errT.toArray⟩, .str ⟨(errS n).toArray⟩]) → Q (.ref q) H'', fun cls d H' ⟨n, hn, ec, ed, hh⟩ => ?_, rfl, hco, hq⟩
      subst ec ed
      refine ⟨true, hex n hn, fun _ a na => ⟨n, hn, rfl, rfl, rfl, hh⟩, fun z => (by cases z)⟩
    · cases isT
  refine wpAny_call (codeAny_mono rc fun r s2 hq => ?_)
  cases r with
  | error e => exact (show False from hq).elim
  | ok fl =>
    cases fl with
    | ret u => exact I1.after hq
    | next => exact False.elim hq
    | brk => exact False.elim hq
    | cont => exact False.elim hq
end
end SG
set_option maxHeartbeats 2000000
namespace SG
open PySem PySem.Spec PyProof.Rows L2 HotX L2H
section
variable {X : Cx} {pins : List (Addr × Obj)} {σ : L2.St} {H : Hp} {s : Shared}
theorem layE {a C : Addr} {oe : Obj} {vs : Array Value} (I : Inv X pins σ H s) (ha : s.heap.get? a = some oe) (hz : Zc (.ref C) none oe) (hd : oe.data = .fields vs) (na : H a = none) (n0 : ∀ o, X.s_0.heap.get? a = some o → a ∈ X.ex) (nL : a ≠ X.env.locals)
    (nC : ∀ x c, X.env.cells.lookup x = some c → c ≠ a) (nP : ∀ p ∈ X.pn ++ pins, p.1 ≠ a) : Inv X pins σ (upd H a (ExT C a)) s := by
  have sm : ∀ b u, H b = some u → upd H a (ExT C a) b = some u := fun b u e => by rw [upd_ne (ne_of_none e na)]; exact e
  refine ⟨I.ok, I.os, I.bare, ⟨I.base.keep, I.base.slot, fun b o e n hx => ?_, I.base.there, fun b xs e => sm _ _ (I.base.tups b xs e), fun b o u e => sm _ _ (I.base.frzs b o u e), fun b ps e => ?_⟩, I.loc, I.cell, ?_, fun x c e => ?_, fun p hp => ?_, fun b u e => ?_, I.len⟩
  · rw [upd_ne (fun z => by subst z; exact hx (n0 o e))]; exact I.base.free b o e n hx
  · obtain ⟨more, e'⟩ := I.base.tbls b ps e
    exact ⟨more, sm _ _ e'⟩
  · rw [upd_ne (Ne.symm nL)]; exact I.free
  · rw [upd_ne (nC x c e)]; exact I.freeC x c e
  · obtain ⟨p1, p2, p3⟩ := I.pin p hp
    exact ⟨p1, by rw [upd_ne (nP p hp)]; exact p2, p3⟩
  · by_cases hb : b = a
    · subst hb
      rw [upd_same] at e
      cases e
      exact ⟨⟨oe, vs, ha, hz, hd⟩, ⟨oe, ha⟩, fun h1 h2 ⟨o, vs, e1, e2, e3⟩ st => ⟨o, vs, st _ e1, e2, e3⟩⟩
    · rw [upd_ne hb] at e
      exact (I.hok b u e).stay (fun _ _ _ q => q) (fun d q => sm _ _ q) fun d xs q => sm _ _ q
def wRet (K : PySem.W.Frag) (c : Value) (D : Ends) : WX := fun cls d _ H => ∃ C, cls = .ref C ∧ d = none ∧ PySem.W.exmOne K cls c = some true ∧ ∀ a, H a = none → D.rt (.ref a) (upd H a (ExT C a))
open L2N in
theorem ps_try_ret {x n : Str} {c : Value} {i : Nat} {body : List Stmt} {np p2 p3 pos pos' : Pos} {tb : WX → TS} (hs : X.stack = X.env :: X.outer) (hf : X.env.frame = some X.env.locals) (hN : X.N.Nodup) (hi : X.N[i]? = some n) (hln : X.env.kindOf n = some .local) (hc : Names X x c)
    (hdb : (n == ("__debug__" : Str)) = false) (hcd : (n == ("__classdict__" : Str)) = false)
    (hb : ∀ (W : WX) (pn : List (Addr × Obj)) (xe : Value → Shared → Prop), L2N.Takes (X.tr pn xe) W → PassesOwn (model X.prog X.w) X.A X.env xe → PSs (X.tr pn xe) body (tb W)) :
    PS X (.Try body [.ExceptHandler (some (.Name x np)) (some n) [.Return (some (.Name n p2)) p3] pos'] [] [] pos) (fun D σ H => tb (wRet X.K c D) D σ H) := by
  refine ⟨fun pins s σ H D I h => ?_⟩
  have ok := I.ok
  have hfr : X.A.frames = some (X.env :: X.outer) := by rw [ok.frames, hs]
  have hloc : Loc X.env.scope n := .inl hln
  refine wpAny_Try_except ?_
  refine wpAny_mono ((hb (wRet X.K c D) (X.pn ++ pins) (fun e s₁ => wpAny (model X.prog X.w) X.A (noteFrame e X.env) (fun _ s₂ => wpAny (model X.prog X.w) X.A (setFlight e none) (fun _ s₃ =>
    wpAny (model X.prog X.w) X.A (handleBy e X.env [.ExceptHandler (some (.Name x np)) (some n) [.Return (some (.Name n p2)) p3] pos']) (SP X pins D) X.xe s₃) X.xe s₂) X.xe s₁) (fun u s' xx => ?_) PassesOwn.looking).run [] s σ H D (I.toTry _) h) (fun f s1 hsp => ?_) (fun e s1 he => he)
  ·
    obtain ⟨a, B, sI, pins', σ', H', cls, d, rfl, J', nb, up, sky, na, os, ag, C, rfl, rfl, hb1, hyes⟩ := xx
    have J : Inv X pins σ' H' sI := J'.ofTry ok
    have sky' : Sky B (X.env :: X.outer) a (Zn (.ref C) none) X.env.locals s'.heap := by rw [← hs]; exact sky
    show wpAny (model X.prog X.w) X.A (noteFrame (.ref a) X.env) _ _ _
    refine Sky.land Zn.steady hfr hf sky' fun h3 fl3 up3 => ?_
    have J3 : Inv X pins σ' H' { s' with heap := h3 } := J.landed nb fl3.1 (up.trans up3) os ag
    obtain ⟨oe3, vs3, he3, hz3, hd3⟩ := fl3.there
    have notFr : ∀ {h : Heap} {o : Obj} {vs : Array Value}, h.FunFrames B (X.env :: X.outer) → h.get? a = some o → o.data = .fields vs → a ∉ frs (X.env :: X.outer) := fun {h o vs} ff e dd hm => by
      obtain ⟨_, o', e', hnf⟩ := ff.mem hm
      rw [e] at e'; cases e'
      exact hnf _ dd
    have nfr := notFr fl3.2.2.1 he3 hd3
    have nL : a ≠ X.env.locals := fun z => nfr (List.mem_filterMap.mpr ⟨X.env, List.mem_cons_self, by rw [hf, z]⟩)
    have nF : a ∉ X.fs := fun hm => by
      obtain ⟨e, he, q⟩ := List.mem_filterMap.mp hm
      exact nfr (List.mem_filterMap.mpr ⟨e, List.mem_cons_of_mem _ he, q⟩)
    have nI : ∀ o, sI.heap.get? a = some o → False := fun o e => by
      have z := nb a o e (by rw [hs]; exact nfr)
      rw [fl3.2.1] at z; cases z
    have S3 := J3.suite he3 hd3 na nL nF
    refine wpAny_handleBy_cons (codeAny_handlers_test ?_) (by intro q; cases q)
    have LT : PySem.W.Looks (model X.prog X.w) h3 (typeOf (.ref a)) (.ref C) := fun A Q E s k q => wpAny_typeOf_ref (k _ _ he3) (by rw [hz3.1]; exact q)
    have LM := PySem.W.exm_one (M := model X.prog X.w) (J3.kIn) LT hb1
    have test : ∀ {Q : Value → Shared → Prop} {E : Value → Shared → Prop}, Q c { s' with heap := h3 } → wpAny (model X.prog X.w) (X.A.mark (some (.ref a))) (eval (.Name x np) X.env) Q E { s' with heap := h3 } := fun {Q E} q => by
      obtain ⟨hg, hdbg, hm | ⟨hm, hv, hnn⟩⟩ := hc
      · exact ld_glob (X := X.suite a ((a, oe3) :: (X.pn ++ pins))) S3 hg hm q hdbg
      · exact ld_blt (X := X.suite a ((a, oe3) :: (X.pn ++ pins))) S3 hg hm hv q hnn hdbg
    refine test (LM.here ?_)
    refine codeAny_handlers_suite_as ?_
    refine HandSPX.lands_againZ fl3 fun h4 fl4 up4 => ?_
    have J4 : Inv X pins σ' H' { s' with heap := h4 } := J.landed nb fl4.1 ((up.trans up3).trans up4) os ag
    obtain ⟨oe4, vs4, he4, hz4, hd4⟩ := fl4.there
    have S4 := J4.suite he4 hd4 na nL nF
    refine store_ok (X := X.suite a ((a, oe4) :: (X.pn ++ pins))) (v := .ref a) S4 hN hi hloc rfl (fun s5 S5 => ?_) (.inr hln)
    have hiσ : i < σ'.length := by rw [J.len]; exact (List.getElem?_eq_some_iff.mp hi).1
    have su : PSs (X.suite a ((a, oe4) :: (X.pn ++ pins))) [.Return (some (.Name n p2)) p3] (tRet (tVar i)) := pss_one (ps_ret (pe_var hi (.inl hln) hdb hcd))
    refine wpAny_mono (su.run [] s5 _ H' { nx := fun _ _ => False, rt := fun v H6 => v = .ref a ∧ H6 = H' } S5 ⟨.ref a, List.getElem?_set_self hiσ, rfl, rfl⟩) (fun f s6 hsp => ?_) (fun _ _ z => False.elim z)
    cases f with
    | next =>
      obtain ⟨σ6, H6, S6, q6⟩ := hsp
      exact q6.elim
    | brk =>
      obtain ⟨σ6, H6, S6, q6⟩ := hsp
      exact False.elim q6
    | cont =>
      obtain ⟨σ6, H6, S6, q6⟩ := hsp
      exact False.elim q6
    | ret u =>
      obtain ⟨v6, σ6, H6, S6, r6, ev, eH⟩ := hsp
      subst ev eH
      have pin := S6.pin (a, oe4) (List.mem_append_left _ List.mem_cons_self)
      have I6 := layE (C := C) (S6.unsuite ok) pin.1 hz4.zc hd4 na (fun o e => ?_) nL (fun x c e => ?_) (fun p hp => ?_)
      · exact gone_ok I6 hN hi hln fun s7 J7 => ⟨_, _, _, J7, r6, hyes a na⟩
      · refine Classical.byContradiction fun hx => ?_
        obtain ⟨o', e'⟩ := J.base.there a o e hx
        exact nI o' e'
      · intro z
        subst z
        obtain ⟨v, hv⟩ := J.cell x c e
        obtain ⟨o, ho, _⟩ := hv
        exact nI o ho
      · intro z
        have := (J.pin p hp).1
        rw [z] at this
        exact nI _ this
  · cases f with
    | next =>
      obtain ⟨σ', H', J', q⟩ := hsp
      exact wpAny_execs_nil ⟨σ', H', J'.ofTry ok, q⟩
    | brk =>
      obtain ⟨σ', H', J', q⟩ := hsp
      exact ⟨σ', H', J'.ofTry ok, q⟩
    | cont =>
      obtain ⟨σ', H', J', q⟩ := hsp
      exact ⟨σ', H', J'.ofTry ok, q⟩
    | ret u =>
      obtain ⟨v, σ', H', J', r, q⟩ := hsp
      exact ⟨v, σ', H', J'.ofTry ok, r, q⟩
end
def metN : List Str := ["deed", "e"]
def isMet (sc : Scope) : List Stmt → Bool
  | [.Try [.Expr (.Call (.Name a _) [] [] _) _] [.ExceptHandler (some (.Name x _)) (some n) [.Return (some (.Name m _)) _] _] [] [] _, .Return (some (.Constant .none _ _)) _] =>
    decide (a = "deed") && decide (x = "SignError") && decide (n = "e") && decide (m = "e") && glB sc "SignError" && visB sc "deed" && decide (sc.names.lookup ("e" : Str) = some .local)
  | _ => false
structure MetF (K : PySem.W.Frag) (mg : Str → Option Value) (cl : Nat → Addr) : Prop where
  ex : ∃ (f : Addr) (fd : FuncData) (st : Stmt), Fun K "_law_met" "_law_met" st f fd ∧ mg "_law_met" = some (.ref f) ∧ Binds K fd ["deed"] [] ∧ FnScope metN ["deed"] (defScope st) ∧ isMet (defScope st) (defBody st) = true
  sg : ∃ CS, mg "SignError" = some (.ref CS) ∧ ∀ k, k < 11 → PySem.W.exmOne K (.ref (cl k)) (.ref CS) = some true
section
open LamX
theorem met_rule {c : Cn} {k : Nat} {P : Program} {w : World} {K : PySem.W.Frag} {mg : Str → Option Value} {base : Heap} (F : MetF K mg c.cl) : MetR c k P w K mg base := by
  intro X e1 e2 e3 e4 e5 hc hr hcode params body scope lpos p pos t hg hl hp hbody
  subst e1 e2 e3 e4 e5
  obtain ⟨cc, PT, hcd, TB, hmT, hu⟩ := hcode
  obtain ⟨g, fd, st, Fu, hm, hb, Sg, isT⟩ := F.ex
  obtain ⟨CS, hCS, hex⟩ := F.sg
  obtain ⟨oc, od, kV, doc, pm, an, cdv, ct, osl, rfl, lk, hcg⟩ := Fu.ex
  obtain ⟨hdef, hbind⟩ := lam_par hp
  have L := lamS_by hl
  refine ⟨fun pins s σ H Q I h => ?_⟩
  obtain ⟨hT, h⟩ := h
  refine wpAny_Call_Name_kw (ld_glob I (gl_of hg) hm ?_ (by decide))
  refine PySem.W.callWith_K (h₀ := X.base) I.ok.mod.kin Fu.kp ?_ (by rfl) (by rfl)
  show wpAny _ _ (spliced ((false, eval (.Lambda params body scope lpos) X.env) :: backTo pos (starEach [] X.env))) _ _ s
  refine Calls.spliced_cons (lam_make2 I TB hcd hmT hu hT (hdef _) (L.has I.ok) fun f c' pm' ctv H1 s' I1 eN T1 hf hfn hfr hco => ?_)
  refine Calls.spliced_nil ⟨I1.kIn, ?_⟩
  have hq := h H1 eN T1
  have rc : codeAny (model X.prog X.w) X.A (.call (.ref g) ⟨[.ref f], []⟩) (CR C8.CX0 X.stack X.prog X.w H1 s' Q C8.E0) s' := by
    refine run_ofS (N := metN) (ps := ["deed"]) (us := [.ref f]) (vs := [.ref f]) lk hcg Sg hr I1.env0 (hb s' [.ref f] I1.kIn rfl) (.cons rfl .nil) rfl fun hr' => ?_
    unfold isMet at isT
    split at isT
    · rename_i hbe
      simp only [Bool.and_eq_true, decide_eq_true_eq] at isT
      obtain ⟨⟨⟨⟨⟨⟨z1, z2⟩, z3⟩, z4⟩, g1⟩, v1⟩, le⟩ := isT
      subst z1 z2 z3 z4
      rw [hbe]
      generalize hZ : (cxOf C8.CX0 X.prog X.w X.K X.mg X.base metN "_law_met" (defScope st) g cdv X.A X.stack s' H1 C8.E0).nox = Z
      have ZK : Z.K = X.K := by rw [← hZ]; rfl
      have Zm : Z.mg = X.mg := by rw [← hZ]; rfl
      have Zs : Z.env.scope = defScope st := by rw [← hZ]; rfl
      have ZN : Z.N = metN := by rw [← hZ]; rfl
      have st1 : Z.stack = Z.env :: Z.outer := by rw [← hZ]; rfl
      have st2 : Z.env.frame = some Z.env.locals := by rw [← hZ]; rfl
      have tr : ∀ (W : WX) (pn : List (Addr × Obj)) (xe : Value → Shared → Prop) (p1 p2 p3 : Pos), L2N.Takes (Z.tr pn xe) W → PSs (Z.tr pn xe) [.Expr (.Call (.Name "deed" p1) [] [] p2) p3]
          (fun D σZ HZ => ∃ Ech : XK, (∀ cls d H', Ech cls d H' → W cls d σZ H') ∧ σZ[0]? = some (some (.ref f)) ∧ HZ c' = some (CodeO c' (X.env.qual ++ "<lambda>")) ∧ t (fun cls d _ H' => Ech cls d H') σ HZ (fun _ H1 => D.nx σZ H1)) := by
        intro W pn xe p1 p2 p3 tk
        refine ⟨fun pinsZ sZ σZ HZ D IZ hh => ?_⟩
        obtain ⟨Ech, hW, h1, h2, h3⟩ := hh
        subst hZ
        exact (pss_one (ps_expr (pos := p3) (pe_actN (pn := pn) (xe := xe) (p1 := p1) (p2 := p2) (i := 0) (k := k) (E := Ech) I1 L hf hfn hfr (hbind _ _ _ _ _ _ _) tk hr' (fun A outer s H hr2 =>
          hbody (lamCxN X A outer s H Ech scope f c') (fun cls d _ H' => Ech cls d H') ⟨rfl, rfl, rfl, rfl, rfl, rfl⟩ rfl hr2 rfl (L2N.takes_of rfl rfl rfl rfl)) rfl (vis_of v1) (by decide) (by decide)))).run pinsZ sZ σZ HZ D IZ ⟨hW, h1, h2, h3⟩
      refine ⟨_, (pss_cons (ps_try_ret (X := Z) (i := 1) (c := .ref CS) st1 st2 (by rw [ZN]; decide) (by rw [ZN]; rfl) (by show Z.env.scope.names.lookup _ = _; rw [Zs]; exact le) ⟨gl_of (by rw [Zs]; exact g1), by decide, .inl (by rw [Zm]; exact hCS)⟩ (by decide) (by decide) (fun W pn xe tk _ => tr W pn xe _ _ _ tk)) (pss_one (ps_ret pe_non))) |> fun h => (by subst hZ; exact h.nox), ?_⟩
      refine ⟨fun cls dd H' => ∃ n, n < 11 ∧ cls = .ref (c.cl n) ∧ dd = none ∧ ∀ a, H' a = none → Q (.ref a) (upd H' a (ExT (c.cl n) a)), fun cls d H' ⟨n, hn, ec, ed, hh⟩ => ?_, rfl, hco, hq⟩
      subst ec ed
      exact ⟨c.cl n, rfl, rfl, (by subst hZ; exact hex n hn), hh⟩
    · cases isT
  refine wpAny_call (codeAny_mono rc fun r s2 hq => ?_)
  cases r with
  | error e => exact (show False from hq).elim
  | ok fl =>
    cases fl with
    | ret u => exact I1.after hq
    | next => exact False.elim hq
    | brk => exact False.elim hq
    | cont => exact False.elim hq
end
end SG
namespace SG
open PySem PySem.Spec PyProof.Rows L2
def lawBody : List Stmt → List Stmt
  | [.For _ _ body [] _, _] => body
  | _ => []
def isLaw (sc : Scope) : List Stmt → Bool
  | [.For (.Name x _) (.Call (.Name r _) [.Name a _, .Constant (.int m) _ _] [] _) body [] _, .Return (some (.Constant (.bool true) _ _)) _] =>
    decide (x = "dice") && decide (r = "_law_rounds") && decide (a = "script") && decide (m ≤ 900) && glB sc "_law_rounds" && locB sc "dice" && visB sc "script"
  | _ => false
def env0 (n : Nat) : Env := (List.replicate n Sl.no).set 1 (.sh .die)
def spLaw (K : PySem.W.Frag) (T : List (Addr × Str)) : Sp := fun vs H Q _ => ∃ (a : Addr) (ns : List Int), vs = [.ref a] ∧ SqL K H a (ns.map V.int) ∧ ns.length ≤ 63 ∧ LamX.Tabs T H ∧ ∀ H', Q (.bl true) H'
def lamQ : Str := ("law" : Str) ++ ".<locals>." ++ "<lambda>"
section
variable {P : Program} {w : World} {K : PySem.W.Frag} {mg : Str → Option Value} {base : Heap} {tb : Tb} {er : Nat → Option Str} {ex exL : CkX} {cl : Nat → Addr} {dk : Addr} {T : List (Addr × Str)} {lam : Bool}
theorem ok_law {defs : Nat → Option Df} {st : Stmt} {f fR : Addr} {fd fdR : FuncData} {k : Nat} {N : List Str} {b : S} (M : Mods tb er ex cl dk K mg) (hD : ∀ p ∈ tb, defs p.1 = some p.2.df) (F : Fun K "law" "law" st f fd) (hsc : scB N ["script"] (defScope st) = true) (h0 : N[0]? = some ("script" : Str)) (h1 : N[1]? = some ("dice" : Str)) (hb : isLaw (defScope st) (defBody st) = true)
    (hlam : lam = true → ToldF K mg cl ∧ ∃ cc PT, fd.code = .ref cc ∧ LamX.TabB base mg cc PT ∧ T = [(PT, lamQ)])
    (hdk : exL.dk = true → DeskC dk K) (hxc : exL.xc = true → ∀ c : Cn, c.cl = cl → ClsI c K mg er)
    (hmk : exL.mkd = true → ∀ (c : Cn) (X : Cx), c.cl = cl → c.dk = dk → X.prog = P → X.w = w → X.K = K → X.mg = mg → X.base = base → Room (k + 1) X.A → MkR c ⟨N, tb.fnm, er, lam, exL⟩ (evCall defs k) k X)
    (hmet : exL.met = true → MetF K mg cl ∧ ∃ cc PT, fd.code = .ref cc ∧ LamX.TabB base mg cc PT ∧ T = [(PT, lamQ)])
    (hch : chkS ⟨N, tb.fnm, er, lam, exL⟩ (defScope st) b (.many (lawBody (defBody st))) = true)
    (FR : FnOk P w K mg base (L2N.CX P w) k fR fdR ["script", "most"] (spR K)) (mR : mg "_law_rounds" = some (.ref fR)) (kR : PySem.W.keepIn K (.ref fR) = true) (bR : Binds K fdR ["script", "most"] [])
    (hlaw : ∀ z : Int, ∃ env' d', evS (evCall defs k) b (env0 N.length) ⟨z, 0, none⟩ = .nx env' d' ∧ env'.length = N.length) : FnOk P w K mg base (L2N.CX P w) (k + 4) f fd ["script"] (spLaw K T) := by
  have S := scB_ok hsc
  refine okN (k := k + 3) F S (fun vs H Q E h => ?_) fun cdv A outer s H vs Q E hcv hr h => ?_
  · obtain ⟨a, ns, rfl, _⟩ := h; rfl
  · obtain ⟨a, ns, rfl, hS, hlen, hTb, q⟩ := h
    unfold isLaw at hb
    split at hb
    · rename_i hbe
      simp only [Bool.and_eq_true, decide_eq_true_eq] at hb
      obtain ⟨⟨⟨⟨⟨⟨e1, e2⟩, e3⟩, e4⟩, g1⟩, g2⟩, g3⟩ := hb
      subst e1 e2 e3
      rw [hbe] at hch
      simp only [lawBody] at hch
      rw [hbe]
      rename_i _ _ _ body _ _ _ _
      have gf := fun (dc : Addr) => cx_gf (P := P) (w := w) (K := K) (mg := mg) (base := base) (tb := tb) (er := er) (lam := lam) (ex := exL) (c := ⟨dc, T, cl, dk⟩) (cf := evCall defs k) (E := E) (outer := outer) (H := H) S (hr.mono (by omega)) M.blt M.cls (fns_ok M hD ⟨dc, T, cl, dk⟩ rfl rfl k) (fun hl => by
        obtain ⟨tf, cc, PT, e1, tb, rfl⟩ := hlam hl
        refine ⟨⟨cc, PT, hcv.symm.trans e1, tb, List.mem_cons_self, fun p hp _ => ?_⟩, hr.mono (by omega), told_rule tf⟩
        rw [List.mem_singleton.mp hp]; rfl) hdk (fun z => hxc z _ rfl) (fun z => hmk z _ _ rfl rfl rfl rfl rfl rfl rfl (hr.mono (by omega))) (fun hl => by
        obtain ⟨tf, cc, PT, e1, tb, rfl⟩ := hmet hl
        refine ⟨⟨cc, PT, hcv.symm.trans e1, tb, List.mem_cons_self, fun p hp _ => ?_⟩, hr, met_rule tf⟩
        rw [List.mem_singleton.mp hp]; rfl)
      generalize hX : cxOf (L2N.CX P w) P w K mg base N "law" (defScope st) f cdv A outer s H E = X at gf ⊢
      have XN : X.N = N := by rw [← hX]; rfl
      have XK' : X.K = K := by rw [← hX]; rfl
      have Xm : X.mg = mg := by rw [← hX]; rfl
      have Xs : X.env.scope = defScope st := by rw [← hX]; rfl
      have XA : Room k X.A := by rw [← hX]; exact hr.mono (by omega)
      have FR' : FnOk X.prog X.w X.K X.mg X.base (L2N.CX X.prog X.w) k fR fdR ["script", "most"] (spR X.K) := by rw [← hX]; exact FR
      have g0 := gf 0
      have nd : X.N.Nodup := by rw [XN]; exact S.nd
      have pb : PSs X body (fun D σ H2 => ∃ dc Fb Hb, tS ⟨dc, T, cl, dk⟩ Fb Hb (evCall defs k) (fun cls d _ H' => E cls d H') b D σ H2) :=
        ⟨fun pins s2 σ H2 D I ⟨dc, Fb, Hb, q⟩ => (soundS (Fb := Fb) (Hb := Hb) (gf dc) b (.many body) (by rw [Xs]; exact hch)).run pins s2 σ H2 D I q⟩
      have tgd := g0.tg "dice" (by rw [Xs]; exact g2)
      refine ⟨_, pss_cons (ps_for g0.hp g0.G.calm (pi_list (pe_callS FR' XA (gl_of (by rw [Xs]; exact g1)) (by rw [Xm]; exact mR) (by rw [XK']; exact kR) (by rw [XK']; exact bR) (fun σ => L2N.passAt g0.tk σ)
          (pa_cons (pe_var (i := 0) (by rw [XN]; exact h0) (vis_of (by rw [Xs]; exact g3))) (pa_cons pe_int pa_nil)))) (pg_name (i := 1) nd (by rw [XN]; exact h1) tgd.1 tgd.2) pb) (pss_one (ps_ret pe_bl)), ?_⟩
      rw [XK']
      have h1N : 1 < N.length := (List.getElem?_eq_some_iff.mp h1).1
      refine ⟨.ref a, rfl, a, ns, _, rfl, hS, by omega, e4, fun R ps H1 sm hR nR np hp => ⟨R, rfl, ⟨_, SqL.of hR⟩, ?_⟩⟩
      refine ⟨fun i m σ H2 => i + m = ps.length ∧ σ.length = N.length ∧ H2 R = some (.lst (ps.map V.ref)) ∧ LamX.Tabs T H2 ∧ ∀ (j : Nat) p, i ≤ j → ps[j]? = some p → ∃ z, H2 p = some (.lst [.int z, .int 0]), ⟨ps.length, by omega, ?_, hR, hTb.ext sm, fun j p _ e => hp p (List.mem_of_getElem? e)⟩, ?_⟩
      · unfold L2.start; simp; omega
      · rintro i m σ H2 ⟨em, el, eR, eT, ep⟩
        by_cases hi : i < ps.length
        · have gi : (ps.map V.ref)[i]? = some (.ref ps[i]) := by rw [List.getElem?_map, List.getElem?_eq_getElem hi]; rfl
          have gp : ps[i]? = some ps[i] := List.getElem?_eq_getElem hi
          refine .inr ⟨⟨_, _, SqL.of eR, gi⟩, fun σ' H' => σ'.length = N.length ∧ H' R = some (.lst (ps.map V.ref)) ∧ LamX.Tabs T H' ∧ ∀ (j : Nat) p, i + 1 ≤ j → ps[j]? = some p → ∃ z, H' p = some (.lst [.int z, .int 0]), fun σ' H' z => ⟨m - 1, by omega, by omega, z.1, z.2.1, z.2.2.1, z.2.2.2⟩, fun x H' hy => ?_⟩
          obtain ⟨rfl, hx⟩ := hy
          have ex := Option.some.inj ((hx _ (SqL.of eR)).symm.trans gi)
          subst ex
          obtain ⟨z, hz⟩ := ep i ps[i] (Nat.le_refl _) gp
          obtain ⟨env', d', ev, elen⟩ := hlaw z
          have nRp : R ≠ ps[i] := fun e => nR (e ▸ List.mem_of_getElem? gp)
          have keyE : ∀ (j : Nat) s, s ≠ Sl.no → (env0 N.length)[j]? = some s → j = 1 ∧ s = .sh .die := fun j s hs e => by
            unfold env0 at e
            by_cases hj : j = 1
            · subst hj
              rw [List.getElem?_set_self (by simpa using h1N)] at e
              exact ⟨rfl, (Option.some.inj e).symm⟩
            · rw [List.getElem?_set_ne (Ne.symm hj), List.getElem?_replicate] at e
              split at e <;> cases e
              exact absurd rfl hs
          refine ⟨ps[i], fun _ => False, H', env0 N.length, ⟨z, 0, none⟩, fun _ => False, ⟨⟨⟨fun _ h => h.elim, fun h => h, hz, eT, fun _ _ _ _ h => h.elim, fun _ _ _ _ _ _ _ _ h => h.elim⟩, ?_, fun j x e => ?_, fun j xs e => ?_, fun j k xs ys p e => ?_⟩, .refl, fun j xs p e => ?_⟩, ?_⟩
          · unfold env0; simp [el]
          · obtain ⟨rfl, e2⟩ := keyE j _ (by simp) e
            cases e2
            exact ⟨.ref ps[i], by rw [List.getElem?_set_self (by omega)], .die⟩
          · obtain ⟨_, e2⟩ := keyE j _ (by simp) e; cases e2
          · obtain ⟨_, e2⟩ := keyE j _ (by simp) e; cases e2
          · obtain ⟨_, e2⟩ := keyE j _ (by simp) e; cases e2
          · rw [ev]
            intro σ' H3 F' _ fs
            refine ⟨by rw [← fs.es.len, elen], fs.st.keep R _ eR nRp trivial, fs.es.wf.tabs, fun j p hj e => ?_⟩
            obtain ⟨z', hz'⟩ := ep j p (by omega) e
            have hjl := (List.getElem?_eq_some_iff.mp e).1
            have hpj := (List.getElem?_eq_some_iff.mp e).2
            have : p ≠ ps[i] := fun e2 => by
              exact List.pairwise_iff_getElem.mp np i j hi hjl (by omega) (by rw [hpj]; exact e2.symm)
            exact ⟨z', fs.st.keep p _ hz' this trivial⟩
        · refine .inl ⟨⟨_, SqL.of eR, by simp; omega⟩, q _⟩
    · cases hb
end
end SG
namespace SG
open PySem PySem.Spec PyProof.Rows L2
def FnAt (K : PySem.W.Frag) (x : Str) (st : Stmt) : Prop := ∃ (f : Addr) (oc : Value) (od : Option Addr) (kV doc pm : Value) (an : Option Addr) (cdv ct : Value) (osl : Array (Option Value)),
  PySem.W.nsIn K mainGlobals x = some (some (.ref f)) ∧ K.lookup f = some ⟨oc, od, .func (PySem.W.fnOf x x (defArgs st) (defBody st) (defScope st) .none kV doc pm an cdv ct), osl⟩ ∧ PySem.W.codeIn K cdv x = true ∧ PySem.W.keepIn K (.ref f) = true
theorem at_mk {K : PySem.W.Frag} {x : Str} {st : Stmt} {f : Addr} {oc : Value} {od an : Option Addr} {osl : Array (Option Value)} {kV doc pm cdv ct : Value} (a : PySem.W.nsIn K mainGlobals x = some (some (.ref f)))
    (l : K.lookup f = some ⟨oc, od, .func (PySem.W.fnOf x x (defArgs st) (defBody st) (defScope st) .none kV doc pm an cdv ct), osl⟩) (c : PySem.W.codeIn K cdv x = true) (k : PySem.W.keepIn K (.ref f) = true) : FnAt K x st := ⟨f, oc, od, kV, doc, pm, an, cdv, ct, osl, a, l, c, k⟩
def BindOk (x : Str) (st : Stmt) (ps : List Str) : Prop := ∀ (kV doc pm : Value) (an : Option Addr) (cdv ct : Value) (us : List Value), us.length = ps.length → bindArgs (PySem.W.fnOf x x (defArgs st) (defBody st) (defScope st) .none kV doc pm an cdv ct) ⟨us, []⟩ = pure (ps.zip us)
theorem FnAt.get {K : PySem.W.Frag} {x : Str} {st : Stmt} {h : Heap} {mg : Str → Option Value} {ps : List Str} (q : FnAt K x st) (KX : K.In h) (G : h.Ns mainGlobals mg) (b : BindOk x st ps) : ∃ f fd, Fun K x x st f fd ∧ mg x = some (.ref f) ∧ Binds K fd ps [] := by
  obtain ⟨f, oc, od, kV, doc, pm, an, cdv, ct, osl, a, l, c, k⟩ := q
  have F := fun_mk (st := st) l c k
  exact ⟨f, _, F, PySem.W.mg_of KX G a, F.binds b⟩
def isB (o : Option (Option Value)) (s : String) : Bool := match o with
  | some (some (.builtin n)) => n == s
  | _ => false
theorem isB_ok {o : Option (Option Value)} {s : String} (h : isB o s = true) : o = some (some (.builtin s)) := by
  unfold isB at h
  split at h
  · rw [beq_iff_eq.mp h]
  · cases h
def isZ (o : Option (Option Value)) : Bool := match o with
  | some none => true
  | _ => false
theorem isZ_ok {o : Option (Option Value)} (h : isZ o = true) : o = some none := by
  unfold isZ at h
  split at h
  · rfl
  · cases h
def isT (o : Option Value) (s : String) : Bool := match o with
  | some (.type n) => n == s
  | _ => false
theorem isT_ok {o : Option Value} {s : String} (h : isT o s = true) : o = some (.type s) := by
  unfold isT at h
  split at h
  · rw [beq_iff_eq.mp h]
  · cases h
def veM : List Value := [.type "ValueError", .type "Exception", .type "BaseException", .type "object"]
def clB (K : PySem.W.Frag) (CS c : Addr) : Bool :=
  PySem.W.keepIn K (.ref c) && PySem.W.excIn K c veM "ValueError.__new__" && (PySem.W.subIn K (.ref c) (.type "BaseException") == some true) && isT (PySem.W.typeIn K (.ref c)) "type" &&
    isB (PySem.W.findIn K (.ref c) "__getattribute__") "BaseException.__getattribute__" && isZ (PySem.W.findIn K (.ref c) "__getattr__") && PySem.W.hasDictIn K c && isB (PySem.W.findIn K (.ref c) "__class__") "object.__class__" &&
    isB (PySem.W.specialIn K (.builtin "object.__class__") "__get__") "getset_descriptor.__get__" && (PySem.W.takesIn K (.builtin "object.__class__") == some true) && (PySem.W.mroIn K c (.type "object") == some true) &&
    (PySem.W.kitOne K (.ref c) (.type "ValueError") == some true) && (PySem.W.exmOne K (.ref c) (.ref CS) == some true)
def clsB (K : PySem.W.Frag) (CS : Addr) (cl : List Addr) : Bool :=
  (List.range 11).all (fun k => clB K CS (cl.getD k 0)) && (List.range 11).all fun k => (List.range 11).all fun j => PySem.W.kitOne K (.ref (cl.getD k 0)) (.ref (cl.getD j 0)) == some (decide (k = j))
def errO : Nat → Option Str := fun j => errN[j]?
section
variable {K : PySem.W.Frag} {h : Heap} {mg : Str → Option Value} {CS : Addr} {cl : List Addr}
theorem cls_ok (KX : K.In h) (G : h.Ns mainGlobals mg) (hb : clsB K CS cl = true) (hn : ∀ j nm, errN[j]? = some nm → PySem.W.nsIn K mainGlobals nm = some (some (.ref (cl.getD j 0)))) :
    ClsOk K mg (fun j => cl.getD j 0) ∧ (∀ j nm, errO j = some nm → RaiseF (fun j => cl.getD j 0) K mg j nm) ∧ ∀ k, k < 11 → PySem.W.exmOne K (.ref (cl.getD k 0)) (.ref CS) = some true := by
  unfold clsB at hb
  rw [Bool.and_eq_true] at hb
  obtain ⟨h1, h2⟩ := hb
  have c1 : ∀ k, k < 11 → clB K CS (cl.getD k 0) = true := fun k hk => List.all_eq_true.mp h1 k (List.mem_range.mpr hk)
  have c2 : ∀ j k, j < 11 → k < 11 → PySem.W.kitOne K (.ref (cl.getD k 0)) (.ref (cl.getD j 0)) = some (decide (k = j)) := fun j k hj hk => beq_iff_eq.mp (List.all_eq_true.mp (List.all_eq_true.mp h2 k (List.mem_range.mpr hk)) j (List.mem_range.mpr hj))
  have db : ∀ z ∈ errN, (z == ("__debug__" : Str)) = false := by decide
  have lt : ∀ j nm, errN[j]? = some nm → j < 11 := fun j nm e => (List.getElem?_eq_some_iff.mp e).1
  have all : ∀ k, k < 11 → _ := fun k hk => by
    have := c1 k hk
    unfold clB at this
    simp only [Bool.and_eq_true] at this
    exact this
  refine ⟨⟨fun j nm e => PySem.W.mg_of KX G (hn j nm e), fun j hj => (all j hj).1.1.1.1.1.1.1.1.1.1.1.1, c2, fun k hk => ?_, fun k hk => ?_⟩, fun j nm e => ?_, fun k hk => ?_⟩
  · obtain ⟨⟨⟨⟨⟨⟨⟨⟨⟨⟨⟨⟨a1, a2⟩, a3⟩, a4⟩, a5⟩, a6⟩, a7⟩, a8⟩, a9⟩, a10⟩, a11⟩, a12⟩, a13⟩ := all k hk
    exact beq_iff_eq.mp a12
  · obtain ⟨⟨⟨⟨⟨⟨⟨⟨⟨⟨⟨⟨a1, a2⟩, a3⟩, a4⟩, a5⟩, a6⟩, a7⟩, a8⟩, a9⟩, a10⟩, a11⟩, a12⟩, a13⟩ := all k hk
    exact ⟨isB_ok a5, isZ_ok a6, beq_iff_eq.mp a3, a7, isB_ok a8, isB_ok a9, beq_iff_eq.mp a10, beq_iff_eq.mp a11⟩
  · obtain ⟨⟨⟨⟨⟨⟨⟨⟨⟨⟨⟨⟨a1, a2⟩, a3⟩, a4⟩, a5⟩, a6⟩, a7⟩, a8⟩, a9⟩, a10⟩, a11⟩, a12⟩, a13⟩ := all j (lt j nm e)
    exact ⟨a2, PySem.W.mg_of KX G (hn j nm e), a1, beq_iff_eq.mp a3, isT_ok a4, db nm (List.mem_of_getElem? e)⟩
  · obtain ⟨⟨⟨⟨⟨⟨⟨⟨⟨⟨⟨⟨a1, a2⟩, a3⟩, a4⟩, a5⟩, a6⟩, a7⟩, a8⟩, a9⟩, a10⟩, a11⟩, a12⟩, a13⟩ := all k hk
    exact beq_iff_eq.mp a13
end
def codeOf (K : PySem.W.Frag) (f : Addr) : Addr := match K.lookup f with
  | some ⟨_, _, .func fd, _⟩ => (match fd.code with | .ref c => c | _ => 0)
  | _ => 0
def tabOf (K : PySem.W.Frag) (c : Addr) : Addr := match K.lookup c with
  | some ⟨_, _, .fields vs, _⟩ => (match (vs[11]? : Option Value) with | some (.ref P) => P | _ => 0)
  | _ => 0
theorem codeHd_in {K : PySem.W.Frag} {c P : Addr} (e : PySem.W.codeHdIn K c P = true) : ∃ e dd vs sl, K.lookup c = some ⟨e, dd, .fields vs, sl⟩ ∧ (vs[11]? : Option Value) = some (.ref P) := by
  unfold PySem.W.codeHdIn at e
  split at e
  · rename_i vs _ hk
    simp only [Bool.and_eq_true] at e
    obtain ⟨⟨⟨⟨⟨e1, e2⟩, e3⟩, e4⟩, e5⟩, e6⟩ := e
    split at e1
    · rename_i P' h11
      have hP : P' = P := beq_iff_eq.mp e1
      subst hP
      exact ⟨_, _, vs, _, hk, h11⟩
    · cases e1
  · cases e
theorem codeIn_ref {K : PySem.W.Frag} {cd : Value} {q : Str} (e : PySem.W.codeIn K cd q = true) : ∃ c, cd = .ref c := by
  unfold PySem.W.codeIn at e
  split at e
  · exact ⟨_, rfl⟩
  · cases e
theorem fin {P : Program} {w : World} {K : PySem.W.Frag} {h : Heap} {mg : Str → Option Value} {fa : Addr} {tab : Tb} {defs : Nat → Option Df} {N : List Str} {b : S} {k : Nat} {sLaw sCell sRounds : Stmt} (KX : K.In h) (G : h.Ns mainGlobals mg) (hfa : mg "law" = some (.ref fa))
    (tab_ok : ∀ p ∈ tab, p.2.ok tab.fnm (fun _ => none) CkX.no = true) (tab_defs : ∀ p ∈ tab, defs p.1 = some p.2.df) (tab_bd : ∀ p ∈ tab, BindOk p.2.nm p.2.st (p.2.N.take p.2.df.ps)) (tab_at : ∀ p ∈ tab, FnAt K p.2.nm p.2.st)
    (qL : FnAt K "law" sLaw) (qC : FnAt K "_law_cell" sCell) (qR : FnAt K "_law_rounds" sRounds) (bL : BindOk "law" sLaw ["script"]) (bC : BindOk "_law_cell" sCell cellN) (bR : BindOk "_law_rounds" sRounds ["script", "most"])
    (blt : ∀ x ∈ bltNames, PySem.W.nsIn K mainGlobals (Str.ofString x) = some none)
    (law_sc : scB N ["script"] (defScope sLaw) = true) (h0 : N[0]? = some ("script" : Str)) (h1 : N[1]? = some ("dice" : Str)) (law_is : isLaw (defScope sLaw) (defBody sLaw) = true)
    (law_ch : chkS ⟨N, tab.fnm, fun _ => none, false, CkX.no⟩ (defScope sLaw) b (.many (lawBody (defBody sLaw))) = true)
    (cell_sc : scB cellN cellN (defScope sCell) = true) (cell_is : isCell (defBody sCell) = true) (cell_len : (defScope sCell).names.lookup ("len" : Str) = some .globalImplicit)
    (rounds_sc : scB roundsN ["script", "most"] (defScope sRounds) = true) (rounds_is : isRounds (defScope sRounds) (defBody sRounds) = true)
    (hlaw : ∀ z : Int, ∃ env' d', evS (evCall defs (k + 2)) b (env0 N.length) ⟨z, 0, none⟩ = .nx env' d' ∧ env'.length = N.length) :
    ∃ fd : FuncData, (∀ (s : Shared) (v : Value), BindsTo s fd ⟨[v], []⟩ [("script", v)]) ∧ ∀ base : Heap, K.In base → base.Ns mainGlobals mg → FnOk P w K mg base (L2N.CX P w) (k + 6) fa fd ["script"] (spLaw K []) := by
  have B : ∀ x ∈ bltNames, mg (Str.ofString x) = none := fun x hx => PySem.W.mg_none_of KX G (blt x hx)
  have M : Mods tab (fun _ => none) CkX.no (fun _ => 0) 0 K mg := ⟨tab_ok, (fun _ _ z => by cases z), B, (fun p hp => (tab_at p hp).get KX G (tab_bd p hp)), rfl, rfl, (fun z => by cases z), (fun z => by cases z)⟩
  obtain ⟨fC, fdC, FC, mC, bC'⟩ := qC.get KX G bC
  obtain ⟨fR, fdR, FR, mR, bR'⟩ := qR.get KX G bR
  obtain ⟨f, oc, od, kV, doc, pm, an, cdv, ct, osl, a, l, c, kk⟩ := qL
  have FL := fun_mk (st := sLaw) l c kk
  have e := hfa.symm.trans (PySem.W.mg_of KX G a)
  cases e
  refine ⟨_, fun s v => .of_eq (bL kV doc pm an cdv ct [v] rfl), fun base _ _ => ?_⟩
  have C : FnOk P w K mg base (L2N.CX P w) (k + 1) fC fdC cellN (spC K) := ok_cell FC (scB_ok cell_sc) cell_is cell_len (B "len" (by decide))
  have R : FnOk P w K mg base (L2N.CX P w) (k + 2) fR fdR ["script", "most"] (spR K) := ok_rounds FR (scB_ok rounds_sc) rounds_is C mC FC.kp bC' B
  exact ok_law (lam := false) (T := []) M tab_defs FL law_sc h0 h1 law_is (fun z => by cases z) (fun z => by cases z) (fun z => by cases z) (fun z => by cases z) (fun z => by cases z) law_ch R mR FR.kp bR' hlaw
theorem finT {l : PySem.W.OpenLaw} {w : World} {K : PySem.W.Frag} {h : Heap} {mg : Str → Option Value} {fa : Addr} {tab : Tb} {defs : Nat → Option Df} {N : List Str} {b : S} {k : Nat} {sLaw sCell sRounds sTerm sTold : Stmt} {f CS : Addr} {cls : List Addr} {oc : Value} {od an : Option Addr} {kV doc pm cdv ct : Value} {osl : Array (Option Value)}
    (KX : K.In h) (G : h.Ns mainGlobals mg) (hfa : mg "law" = some (.ref fa)) (OT : LamX.OwnTab K fa h)
    (tab_ok : ∀ p ∈ tab, p.2.ok tab.fnm errO CkX.no = true) (tab_defs : ∀ p ∈ tab, defs p.1 = some p.2.df) (tab_bd : ∀ p ∈ tab, BindOk p.2.nm p.2.st (p.2.N.take p.2.df.ps)) (tab_at : ∀ p ∈ tab, FnAt K p.2.nm p.2.st)
    (aL : PySem.W.nsIn K mainGlobals "law" = some (some (.ref f))) (lL : K.lookup f = some ⟨oc, od, .func (PySem.W.fnOf "law" "law" (defArgs sLaw) (defBody sLaw) (defScope sLaw) .none kV doc pm an cdv ct), osl⟩) (cL : PySem.W.codeIn K cdv "law" = true) (kL : PySem.W.keepIn K (.ref f) = true)
    (hcd : PySem.W.codeHdIn K (codeOf K f) (tabOf K (codeOf K f)) = true) (hnP : K.lookup (tabOf K (codeOf K f)) = none)
    (qC : FnAt K "_law_cell" sCell) (qR : FnAt K "_law_rounds" sRounds) (qT : FnAt K "_law_term" sTerm) (qO : FnAt K "_law_told" sTold)
    (bL : BindOk "law" sLaw ["script"]) (bC : BindOk "_law_cell" sCell cellN) (bR : BindOk "_law_rounds" sRounds ["script", "most"]) (bT : BindOk "_law_term" sTerm ["e"]) (bO : BindOk "_law_told" sTold ["deed"])
    (blt : ∀ x ∈ bltNames, PySem.W.nsIn K mainGlobals (Str.ofString x) = some none) (zV : PySem.W.nsIn K mainGlobals "ValueError" = some none)
    (hS : PySem.W.nsIn K mainGlobals "SignError" = some (some (.ref CS))) (hn : ∀ j nm, errN[j]? = some nm → PySem.W.nsIn K mainGlobals nm = some (some (.ref (cls.getD j 0)))) (hcB : clsB K CS cls = true)
    (law_sc : scB N ["script"] (defScope sLaw) = true) (h0 : N[0]? = some ("script" : Str)) (h1 : N[1]? = some ("dice" : Str)) (law_is : isLaw (defScope sLaw) (defBody sLaw) = true)
    (law_ch : chkS ⟨N, tab.fnm, errO, true, CkX.no⟩ (defScope sLaw) b (.many (lawBody (defBody sLaw))) = true)
    (cell_sc : scB cellN cellN (defScope sCell) = true) (cell_is : isCell (defBody sCell) = true) (cell_len : (defScope sCell).names.lookup ("len" : Str) = some .globalImplicit)
    (rounds_sc : scB roundsN ["script", "most"] (defScope sRounds) = true) (rounds_is : isRounds (defScope sRounds) (defBody sRounds) = true)
    (term_sc : scB termN ["e"] (defScope sTerm) = true) (term_is : isTerm (defScope sTerm) (defBody sTerm) = true) (told_sc : scB toldN ["deed"] (defScope sTold) = true) (told_is : isTold (defScope sTold) (defBody sTold) = true)
    (hlaw : ∀ z : Int, ∃ env' d', evS (evCall defs (k + 2)) b (env0 N.length) ⟨z, 0, none⟩ = .nx env' d' ∧ env'.length = N.length) :
    LamX.LawAtS l w K (L2N.CX l.prog w) (k + 6) 63 "script" mg fa h := by
  have B : ∀ x ∈ bltNames, mg (Str.ofString x) = none := fun x hx => PySem.W.mg_none_of KX G (blt x hx)
  obtain ⟨C1, C2, C3⟩ := cls_ok KX G hcB hn
  have M : Mods tab errO CkX.no (fun j => cls.getD j 0) 0 K mg := ⟨tab_ok, C2, B, (fun p hp => (tab_at p hp).get KX G (tab_bd p hp)), rfl, rfl, (fun z => by cases z), (fun z => by cases z)⟩
  obtain ⟨fC, fdC, FC, mC, bC'⟩ := qC.get KX G bC
  obtain ⟨fR, fdR, FR, mR, bR'⟩ := qR.get KX G bR
  obtain ⟨fT, fdT, FT, mT, bT'⟩ := qT.get KX G bT
  obtain ⟨fO, fdO, FO, mO, bO'⟩ := qO.get KX G bO
  have FL := fun_mk (st := sLaw) lL cL kL
  have e := hfa.symm.trans (PySem.W.mg_of KX G aL)
  cases e
  obtain ⟨cc, rfl⟩ := codeIn_ref cL
  have ecc : codeOf K fa = cc := by unfold codeOf; rw [lL]
  rw [ecc] at hcd hnP
  obtain ⟨e1, dd, vs, sl, lk, l11⟩ := codeHd_in hcd
  have tf : ToldF K mg (fun j => cls.getD j 0) := by
    refine ⟨⟨⟨fT, fdT, sTerm, FT, mT, bT', scB_ok term_sc, term_is⟩, C1, fun x hx => ?_⟩, ⟨fO, fdO, sTold, FO, mO, bO', scB_ok told_sc, told_is⟩, CS, PySem.W.mg_of KX G hS, C3⟩
    simp only [List.mem_cons, List.not_mem_nil, or_false] at hx
    rcases hx with rfl | rfl | rfl | rfl
    · exact B "sum" (by decide)
    · exact B "int" (by decide)
    · exact B "isinstance" (by decide)
    · exact PySem.W.mg_none_of KX G zV
  refine ⟨_, [(cc, tabOf K cc)], spLaw K [(tabOf K cc, lamQ)], fun p hp => ?_, fun p hp => ?_, fun p hp => ?_, fun s v => .of_eq (bL kV doc pm an (.ref cc) ct [v] rfl), fun H a ns hl _ hT hS => ⟨a, ns, rfl, hS, hl, fun p hp => ?_, fun _ => rfl⟩, fun base hKb hNb hTB => ?_⟩
  · rw [List.mem_singleton.mp hp]; exact OT cc _ _ _ _ _ _ _ lL rfl rfl lk l11
  · rw [List.mem_singleton.mp hp]; exact hnP
  · rw [List.mem_singleton.mp hp]; exact PySem.W.codeHd_of_K KX hcd
  · rw [List.mem_singleton.mp hp]; exact LamX.TabS.nil (hT _ (List.mem_singleton.mpr rfl))
  · have C : FnOk l.prog w K mg base (L2N.CX l.prog w) (k + 1) fC fdC cellN (spC K) := ok_cell FC (scB_ok cell_sc) cell_is cell_len (B "len" (by decide))
    have R : FnOk l.prog w K mg base (L2N.CX l.prog w) (k + 2) fR fdR ["script", "most"] (spR K) := ok_rounds FR (scB_ok rounds_sc) rounds_is C mC FC.kp bC' B
    exact ok_law (lam := true) M tab_defs FL law_sc h0 h1 law_is (fun _ => ⟨tf, cc, _, rfl, hTB _ (List.mem_singleton.mpr rfl), rfl⟩) (fun z => by cases z) (fun z => by cases z) (fun z => by cases z) (fun z => by cases z) law_ch R mR FR.kp bR' hlaw
def deskB (K : PySem.W.Frag) (dk : Addr) : Bool :=
  PySem.W.plainGet K dk Str.empty && PySem.W.hasDictIn K dk && PySem.W.plainOver K dk && isB (PySem.W.findIn K (.ref dk) "__setattr__") "object.__setattr__" && isZ (PySem.W.findIn K (.ref dk) (fldN 0)) && isZ (PySem.W.findIn K (.ref dk) (fldN 1)) && isZ (PySem.W.findIn K (.ref dk) (fldN 2)) && PySem.W.makesIn K dk && PySem.W.keepIn K (.ref dk)
theorem desk_ok {K : PySem.W.Frag} {dk : Addr} (h : deskB K dk = true) : DeskC dk K ∧ PySem.W.makesIn K dk = true ∧ PySem.W.keepIn K (.ref dk) = true := by
  unfold deskB at h
  simp only [Bool.and_eq_true] at h
  obtain ⟨⟨⟨⟨⟨⟨⟨⟨a1, a2⟩, a3⟩, a4⟩, a5⟩, a6⟩, a7⟩, a8⟩, a9⟩ := h
  exact ⟨⟨⟨a1, a2, a3, isB_ok a4⟩, fun j hj => match j, hj with | 0, _ => isZ_ok a5 | 1, _ => isZ_ok a6 | 2, _ => isZ_ok a7⟩, a8, a9⟩
def MtAt (K : PySem.W.Frag) (dk : Addr) (x : Str) (st : Stmt) : Prop := ∃ (q : Str) (f : Addr) (oc : Value) (od : Option Addr) (kV doc pm : Value) (an : Option Addr) (cdv ct : Value) (osl : Array (Option Value)),
  PySem.W.findIn K (.ref dk) x = some (some (.ref f)) ∧ K.lookup f = some ⟨oc, od, .func (PySem.W.fnOf x q (defArgs st) (defBody st) (defScope st) .none kV doc pm an cdv ct), osl⟩ ∧ PySem.W.codeIn K cdv q = true ∧ PySem.W.keepIn K (.ref f) = true ∧ PySem.W.isFn K (.ref f) = true
theorem mt_mk {K : PySem.W.Frag} {dk : Addr} {x q : Str} {st : Stmt} {f : Addr} {oc : Value} {od an : Option Addr} {osl : Array (Option Value)} {kV doc pm cdv ct : Value} (a : PySem.W.findIn K (.ref dk) x = some (some (.ref f)))
    (l : K.lookup f = some ⟨oc, od, .func (PySem.W.fnOf x q (defArgs st) (defBody st) (defScope st) .none kV doc pm an cdv ct), osl⟩) (c : PySem.W.codeIn K cdv q = true) (k : PySem.W.keepIn K (.ref f) = true) (i : PySem.W.isFn K (.ref f) = true) : MtAt K dk x st := ⟨q, f, oc, od, kV, doc, pm, an, cdv, ct, osl, a, l, c, k, i⟩
def BindQ (x : Str) (st : Stmt) (ps : List Str) : Prop := ∀ (q : Str) (kV doc pm : Value) (an : Option Addr) (cdv ct : Value) (us : List Value), us.length = ps.length → bindArgs (PySem.W.fnOf x q (defArgs st) (defBody st) (defScope st) .none kV doc pm an cdv ct) ⟨us, []⟩ = pure (ps.zip us)
theorem MtAt.get {K : PySem.W.Frag} {dk : Addr} {x : Str} {st : Stmt} {ps : List Str} (m : MtAt K dk x st) (b : BindQ x st ps) : ∃ q f fd, Fun K x q st f fd ∧ Meth K dk x f ∧ Binds K fd ps [] := by
  obtain ⟨q, f, oc, od, kV, doc, pm, an, cdv, ct, osl, a, l, c, k, i⟩ := m
  have F := fun_mk (st := st) l c k
  exact ⟨q, f, _, F, ⟨a, i, k⟩, F.binds (b q)⟩
def exD : CkX := ⟨fun _ => none, true, false, true, false⟩
def exL (tm : Tb) : CkX := ⟨tm.fnm, false, true, false, true⟩
theorem finM {l : PySem.W.OpenLaw} {w : World} {K : PySem.W.Frag} {h : Heap} {mg : Str → Option Value} {fa : Addr} {tab tm : Tb} {defs : Nat → Option Df} {N : List Str} {b : S} {k n : Nat} {sLaw sCell sRounds sMet sInit : Stmt} {f CS dk : Addr} {cls : List Addr} {oc : Value} {od an : Option Addr} {kV doc pm cdv ct : Value} {osl : Array (Option Value)}
    (KX : K.In h) (G : h.Ns mainGlobals mg) (hfa : mg "law" = some (.ref fa)) (OT : LamX.OwnTab K fa h)
    (tab_ok : ∀ p ∈ tab, p.2.ok tab.fnm errO exD = true) (tab_defs : ∀ p ∈ tab, defs p.1 = some p.2.df) (tab_bd : ∀ p ∈ tab, BindOk p.2.nm p.2.st (p.2.N.take p.2.df.ps)) (tab_at : ∀ p ∈ tab, FnAt K p.2.nm p.2.st)
    (tm_ok : ∀ p ∈ tm, p.2.ok tab.fnm errO exD = true) (tm_defs : ∀ p ∈ tm, defs p.1 = some p.2.df) (tm_bd : ∀ p ∈ tm, BindQ p.2.nm p.2.st (p.2.N.take p.2.df.ps)) (tm_nf : ∀ p ∈ tm, ∀ j, j < 3 → fldN j ≠ p.2.nm) (tm_at : ∀ p ∈ tm, MtAt K dk p.2.nm p.2.st)
    (hnt : tab.fnm n = some ("need_table" : Str)) (h900 : defs 900 = some (initDf n))
    (aL : PySem.W.nsIn K mainGlobals "law" = some (some (.ref f))) (lL : K.lookup f = some ⟨oc, od, .func (PySem.W.fnOf "law" "law" (defArgs sLaw) (defBody sLaw) (defScope sLaw) .none kV doc pm an cdv ct), osl⟩) (cL : PySem.W.codeIn K cdv "law" = true) (kL : PySem.W.keepIn K (.ref f) = true)
    (hcd : PySem.W.codeHdIn K (codeOf K f) (tabOf K (codeOf K f)) = true) (hnP : K.lookup (tabOf K (codeOf K f)) = none)
    (qC : FnAt K "_law_cell" sCell) (qR : FnAt K "_law_rounds" sRounds) (qM : FnAt K "_law_met" sMet) (qI : MtAt K dk "__init__" sInit)
    (bL : BindOk "law" sLaw ["script"]) (bC : BindOk "_law_cell" sCell cellN) (bR : BindOk "_law_rounds" sRounds ["script", "most"]) (bM : BindOk "_law_met" sMet ["deed"]) (bI : BindQ "__init__" sInit initN)
    (blt : ∀ x ∈ bltNames, PySem.W.nsIn K mainGlobals (Str.ofString x) = some none) (zV : PySem.W.nsIn K mainGlobals "ValueError" = some none)
    (hS : PySem.W.nsIn K mainGlobals "SignError" = some (some (.ref CS))) (hn : ∀ j nm, errN[j]? = some nm → PySem.W.nsIn K mainGlobals nm = some (some (.ref (cls.getD j 0)))) (hcB : clsB K CS cls = true)
    (hDk : PySem.W.nsIn K mainGlobals "Desk" = some (some (.ref dk))) (dB : deskB K dk = true)
    (law_sc : scB N ["script"] (defScope sLaw) = true) (h0 : N[0]? = some ("script" : Str)) (h1 : N[1]? = some ("dice" : Str)) (law_is : isLaw (defScope sLaw) (defBody sLaw) = true)
    (law_ch : chkS ⟨N, tab.fnm, errO, false, exL tm⟩ (defScope sLaw) b (.many (lawBody (defBody sLaw))) = true)
    (cell_sc : scB cellN cellN (defScope sCell) = true) (cell_is : isCell (defBody sCell) = true) (cell_len : (defScope sCell).names.lookup ("len" : Str) = some .globalImplicit)
    (rounds_sc : scB roundsN ["script", "most"] (defScope sRounds) = true) (rounds_is : isRounds (defScope sRounds) (defBody sRounds) = true)
    (met_sc : scB metN ["deed"] (defScope sMet) = true) (met_is : isMet (defScope sMet) (defBody sMet) = true) (init_sc : scB initN initN (defScope sInit) = true) (init_is : isInit (defScope sInit) (defBody sInit) = true)
    (hlaw : ∀ z : Int, ∃ env' d', evS (evCall defs (k + 2)) b (env0 N.length) ⟨z, 0, none⟩ = .nx env' d' ∧ env'.length = N.length) :
    LamX.LawAtS l w K (L2N.CX l.prog w) (k + 6) 63 "script" mg fa h := by
  have B : ∀ x ∈ bltNames, mg (Str.ofString x) = none := fun x hx => PySem.W.mg_none_of KX G (blt x hx)
  obtain ⟨C1, C2, C3⟩ := cls_ok KX G hcB hn
  obtain ⟨DK, dm, dkp⟩ := desk_ok dB
  have db : ∀ z ∈ errN, (z == ("__debug__" : Str)) = false := by decide
  have CI : ∀ c : Cn, c.cl = (fun j => cls.getD j 0) → ClsI c K mg errO := fun c hc => by
    refine ⟨fun j nm e => ?_, fun j k hj hk => ?_, fun k hk => ?_, fun k hk => ?_, PySem.W.mg_none_of KX G zV⟩
    · rw [hc]; exact ⟨(List.getElem?_eq_some_iff.mp e).1, C1.mg j nm e, db nm (List.mem_of_getElem? e)⟩
    · rw [hc]; exact C1.ne j k hj hk
    · rw [hc]; exact C1.ve k hk
    · rw [hc]; exact C1.ex k hk
  have M : Mods tab errO exD (fun j => cls.getD j 0) dk K mg := ⟨tab_ok, C2, B, (fun p hp => (tab_at p hp).get KX G (tab_bd p hp)), rfl, rfl, fun _ => DK, fun _ => CI⟩
  have MT : Mts tab tm errO exD dk K := ⟨tm_ok, tm_nf, fun p hp => (tm_at p hp).get (tm_bd p hp)⟩
  obtain ⟨fC, fdC, FC, mC, bC'⟩ := qC.get KX G bC
  obtain ⟨fR, fdR, FR, mR, bR'⟩ := qR.get KX G bR
  obtain ⟨fM, fdM, FM, mM, bM'⟩ := qM.get KX G bM
  obtain ⟨qI', fI, fdI, FI, mI, bI'⟩ := qI.get bI
  have mDk := PySem.W.mg_of KX G hDk
  have FL := fun_mk (st := sLaw) lL cL kL
  have e := hfa.symm.trans (PySem.W.mg_of KX G aL)
  cases e
  obtain ⟨cc, rfl⟩ := codeIn_ref cL
  have ecc : codeOf K fa = cc := by unfold codeOf; rw [lL]
  rw [ecc] at hcd hnP
  obtain ⟨e1, dd, vs, sl, lk, l11⟩ := codeHd_in hcd
  have mf : MetF K mg (fun j => cls.getD j 0) := ⟨⟨fM, fdM, sMet, FM, mM, bM', scB_ok met_sc, met_is⟩, CS, PySem.W.mg_of KX G hS, C3⟩
  refine ⟨_, [(cc, tabOf K cc)], spLaw K [(tabOf K cc, lamQ)], fun p hp => ?_, fun p hp => ?_, fun p hp => ?_, fun s v => .of_eq (bL kV doc pm an (.ref cc) ct [v] rfl), fun H a ns hl _ hT hS => ⟨a, ns, rfl, hS, hl, fun p hp => ?_, fun _ => rfl⟩, fun base hKb hNb hTB => ?_⟩
  · rw [List.mem_singleton.mp hp]; exact OT cc _ _ _ _ _ _ _ lL rfl rfl lk l11
  · rw [List.mem_singleton.mp hp]; exact hnP
  · rw [List.mem_singleton.mp hp]; exact PySem.W.codeHd_of_K KX hcd
  · rw [List.mem_singleton.mp hp]; exact LamX.TabS.nil (hT _ (List.mem_singleton.mpr rfl))
  · have C : FnOk l.prog w K mg base (L2N.CX l.prog w) (k + 1) fC fdC cellN (spC K) := ok_cell FC (scB_ok cell_sc) cell_is cell_len (B "len" (by decide))
    have R : FnOk l.prog w K mg base (L2N.CX l.prog w) (k + 2) fR fdR ["script", "most"] (spR K) := ok_rounds FR (scB_ok rounds_sc) rounds_is C mC FC.kp bC' B
    refine ok_law (lam := false) (exL := exL tm) M tab_defs FL law_sc h0 h1 law_is (fun z => by cases z) (fun z => by cases z) (fun z => by cases z) (fun _ c X hcl hck e1 e2 e3 e4 e5 room => ?_) (fun _ => ⟨mf, cc, _, rfl, hTB _ (List.mem_singleton.mpr rfl), rfl⟩) law_ch R mR FR.kp bR' hlaw
    subst hck
    refine ⟨room, by rw [e4]; exact mDk, by rw [e3]; exact DK, ⟨fI, fdI, initN, by rw [e3]; exact ⟨dm, mI.at_, mI.fn, dkp⟩, by rw [e3]; exact bI', ?_⟩, fun i nm hi => ?_⟩
    · rw [e1, e2, e3, e4, e5]
      exact init_ok FI init_sc init_is hnt h900 DK (fns_ok M tab_defs c hcl rfl (k + 1))
    · rw [e1, e2, e3, e4, e5]
      exact mts_ok M MT tab_defs tm_defs hcl rfl (k + 2) i nm hi
theorem cx_no {P : Program} {w : World} {H : Hp} {s : Shared} {e : Value} {s' : Shared} (h : L2N.CX P w [] H s (fun _ _ _ => False) e s') : False := by
  obtain ⟨a, B, H', cls, d, _, _, _, _, _, _, _, z⟩ := h
  exact z
end SG
namespace SG
def onB {α : Type} (o : Option Bool) (a b e : α) : α := match o with | some true => a | some false => b | none => e
def onD {α : Type} (x : D) (a b e : α) : α := match x with | .bl true => a | .bl false => b | _ => e
def onI {α : Type} (x : D) (f : Int → α) (e : α) : α := match x with | .int i => f i | _ => e
def isNon : D → Bool | .non => true | _ => false
def onO {α β : Type} (x : Option β) (f : β → α) (e : α) : α := match x with | some i => f i | none => e
def Res.told : Res D → Res D
  | .err k d => if k < 11 then .ok (errD k) d else .bad
  | r => r
def thenS (cf : CF) (r : S) (o : Out) : Out := o.then fun env d => evS cf r env d
def ifS (cf : CF) (a b : S) (env : Env) (d : Dice) (o : Option Bool) : Out := onB o (evS cf a env d) (evS cf b env d) .bad
def ifE (cf : CF) (a b : E) (env : Env) (d : Dice) (o : Option Bool) : Res D := onB o (ev cf a env d) (ev cf b env d) .bad
def forS (cf : CF) (tg : E) (b : S) (l : List D) (env : Env) (d : Dice) : Out := forLoop tg (fun env d => evS cf b env d) l env d
def whlS (cf : CF) (n : Nat) (c : E) (b : S) (env : Env) (d : Dice) : Out := whileLoop (fun env d => ev cf c env d) (fun env d => evS cf b env d) n env d
def lcS (cf : CF) (elt tg : E) (own : List Nat) (l : List D) (env : Env) (d : Dice) : Res (List D) := lcLoop (fun y => asg tg y (env.wipe own)) (fun env d => (ev cf elt env d).bind fun y d => .ok (some y) d) l d
def lcfS (cf : CF) (elt tg c : E) (own : List Nat) (l : List D) (env : Env) (d : Dice) : Res (List D) := lcLoop (fun y => asg tg y (env.wipe own)) (fun env d => (ev cf c env d).bind fun b d => match truth b with
        | some true => (ev cf elt env d).bind fun y d => .ok (some y) d
        | some false => .ok none d
        | none => .bad) l d
section
variable {α β : Type} {a b e : α} {t : Bool} {d d1 : Dice} {f : α → Dice → Res β} {cf : CF} {env env' : Env}
@[simp] theorem onB_some : onB (some t) a b e = if t = true then a else b := by cases t <;> rfl
@[simp] theorem onD_bl : onD (.bl t) a b e = if t = true then a else b := by cases t <;> rfl
@[simp] theorem onI_int {i : Int} {f : Int → α} : onI (.int i) f e = f i := id rfl
@[simp] theorem onO_some {x : β} {f : β → α} : onO (some x) f e = f x := id rfl
@[simp] theorem r_bind : (Res.ok a d).bind f = f a d := id rfl
@[simp] theorem r_err {n : Nat} : (Res.err n d : Res α).bind f = .err n d := id rfl
@[simp] theorem r_of : Res.of (some a) d = .ok a d := id rfl
@[simp] theorem r_noerr : (Res.ok a d).noerr = .ok a d := id rfl
@[simp] theorem r_out {g : α → Dice → Out} : (Res.ok a d).out g = g a d := id rfl
@[simp] theorem r_oute {g : α → Dice → Out} {n : Nat} : (Res.err n d : Res α).out g = .er n d := id rfl
@[simp] theorem o_er {n : Nat} {g : Env → Dice → Out} : (Out.er n d).then g = .er n d := id rfl
@[simp] theorem o_rese {n : Nat} : (Out.er n d).res = .err n d := id rfl
@[simp] theorem told_ok {x : D} : (Res.ok x d).told = .ok x d := id rfl
@[simp] theorem told_0 : (Res.err 0 d : Res D).told = .ok (errD 0) d := id rfl
@[simp] theorem told_1 : (Res.err 1 d : Res D).told = .ok (errD 1) d := id rfl
@[simp] theorem told_2 : (Res.err 2 d : Res D).told = .ok (errD 2) d := id rfl
@[simp] theorem told_3 : (Res.err 3 d : Res D).told = .ok (errD 3) d := id rfl
@[simp] theorem told_4 : (Res.err 4 d : Res D).told = .ok (errD 4) d := id rfl
@[simp] theorem told_5 : (Res.err 5 d : Res D).told = .ok (errD 5) d := id rfl
@[simp] theorem told_6 : (Res.err 6 d : Res D).told = .ok (errD 6) d := id rfl
@[simp] theorem told_7 : (Res.err 7 d : Res D).told = .ok (errD 7) d := id rfl
@[simp] theorem told_8 : (Res.err 8 d : Res D).told = .ok (errD 8) d := id rfl
@[simp] theorem told_9 : (Res.err 9 d : Res D).told = .ok (errD 9) d := id rfl
@[simp] theorem told_10 : (Res.err 10 d : Res D).told = .ok (errD 10) d := id rfl
@[simp] theorem o_nx {g : Env → Dice → Out} : (Out.nx env d).then g = g env d := id rfl
@[simp] theorem o_rt {v : D} {g : Env → Dice → Out} : (Out.rt v d).then g = .rt v d := id rfl
@[simp] theorem o_res {v : D} : (Out.rt v d).res = .ok v d := id rfl
@[simp] theorem o_resn : (Out.nx env d).res = .ok .non d := id rfl
@[simp] theorem o_ofE : Out.ofE (some env) d = .nx env d := id rfl
@[simp] theorem t_bl : truth (.bl t) = some t := id rfl
@[simp] theorem t_int {i : Int} : truth (.int i) = some (decide (i ≠ 0)) := id rfl
@[simp] theorem tups_t {l : List D} : tups (.tup l) = l := id rfl
@[simp] theorem i_lst {l : List D} : items (.lst l) = some l := id rfl
@[simp] theorem i_tup {l : List D} : items (.tup l) = some l := id rfl
@[simp] theorem i_str {l : List Nat} : items (.str l) = some (l.map fun c => .str [c]) := id rfl
@[simp] theorem put0 {x : Sl} {r : Env} {y : Sl} : Env.put (x :: r) 0 y = some (y :: r) := by simp [Env.put]
@[simp] theorem putS {x : Sl} {r : Env} {n : Nat} {y : Sl} : Env.put (x :: r) (n + 1) y = (Env.put r n y).map (x :: ·) := by
  unfold Env.put; by_cases h : n < r.length <;> simp [h]
@[simp] theorem get0 {x : D} {r : Env} : Env.get (.sh x :: r) 0 = some x := id rfl
@[simp] theorem getS {x : Sl} {r : Env} {n : Nat} : Env.get (x :: r) (n + 1) = Env.get r n := by simp [Env.get]
@[simp] theorem getO0 {x : List D} {r : Env} : Env.getO (.ow x :: r) 0 = some x := id rfl
@[simp] theorem getOS {x : Sl} {r : Env} {n : Nat} : Env.getO (x :: r) (n + 1) = Env.getO r n := by simp [Env.getO]
@[simp] theorem wipe_nil : Env.wipe env [] = env := id rfl
@[simp] theorem wipe_cons {v : Nat} {vs : List Nat} : Env.wipe env (v :: vs) = (Env.wipe env vs).set v .no := id rfl
theorem ordI {i j : Int} : D.ordB (.int i) (.int j) = true := by simp [D.ordB, D.py, D.dep, PySem.W.alike]
@[simp] theorem c_lt {i j : Int} : opCmp .lt (.int i) (.int j) = some (decide (i < j)) := by simp [opCmp, ordI, D.lt]
@[simp] theorem c_gt {i j : Int} : opCmp .gt (.int i) (.int j) = some (decide (j < i)) := by simp [opCmp, ordI, D.lt]
@[simp] theorem c_le {i j : Int} : opCmp .le (.int i) (.int j) = some (decide (i ≤ j)) := by simp [opCmp, ordI, D.lt, ← Int.not_lt]
@[simp] theorem c_ge {i j : Int} : opCmp .ge (.int i) (.int j) = some (decide (j ≤ i)) := by simp [opCmp, ordI, D.lt, ← Int.not_lt]
@[simp] theorem c_eqI {i j : Int} : opCmp .eq (.int i) (.int j) = some (decide (i = j)) := by simp [opCmp, D.dep, D.eq]; rfl
@[simp] theorem c_neI {i j : Int} : opCmp .ne (.int i) (.int j) = some (decide (i ≠ j)) := by simp [opCmp, D.dep, D.eq]; rfl
@[simp] theorem c_eqS {s t : List Nat} : opCmp .eq (.str s) (.str t) = some (decide (s = t)) := by simp [opCmp, D.dep, D.eq]; rw [Bool.eq_iff_iff]; simp
@[simp] theorem c_neS {s t : List Nat} : opCmp .ne (.str s) (.str t) = some (decide (s ≠ t)) := by simp [opCmp, D.dep, D.eq]; rw [Bool.eq_iff_iff]; simp
@[simp] theorem c_eqB {s t : Bool} : opCmp .eq (.bl s) (.bl t) = some (decide (s = t)) := by cases s <;> cases t <;> rfl
@[simp] theorem c_neB {s t : Bool} : opCmp .ne (.bl s) (.bl t) = some (decide (s ≠ t)) := by cases s <;> cases t <;> rfl
@[simp] theorem b_add {i j : Int} : opBin .add (.int i) (.int j) = some (.int (i + j)) := id rfl
@[simp] theorem b_sub {i j : Int} : opBin .sub (.int i) (.int j) = some (.int (i - j)) := id rfl
@[simp] theorem x_len1 {l : List D} : opBi .len [.tup l] = some (.int l.length) := id rfl
@[simp] theorem x_len2 {l : List D} : opBi .len [.lst l] = some (.int l.length) := id rfl
@[simp] theorem x_tup1 {l : List D} : opBi .tuple [.lst l] = some (.tup l) := id rfl
@[simp] theorem x_tup2 {l : List D} : opBi .tuple [.tup l] = some (.tup l) := id rfl
@[simp] theorem x_lst1 {l : List D} : opBi .list [.tup l] = some (.lst l) := id rfl
@[simp] theorem x_abs {i : Int} : opBi .abs [.int i] = some (.int (if i < 0 then -i else i)) := id rfl
theorem bools_map {γ : Type} (l : List γ) (p : γ → Bool) : bools (l.map fun x => .bl (p x)) = some (l.map p) := by
  induction l with
  | nil => rfl
  | cons x r ih => simp [bools, ih]
@[simp] theorem x_all {γ : Type} (l : List γ) (p : γ → Bool) : opBi .all [.lst (l.map fun x => .bl (p x))] = some (.bl (l.all p)) := by
  simp [opBi, biAll, bools_map]
@[simp] theorem x_any {γ : Type} (l : List γ) (p : γ → Bool) : opBi .any [.lst (l.map fun x => .bl (p x))] = some (.bl (l.any p)) := by
  simp [opBi, biAny, bools_map]
theorem strs_map {γ : Type} (l : List γ) (p : γ → List Nat) : strsOf (l.map fun x => .str (p x)) = some (l.map p) := by
  induction l with
  | nil => rfl
  | cons x r ih => simp [strsOf, ih]
@[simp] theorem e_nil : ev cf .nil env d = .ok (.tup []) d := by simp only [ev]
@[simp] theorem e_cons {x r : E} : ev cf (.cons x r) env d = (ev cf x env d).bind fun x d => (ev cf r env d).bind fun xs d => .ok (.tup (x :: tups xs)) d := by simp only [ev]
@[simp] theorem e_var {i : Nat} : ev cf (.var i) env d = .of (env.get i) d := by simp only [ev]
@[simp] theorem e_non : ev cf .non env d = .ok .non d := by simp only [ev]
@[simp] theorem e_bl : ev cf (.bl t) env d = .ok (.bl t) d := by simp only [ev]
@[simp] theorem e_int {i : Int} : ev cf (.int i) env d = .ok (.int i) d := by simp only [ev]
@[simp] theorem e_str {s : List Nat} : ev cf (.str s) env d = .ok (.str s) d := by simp only [ev]
@[simp] theorem e_tup {x : E} : ev cf (.tup x) env d = ev cf x env d := by simp only [ev]
@[simp] theorem e_lst {x : E} : ev cf (.lst x) env d = (ev cf x env d).bind fun x d => .ok (.lst (tups x)) d := by simp only [ev]
@[simp] theorem e_bin {o : Bop} {x y : E} : ev cf (.bin o x y) env d = (ev cf x env d).bind fun x d => (ev cf y env d).bind fun y d => .of (opBin o x y) d := by simp only [ev]
@[simp] theorem e_neg {x : E} : ev cf (.neg x) env d = (ev cf x env d).bind fun x d => onI x (fun i => .ok (.int (-i)) d) .bad := by simp only [ev]; rfl
@[simp] theorem e_cmp {o : Cop} {x y : E} : ev cf (.cmp o x y) env d = (ev cf x env d).bind fun x d => (ev cf y env d).bind fun y d => .of ((opCmp o x y).map .bl) d := by simp only [ev]
@[simp] theorem e_chain {o p : Cop} {x y z : E} : ev cf (.chain o p x y z) env d = (ev cf x env d).bind fun x d => (ev cf y env d).bind fun y d => onB (opCmp o x y) ((ev cf z env d).bind fun z d => .of ((opCmp p y z).map .bl) d) (.ok (.bl false) d) .bad := by simp only [ev]; rfl
@[simp] theorem e_isn {n : Bool} {x : E} : ev cf (.isn n x) env d = (ev cf x env d).bind fun x d => .ok (.bl (match x with | .non => !n | _ => n)) d := by simp only [ev] <;> rfl
@[simp] theorem e_and {x y : E} : ev cf (.and x y) env d = (ev cf x env d).bind fun x d => onD x (ev cf y env d) (.ok (.bl false) d) .bad := by simp only [ev]; rfl
@[simp] theorem e_or {x y : E} : ev cf (.or x y) env d = (ev cf x env d).bind fun x d => onD x (.ok (.bl true) d) (ev cf y env d) .bad := by
  simp only [ev]; congr; funext x d; cases x <;> first | rfl | skip
  rename_i b; cases b <;> rfl
@[simp] theorem e_and3 {x y z : E} : ev cf (.and3 x y z) env d = (ev cf x env d).bind fun x d => onD x ((ev cf y env d).bind fun y d => onD y (ev cf z env d) (.ok (.bl false) d) .bad) (.ok (.bl false) d) .bad := by simp only [ev]; rfl
@[simp] theorem e_or3 {x y z : E} : ev cf (.or3 x y z) env d = (ev cf x env d).bind fun x d => onD x (.ok (.bl true) d) ((ev cf y env d).bind fun y d => onD y (.ok (.bl true) d) (ev cf z env d) .bad) .bad := by
  simp only [ev]; congr; funext x d; cases x <;> first | rfl | skip
  rename_i b; cases b <;> first | rfl | skip
  simp only [onD]; congr; funext x d; cases x <;> first | rfl | skip
  rename_i b; cases b <;> rfl
@[simp] theorem e_not {x : E} : ev cf (.not x) env d = (ev cf x env d).bind fun x d => onD x (.ok (.bl false) d) (.ok (.bl true) d) .bad := by
  simp only [ev]; congr; funext x d; cases x <;> first | rfl | skip
  rename_i b; cases b <;> rfl
@[simp] theorem e_ite {c x y : E} : ev cf (.ite c x y) env d = (ev cf c env d).bind fun v d => ifE cf x y env d (truth v) := by simp only [ev]; rfl
@[simp] theorem ifE_t {x y : E} : ifE cf x y env d (some true) = ev cf x env d := id rfl
@[simp] theorem ifE_f {x y : E} : ifE cf x y env d (some false) = ev cf y env d := id rfl
@[simp] theorem ifS_t {x y : S} : ifS cf x y env d (some true) = evS cf x env d := id rfl
@[simp] theorem ifS_f {x y : S} : ifS cf x y env d (some false) = evS cf y env d := id rfl
@[simp] theorem thenS_nx {r : S} : thenS cf r (.nx env d) = evS cf r env d := id rfl
@[simp] theorem thenS_er {r : S} {n : Nat} : thenS cf r (.er n d) = .er n d := id rfl
@[simp] theorem thenS_rt {r : S} {v : D} : thenS cf r (.rt v d) = .rt v d := id rfl
@[simp] theorem forS_nil {tg : E} {r : S} : forS cf tg r [] env d = .nx env d := id rfl
theorem forS_cons {tg : E} {r : S} {x : D} {l : List D} (h : asg tg x env = some env') : forS cf tg r (x :: l) env d = (evS cf r env' d).then fun env d => forS cf tg r l env d := by simp only [forS, forLoop, h]
@[simp] theorem e_call {n : Nat} {x : E} : ev cf (.call n x) env d = (ev cf x env d).bind fun x d => cf n (tups x) d := by simp only [ev]
@[simp] theorem e_bi {n : Bi} {x : E} : ev cf (.bi n x) env d = (ev cf x env d).bind fun x d => .of (opBi n (tups x)) d := by simp only [ev]
@[simp] theorem e_isi {n : Ty} {x : E} : ev cf (.isi n x) env d = (ev cf x env d).bind fun x d => .of ((isI n x).map .bl) d := by simp only [ev]
@[simp] theorem e_meth {n : Me} {x y : E} : ev cf (.meth n x y) env d = (ev cf x env d).bind fun x d => (ev cf y env d).bind fun y d => .of (opMe n x [y]) d := by simp only [ev]
@[simp] theorem e_ix {x y : E} : ev cf (.ix x y) env d = (ev cf x env d).bind fun x d => (ev cf y env d).bind fun y d => .of (opIx x y) d := by simp only [ev]
@[simp] theorem e_sl {x lo hi : E} : ev cf (.sl x lo hi) env d = (ev cf x env d).bind fun x d => (ev cf lo env d).bind fun y d => (Res.of (part lo y) d).bind fun l d => (ev cf hi env d).bind fun z d => (Res.of (part hi z) d).bind fun h d => .of (opSl x l h) d := by simp only [ev]
@[simp] theorem e_rng1 {x : E} : ev cf (.rng1 x) env d = (ev cf x env d).bind fun x d => onI x (fun n => if smallR 0 n = true then .ok (.lst (rangeL 0 n)) d else .bad) .bad := by simp only [ev]; rfl
@[simp] theorem e_enum {x : E} : ev cf (.enum x) env d = (ev cf x env d).bind fun x d => .of ((items x).map fun l => .lst (enumL 0 l)) d := by simp only [ev]
@[simp] theorem e_zip {x y : E} : ev cf (.zip x y) env d = (ev cf x env d).bind fun x d => (ev cf y env d).bind fun y d => .of ((items x).bind fun l => (items y).map fun m => .lst (zipL l m)) d := by simp only [ev]
@[simp] theorem e_lc {elt tg it : E} {own : List Nat} : ev cf (.lc elt tg it own) env d = (ev cf it env d).bind fun x d => onO (items x) (fun l => if l.length ≤ lim then (lcS cf elt tg own l env d).bind fun ys d => .ok (.lst ys) d else .bad) .bad := by
  simp only [ev]; congr; funext x d; cases items x <;> rfl
@[simp] theorem e_lcif {elt tg it c : E} {own : List Nat} : ev cf (.lcif elt tg it c own) env d = (ev cf it env d).bind fun x d => onO (items x) (fun l => if l.length ≤ lim then (lcfS cf elt tg c own l env d).bind fun ys d => .ok (.lst ys) d else .bad) .bad := by
  simp only [ev]; congr; funext x d; cases items x <;> rfl
@[simp] theorem e_told {x : E} : ev cf (.told x) env d = (ev cf x env d).told := by simp only [ev]; rfl
@[simp] theorem s_rse {n : Nat} : evS cf (.rse n) env d = .er n d := by simp only [evS]
@[simp] theorem s_nil' : evS cf .nil env d = .nx env d := by simp only [evS]
@[simp] theorem s_seq {x r : S} : evS cf (.seq x r) env d = thenS cf r (evS cf x env d) := by simp only [evS]; rfl
@[simp] theorem s_set {tg e : E} : evS cf (.set tg e) env d = (ev cf e env d).out fun x d => .ofE (asg tg x env) d := by simp only [evS]
@[simp] theorem s_own' {i : Nat} : evS cf (.own i) env d = .ofE (env.put i (.ow [])) d := by simp only [evS]
@[simp] theorem s_par {i j : Nat} {x y : E} : evS cf (.par i j x y) env d = (ev cf x env d).out fun x d => (ev cf y env d).out fun y d => .ofE ((env.put i (.sh x)).bind fun env' => env'.put j (.sh y)) d := by simp only [evS]
@[simp] theorem s_parO {i j : Nat} {x : E} : evS cf (.parO i j x) env d = (ev cf x env d).out fun x d => .ofE ((env.put i (.sh x)).bind fun env' => env'.put j (.ow [])) d := by simp only [evS]
@[simp] theorem s_par3 {i j l : Nat} {x y z : E} : evS cf (.par3 i j l x y z) env d = (ev cf x env d).out fun x d => (ev cf y env d).out fun y d => (ev cf z env d).out fun z d => .ofE ((env.put i (.sh x)).bind fun env' => (env'.put j (.sh y)).bind fun env'' => env''.put l (.sh z)) d := by simp only [evS]
@[simp] theorem s_frz {i : Nat} : evS cf (.frz i) env d = onO (env.getO i) (fun xs => .ofE (env.put i (.sh (.lst xs))) d) .bad := by simp only [evS]; cases env.getO i <;> rfl
@[simp] theorem s_app {i : Nat} {e : E} : evS cf (.app i e) env d = onO (env.getO i) (fun xs => (ev cf e env d).out fun x d => if xs.length < lim then .ofE (env.put i (.ow (xs ++ [x]))) d else .bad) .bad := by simp only [evS]; cases env.getO i <;> rfl
@[simp] theorem s_ret {e : E} : evS cf (.ret e) env d = (ev cf e env d).out fun x d => .rt x d := by simp only [evS]
@[simp] theorem s_ifs {c : E} {x y : S} : evS cf (.ifs c x y) env d = (ev cf c env d).out fun v d => ifS cf x y env d (truth v) := by simp only [evS]; rfl
@[simp] theorem s_fors {tg it : E} {b : S} : evS cf (.fors tg it b) env d = (ev cf it env d).out fun x d => onO (items x) (fun l => forS cf tg b l env d) .bad := by
  simp only [evS]; congr; funext x d; cases items x <;> rfl
@[simp] theorem s_whl {n : Nat} {c : E} {b : S} : evS cf (.whl n c b) env d = whlS cf n c b env d := by simp only [evS]; rfl
@[simp] theorem s_ex {e : E} : evS cf (.ex e) env d = (ev cf e env d).out fun _ d => .nx env d := by simp only [evS]
@[simp] theorem a_var {i : Nat} {x : D} : asg (.var i) x env = env.put i (.sh x) := id rfl
theorem call_eq {D : Nat → Option Df} {k n : Nat} {df : Df} {xs : List SG.D} (h : D n = some df) (hl : xs.length = df.ps) : evCall D (k + 1) n xs d = (evS (evCall D k) df.body (startE df.n xs) d).res := by
  simp only [evCall, h, hl, if_pos]
theorem lc_mapG {γ : Type} {e : γ → D} {elt tg : E} {own : List Nat} {g : γ → D} : ∀ (l : List γ) {d : Dice}, (∀ y ∈ l, ∃ env1, asg tg (e y) (env.wipe own) = some env1 ∧ ev cf elt env1 d = .ok (g y) d) → lcS cf elt tg own (l.map e) env d = .ok (l.map g) d
  | [], d, _ => rfl
  | x :: r, d, h => by
    obtain ⟨env1, h1, h2⟩ := h x List.mem_cons_self
    have ih := lc_mapG r fun y hy => h y (List.mem_cons_of_mem _ hy)
    unfold lcS at ih ⊢
    simp only [List.map_cons, lcLoop, h1, h2, r_noerr, r_bind]
    rw [ih]
    rfl
theorem lc_map {elt tg : E} {own : List Nat} {g : D → D} (l : List D) {d : Dice} (h : ∀ y ∈ l, ∃ env1, asg tg y (env.wipe own) = some env1 ∧ ev cf elt env1 d = .ok (g y) d) : lcS cf elt tg own l env d = .ok (l.map g) d := by
  have := lc_mapG (e := id) l h
  simpa using this
theorem lc_draw {γ δ : Type} {e : γ → D} {o : δ → D} {elt tg : E} {own : List Nat} (Q : γ → δ → Prop) : ∀ (l : List γ) {d : Dice}, (∀ y ∈ l, ∀ d, ∃ env1, asg tg (e y) (env.wipe own) = some env1 ∧ ∃ z d2, Q y z ∧ ev cf elt env1 d = .ok (o z) d2) → ∃ (zs : List δ) (d2 : Dice), lcS cf elt tg own (l.map e) env d = .ok (zs.map o) d2 ∧ zs.length = l.length ∧ ∀ (i : Nat) y z, l[i]? = some y → zs[i]? = some z → Q y z
  | [], d, _ => ⟨[], d, rfl, rfl, by simp⟩
  | x :: r, d, h => by
    obtain ⟨env1, h1, z, d2, q, h2⟩ := h x List.mem_cons_self d
    obtain ⟨zs, d3, ih, hl, hq⟩ := lc_draw Q r (d := d2) fun y hy => h y (List.mem_cons_of_mem _ hy)
    refine ⟨z :: zs, d3, ?_, by simp [hl], fun i y z' e1 e2 => ?_⟩
    · unfold lcS at ih ⊢
      simp only [List.map_cons, lcLoop, h1, h2, r_noerr, r_bind]
      rw [ih]
      rfl
    · cases i with
      | zero => simp at e1 e2; subst e1 e2; exact q
      | succ i => exact hq i y z' (by simpa using e1) (by simpa using e2)
theorem for_inv {tg : E} {b : S} (I : Nat → Env → Dice → Prop) : ∀ (l : List D) {n : Nat} {env : Env} {d : Dice}, (∀ i env d (h : i < l.length), I (n + i) env d → ∃ env1, asg tg l[i] env = some env1 ∧ ∃ env2 d2, evS cf b env1 d = .nx env2 d2 ∧ I (n + i + 1) env2 d2) → I n env d → ∃ env' d', forS cf tg b l env d = .nx env' d' ∧ I (n + l.length) env' d'
  | [], n, env, d, _, h0 => ⟨env, d, rfl, h0⟩
  | x :: r, n, env, d, h, h0 => by
    obtain ⟨env1, e1, env2, d2, e2, i2⟩ := h 0 env d (by simp) h0
    have e1' : asg tg x env = some env1 := e1
    obtain ⟨env', d', e3, i3⟩ := for_inv I r (n := n + 1) (env := env2) (d := d2) (fun i env d hi hI => by
      have := h (i + 1) env d (by simpa using hi) (by rw [show n + (i + 1) = n + 1 + i by omega]; exact hI)
      rw [show n + (i + 1) + 1 = n + 1 + i + 1 by omega] at this
      exact this) i2
    refine ⟨env', d', ?_, ?_⟩
    · rw [forS_cons e1', e2, o_nx]; exact e3
    · rw [show n + (x :: r).length = n + 1 + r.length by simp; omega]; exact i3
theorem for_P {P : Out → Prop} {tg : E} {b : S} {l : List D} (I : Nat → Env → Dice → Prop) (h0 : I 0 env d) (hs : ∀ i env d (h : i < l.length), I i env d → ∃ env1, asg tg l[i] env = some env1 ∧ ∃ env2 d2, evS cf b env1 d = .nx env2 d2 ∧ I (i + 1) env2 d2) (hf : ∀ env' d', I l.length env' d' → P (.nx env' d')) : P (forS cf tg b l env d) := by
  obtain ⟨env', d', e, h⟩ := for_inv (cf := cf) (tg := tg) (b := b) I l (n := 0) (env := env) (d := d) (fun i env d h hI => by
    obtain ⟨env1, e1, env2, d2, e2, i2⟩ := hs i env d h (by rw [Nat.zero_add] at hI; exact hI)
    exact ⟨env1, e1, env2, d2, e2, by rw [Nat.zero_add]; exact i2⟩) h0
  rw [e]
  rw [Nat.zero_add] at h
  exact hf env' d' h
theorem for_ret {P : Out → Prop} {tg : E} {b : S} {l : List D} (I : Nat → Env → Dice → Prop) (h0 : I 0 env d) (hs : ∀ i env d (h : i < l.length), I i env d → ∃ env1, asg tg l[i] env = some env1 ∧ ((∃ env2 d2, evS cf b env1 d = .nx env2 d2 ∧ I (i + 1) env2 d2) ∨ ∃ v d2, evS cf b env1 d = .rt v d2 ∧ P (.rt v d2))) (hf : ∀ env' d', I l.length env' d' → P (.nx env' d')) : P (forS cf tg b l env d) := by
  suffices h : ∀ (r : List D) (n : Nat) (env : Env) (d : Dice), l.drop n = r → n ≤ l.length → I n env d → P (forS cf tg b r env d) from h l 0 env d rfl (Nat.zero_le _) h0
  intro r
  induction r with
  | nil =>
    intro n env d e hn hI
    have : n = l.length := by
      have := congrArg List.length e
      simp at this
      omega
    subst this
    exact hf env d hI
  | cons x r ih =>
    intro n env d e hn hI
    have hlt : n < l.length := by
      have := congrArg List.length e
      simp at this
      omega
    have e2 := List.drop_eq_getElem_cons hlt
    rw [e] at e2
    simp only [List.cons.injEq] at e2
    obtain ⟨env1, h1, h2⟩ := hs n env d hlt hI
    rw [← e2.1] at h1
    rw [forS_cons h1]
    rcases h2 with ⟨env2, d2, h2, h3⟩ | ⟨v, d2, h2, h3⟩
    · rw [h2, o_nx]
      exact ih (n + 1) env2 d2 e2.2.symm hlt h3
    · rw [h2, o_rt]
      exact h3
theorem for_all {tg : E} {b : S} {l : List D} (I : Nat → Env → Dice → Prop) (h0 : I 0 env d) (hs : ∀ i env d (h : i < l.length), I i env d → ∃ env1, asg tg l[i] env = some env1 ∧ ∃ env2 d2, evS cf b env1 d = .nx env2 d2 ∧ I (i + 1) env2 d2) : ∃ env' d', forS cf tg b l env d = .nx env' d' ∧ I l.length env' d' :=
  for_P (P := fun o => ∃ env' d', o = .nx env' d' ∧ I l.length env' d') I h0 hs fun env' d' h => ⟨env', d', rfl, h⟩
theorem for_some {tg : E} {b : S} {l : List D} (I : Nat → Env → Dice → Prop) (R : D → Dice → Prop) (h0 : I 0 env d) (hs : ∀ i env d (h : i < l.length), I i env d → ∃ env1, asg tg l[i] env = some env1 ∧ ((∃ env2 d2, evS cf b env1 d = .nx env2 d2 ∧ I (i + 1) env2 d2) ∨ ∃ v d2, evS cf b env1 d = .rt v d2 ∧ R v d2)) :
    (∃ env' d', forS cf tg b l env d = .nx env' d' ∧ I l.length env' d') ∨ ∃ v d', forS cf tg b l env d = .rt v d' ∧ R v d' := by
  refine for_ret (P := fun o => (∃ env' d', o = .nx env' d' ∧ I l.length env' d') ∨ ∃ v d', o = .rt v d' ∧ R v d') I h0 (fun i env d h hI => ?_) fun env' d' h => .inl ⟨env', d', rfl, h⟩
  obtain ⟨env1, e1, h2⟩ := hs i env d h hI
  refine ⟨env1, e1, ?_⟩
  rcases h2 with h2 | ⟨v, d2, e2, r⟩
  · exact .inl h2
  · exact .inr ⟨v, d2, e2, .inr ⟨v, d2, rfl, r⟩⟩
theorem lt_lim {n : Nat} (h : n < 1000) : n < lim := Nat.lt_of_lt_of_le h (by decide)
theorem le_lim {n : Nat} (h : n < 1000) : n ≤ lim := Nat.le_of_lt (lt_lim h)
theorem range_get {m i : Nat} (h : i < (rangeL 0 (m : Int)).length) : (rangeL 0 (m : Int))[i] = .int i := by
  simp [rangeL]
theorem range_len {m : Nat} : (rangeL 0 (m : Int)).length = m := by simp [rangeL]
theorem smallR_nat {m : Nat} (h : m < 1000) : smallR 0 (m : Int) = true := by simp [smallR]; omega
end
end SG
namespace SG
open PySem PySem.Spec PyProof.Rows L2
def Fis_number : Df := ⟨1, 1, .seq (.ret (.and (.isi .int (.var 0)) (.not (.isi .bool (.var 0))))) (.nil)⟩
def Fis_whole : Df := ⟨3, 3, .seq (.ret (.and (.call 13 (.cons (.var 0) (.nil))) (.chain .le .le (.var 1) (.var 0) (.var 2)))) (.nil)⟩
def C0_1 : E := .cmp .inn (.var 2) (.str [43, 45, 48])
def Fare_signs : Df := ⟨2, 3, .seq (.ret (.and3 (.isi .str (.var 0)) (.cmp .eq (.bi .len (.cons (.var 0) (.nil))) (.var 1)) (.bi .all (.cons (.lc C0_1 (.var 2) (.var 0) [2]) (.nil))))) (.nil)⟩
def C1_1 : E := .call 0 (.cons (.var 1) (.cons (.bi .len (.cons (.ix (.var 0) (.int 0)) (.nil))) (.nil)))
def Fis_table : Df := ⟨1, 2, .seq (.ifs (.or3 (.not (.isi .tuple (.var 0))) (.not (.chain .le .le (.int 1) (.bi .len (.cons (.var 0) (.nil))) (.int 4))) (.not (.isi .str (.ix (.var 0) (.int 0))))) (.seq (.ret (.bl false)) (.nil)) (.nil)) (.seq (.ret (.and (.chain .le .le (.int 1) (.bi .len (.cons (.ix (.var 0) (.int 0)) (.nil))) (.int 4)) (.bi .all (.cons (.lc C1_1 (.var 1) (.var 0) [1]) (.nil))))) (.nil))⟩
def Fneed_table : Df := ⟨1, 1, .seq (.ifs (.not (.call 1 (.cons (.var 0) (.nil)))) (.seq (.rse 0) (.nil)) (.nil)) (.nil)⟩
def Fneed_square : Df := ⟨1, 1, .seq (.ifs (.cmp .ne (.bi .len (.cons (.var 0) (.nil))) (.bi .len (.cons (.ix (.var 0) (.int 0)) (.nil)))) (.seq (.rse 5) (.nil)) (.nil)) (.nil)⟩
def Fneed_row : Df := ⟨2, 2, .seq (.ifs (.not (.call 67 (.cons (.var 1) (.cons (.int 0) (.cons (.bin .sub (.bi .len (.cons (.var 0) (.nil))) (.int 1)) (.nil)))))) (.seq (.rse 2) (.nil)) (.nil)) (.nil)⟩
def Fneed_column : Df := ⟨2, 2, .seq (.ifs (.not (.call 67 (.cons (.var 1) (.cons (.int 0) (.cons (.bin .sub (.bi .len (.cons (.ix (.var 0) (.int 0)) (.nil))) (.int 1)) (.nil)))))) (.seq (.rse 2) (.nil)) (.nil)) (.nil)⟩
def Fvalue_of : Df := ⟨1, 1, .seq (.ret (.dget kvI (.var 0))) (.nil)⟩
def C28_1 : E := .var 4
def T28_1 : E := .cmp .ne (.var 4) (.var 2)
def C28_2 : E := .bin .add (.tup (.cons (.var 2) (.nil))) (.var 5)
def B28_1 : S := .seq (.set (.var 3) (.bi .tuple (.cons (.lcif C28_1 (.var 4) (.var 0) T28_1 [4]) (.nil)))) (.seq (.set (.var 1) (.bin .add (.var 1) (.lc C28_2 (.var 5) (.call 28 (.cons (.var 3) (.nil))) [5]))) (.nil))
def Fexchanges : Df := ⟨1, 6, .seq (.ifs (.cmp .eq (.var 0) (.tup (.nil))) (.seq (.ret (.lst (.cons (.tup (.nil)) (.nil)))) (.nil)) (.nil)) (.seq (.set (.var 1) (.lst (.nil))) (.seq (.fors (.var 2) (.var 0) B28_1) (.seq (.ret (.var 1)) (.nil))))⟩
def B29_1 : S := .seq (.set (.var 1) (.call 30 (.cons (.var 1) (.cons (.var 0) (.cons (.var 2) (.nil)))))) (.nil)
def Fturn_sign : Df := ⟨1, 3, .seq (.set (.var 1) (.int 1)) (.seq (.fors (.var 2) (.rng1 (.bi .len (.cons (.var 0) (.nil)))) B29_1) (.seq (.ret (.var 1)) (.nil)))⟩
def C30_1 : E := .var 4
def T30_1 : E := .cmp .gt (.var 4) (.ix (.var 1) (.var 2))
def Fchanged : Df := ⟨3, 5, .seq (.set (.var 3) (.bi .len (.cons (.lcif C30_1 (.var 4) (.sl (.var 1) (.nil) (.var 2)) T30_1 [4]) (.nil)))) (.seq (.ret (.ite (.cmp .eq (.bin .mod (.var 3) (.int 2)) (.int 0)) (.var 0) (.neg (.var 0)))) (.nil))⟩
def B31_2 : S := .seq (.set (.var 3) (.bin .mul (.var 3) (.call 27 (.cons (.ix (.ix (.var 0) (.var 4)) (.var 5)) (.nil))))) (.nil)
def B31_1 : S := .seq (.set (.var 3) (.call 29 (.cons (.var 2) (.nil)))) (.seq (.fors (.tup (.cons (.var 4) (.cons (.var 5) (.nil)))) (.enum (.var 2)) B31_2) (.seq (.ifs (.cmp .ne (.var 3) (.int 0)) (.seq (.app 1 (.tup (.cons (.var 2) (.cons (.var 3) (.nil))))) (.nil)) (.nil)) (.nil)))
def Fall_terms : Df := ⟨1, 6, .seq (.own 1) (.seq (.fors (.var 2) (.call 28 (.cons (.trng (.bi .len (.cons (.var 0) (.nil)))) (.nil))) B31_1) (.seq (.frz 1) (.seq (.ret (.var 1)) (.nil))))⟩
def Fneed_all : Df := ⟨1, 1, .seq (.ex (.call 2 (.cons (.var 0) (.nil)))) (.seq (.ex (.call 26 (.cons (.var 0) (.nil)))) (.nil))⟩
def Fterms : Df := ⟨1, 3, .seq (.ex (.call 32 (.cons (.var 0) (.nil)))) (.nev)⟩
def C34_1 : E := .var 3
def Fkind_of : Df := ⟨1, 4, .seq (.set (.var 1) (.lc C34_1 (.tup (.cons (.var 2) (.cons (.var 3) (.nil)))) (.call 31 (.cons (.var 0) (.nil))) [2, 3])) (.seq (.ifs (.cmp .eq (.var 1) (.lst (.nil))) (.seq (.ret (.str [110, 101, 118, 101, 114])) (.nil)) (.nil)) (.seq (.ret (.ite (.cmp .eq (.bi .min (.cons (.var 1) (.nil))) (.bi .max (.cons (.var 1) (.nil)))) (.str [97, 108, 119, 97, 121, 115]) (.str [115, 111, 109, 101, 116, 105, 109, 101, 115]))) (.nil)))⟩
def Fkind : Df := ⟨1, 1, .seq (.ex (.call 32 (.cons (.var 0) (.nil)))) (.nev)⟩
def Fneed_always : Df := ⟨1, 1, .seq (.ifs (.cmp .ne (.call 34 (.cons (.var 0) (.nil))) (.str [97, 108, 119, 97, 121, 115])) (.seq (.rse 6) (.nil)) (.nil)) (.nil)⟩
def Fneed_right : Df := ⟨2, 2, .seq (.ifs (.not (.call 0 (.cons (.var 1) (.cons (.bi .len (.cons (.var 0) (.nil))) (.nil))))) (.seq (.rse 1) (.nil)) (.nil)) (.nil)⟩
def Fsolution_signs : Df := ⟨2, 2, .seq (.ex (.call 2 (.cons (.var 0) (.nil)))) (.seq (.ex (.call 90 (.cons (.var 0) (.cons (.var 1) (.nil))))) (.nev))⟩
def Finverse_signs : Df := ⟨1, 5, .seq (.ex (.call 2 (.cons (.var 0) (.nil)))) (.seq (.ex (.call 26 (.cons (.var 0) (.nil)))) (.seq (.ex (.call 89 (.cons (.var 0) (.nil)))) (.nev)))⟩
def Fneed_sign : Df := ⟨1, 1, .seq (.ifs (.or (.not (.isi .str (.var 0))) (.cmp .notin (.var 0) (.tup (.cons (.str [43]) (.cons (.str [45]) (.cons (.str [48]) (.nil))))))) (.seq (.rse 3) (.nil)) (.nil)) (.nil)⟩
def Fwith_sign_129 : Df := ⟨4, 4, .seq (.ex (.call 2 (.cons (.var 0) (.nil)))) (.seq (.ex (.call 106 (.cons (.var 0) (.cons (.var 1) (.nil))))) (.seq (.ex (.call 97 (.cons (.var 0) (.cons (.var 2) (.nil))))) (.seq (.ex (.call 107 (.cons (.var 3) (.nil)))) (.nev))))⟩
def Fleast_copy : Df := ⟨1, 10, .seq (.ex (.call 2 (.cons (.var 0) (.nil)))) (.seq (.par 1 2 (.bi .len (.cons (.var 0) (.nil))) (.bi .len (.cons (.ix (.var 0) (.int 0)) (.nil)))) (.seq (.ifs (.or (.cmp .gt (.var 1) (.int 3)) (.cmp .gt (.var 2) (.int 3))) (.seq (.rse 8) (.nil)) (.nil)) (.nev)))⟩
def C104_1 : E := .cmp .eq (.ix (.var 2) (.var 1)) (.str [45])
def Fpositive_cycle : Df := ⟨1, 5, .seq (.ex (.call 2 (.cons (.var 0) (.nil)))) (.seq (.ex (.call 26 (.cons (.var 0) (.nil)))) (.seq (.ifs (.not (.bi .all (.cons (.lc C104_1 (.tup (.cons (.var 1) (.cons (.var 2) (.nil)))) (.enum (.var 0)) [1, 2]) (.nil)))) (.seq (.rse 7) (.nil)) (.nil)) (.nev)))⟩
def Fparse_table : Df := ⟨1, 2, .seq (.set (.var 1) (.ite (.isi .str (.var 0)) (.bi .tuple (.cons (.meth .split (.var 0) (.str [47])) (.nil))) (.tup (.nil)))) (.seq (.ifs (.not (.call 1 (.cons (.var 1) (.nil)))) (.seq (.rse 4) (.nil)) (.nil)) (.seq (.ret (.var 1)) (.nil)))⟩
def F_law_drawn : Df := ⟨2, 3, .seq (.set (.var 2) (.bin .mod (.bin .add (.bin .mul (.var 0) (.int 6364136223846793005)) (.bin .mul (.bin .add (.var 1) (.int 1)) (.int 1442695040888963407))) (.int 340282366920938463463374607431768211507))) (.seq (.set (.var 2) (.bin .mod (.bin .mul (.var 2) (.var 2)) (.int 340282366920938463463374607431768211297))) (.seq (.set (.var 2) (.bin .mul (.bin .mul (.bin .add (.bin .mod (.var 2) (.int 18446744073709551557)) (.int 1)) (.bin .add (.bin .fdiv (.var 2) (.int 18446744073709551557)) (.int 1))) (.var 2))) (.seq (.ret (.bin .mod (.var 2) (.int 340282366920938463463374607431768211507))) (.nil))))⟩
def F_law_roll : Df := ⟨2, 3, .seq (.ifs (.cmp .ge (.dix 0 0) (.bin .pow (.int 10) (.int 18))) (.seq (.set (.var 2) (.bin .mod (.dix 0 0) (.var 1))) (.seq (.dst 0 0 (.bin .fdiv (.dix 0 0) (.var 1))) (.seq (.ret (.var 2)) (.nil)))) (.nil)) (.seq (.dst 0 1 (.bin .add (.dix 0 1) (.int 1))) (.seq (.ret (.bin .mod (.bin .fdiv (.call 7 (.cons (.dix 0 0) (.cons (.dix 0 1) (.nil)))) (.int 8)) (.var 1))) (.nil)))⟩
def C131_1 : E := .cmp .eq (.var 3) (.var 1)
def F_law_alone : Df := ⟨2, 4, .seq (.set (.var 2) (.lst (.cons (.isx 0 (.var 0)) (.cons (.isx 1 (.var 0)) (.cons (.isx 2 (.var 0)) (.nil)))))) (.seq (.set (.var 2) (.bin .add (.var 2) (.lst (.cons (.isx 3 (.var 0)) (.cons (.isx 4 (.var 0)) (.cons (.isx 5 (.var 0)) (.nil))))))) (.seq (.set (.var 2) (.bin .add (.var 2) (.lst (.cons (.isx 6 (.var 0)) (.cons (.isx 7 (.var 0)) (.cons (.isx 8 (.var 0)) (.nil))))))) (.seq (.set (.var 2) (.bin .add (.var 2) (.lst (.cons (.isx 9 (.var 0)) (.cons (.isx 10 (.var 0)) (.nil)))))) (.seq (.ret (.and (.isx 11 (.var 0)) (.cmp .eq (.var 2) (.lc C131_1 (.var 3) (.rng1 (.int 11)) [3])))) (.nil)))))⟩
def Fdesk_put : Df := ⟨4, 4, .seq (.ex (.call 106 (.cons (.fld (.var 0) 0) (.cons (.var 1) (.nil))))) (.seq (.ex (.call 97 (.cons (.fld (.var 0) 0) (.cons (.var 2) (.nil))))) (.seq (.ex (.call 107 (.cons (.var 3) (.nil)))) (.seq (.ifs (.cmp .eq (.ix (.ix (.fld (.var 0) 0) (.var 1)) (.var 2)) (.var 3)) (.seq (.rse 9) (.nil)) (.nil)) (.nev))))⟩
def Fdesk_redo : Df := ⟨1, 3, .seq (.ifs (.cmp .eq (.fld (.var 0) 2) (.lst (.nil))) (.seq (.rse 10) (.nil)) (.nil)) (.nev)⟩
def allDefs : Nat → Option Df
  | 0 => some Fare_signs
  | 1 => some Fis_table
  | 2 => some Fneed_table
  | 7 => some F_law_drawn
  | 8 => some F_law_roll
  | 13 => some Fis_number
  | 26 => some Fneed_square
  | 27 => some Fvalue_of
  | 28 => some Fexchanges
  | 29 => some Fturn_sign
  | 30 => some Fchanged
  | 31 => some Fall_terms
  | 32 => some Fneed_all
  | 33 => some Fterms
  | 34 => some Fkind_of
  | 35 => some Fkind
  | 67 => some Fis_whole
  | 89 => some Fneed_always
  | 90 => some Fneed_right
  | 95 => some Fsolution_signs
  | 97 => some Fneed_column
  | 101 => some Finverse_signs
  | 104 => some Fpositive_cycle
  | 106 => some Fneed_row
  | 107 => some Fneed_sign
  | 118 => some Fleast_copy
  | 127 => some Fparse_table
  | 129 => some Fwith_sign_129
  | 131 => some F_law_alone
  | 900 => some (initDf 2)
  | 901 => some Fdesk_put
  | 903 => some Fdesk_redo
  | _ => none
def Claw_1 : E := .call 131 (.cons (.var 8) (.cons (.var 7) (.nil)))
def Llaw_14 : S := .seq (.ifs (.not (.bi .all (.cons (.lc Claw_1 (.tup (.cons (.var 7) (.cons (.var 8) (.nil)))) (.enum (.var 6)) [7, 8]) (.nil)))) (.seq (.ret (.bl false)) (.nil)) (.nil)) (.nil)
def Llaw_13 : S := .seq (.frz 6) (Llaw_14)
def Llaw_12 : S := .seq (.app 6 (.met (.tmp 903 (.cons (.var 4) (.nil)) (.nil)))) (Llaw_13)
def Llaw_11 : S := .seq (.app 6 (.met (.tmp 901 (.cons (.var 4) (.nil)) (.cons (.int 0) (.cons (.int 0) (.cons (.var 3) (.nil))))))) (Llaw_12)
def Llaw_10 : S := .seq (.app 6 (.met (.call 118 (.cons (.var 5) (.nil))))) (Llaw_11)
def Llaw_9 : S := .seq (.app 6 (.met (.call 104 (.cons (.tup (.cons (.str [43]) (.nil))) (.nil))))) (Llaw_10)
def Llaw_8 : S := .seq (.app 6 (.met (.call 101 (.cons (.tup (.cons (.str [48]) (.nil))) (.nil))))) (Llaw_9)
def Llaw_7 : S := .seq (.app 6 (.met (.call 33 (.cons (.var 5) (.nil))))) (Llaw_8)
def Llaw_6 : S := .seq (.app 6 (.met (.call 127 (.cons (.bin .mul (.str [47]) (.var 2)) (.nil))))) (Llaw_7)
def Llaw_5 : S := .seq (.app 6 (.met (.call 129 (.cons (.var 4) (.cons (.int 0) (.cons (.int 0) (.cons (.bin .mul (.var 3) (.var 2)) (.nil)))))))) (Llaw_6)
def Llaw_4 : S := .seq (.app 6 (.met (.call 129 (.cons (.var 4) (.cons (.int 0) (.cons (.var 2) (.cons (.var 3) (.nil)))))))) (Llaw_5)
def Llaw_3 : S := .seq (.app 6 (.met (.call 95 (.cons (.var 4) (.cons (.bin .mul (.var 3) (.var 2)) (.nil)))))) (Llaw_4)
def Llaw_2 : S := .seq (.own1 6 (.met (.call 35 (.cons (.tup (.cons (.bin .mul (.var 3) (.var 2)) (.nil))) (.nil))))) (Llaw_3)
def Llaw_1 : S := .seq (.set (.tup (.cons (.var 4) (.cons (.var 5) (.nil)))) (.tup (.cons (.tup (.cons (.var 3) (.nil))) (.cons (.tup (.cons (.bin .mul (.var 3) (.int 4)) (.nil))) (.nil))))) (Llaw_2)
def lawN : Nat := 9
def lawS : S := .seq (.set (.tup (.cons (.var 2) (.cons (.var 3) (.nil)))) (.tup (.cons (.bin .add (.int 5) (.call 8 (.cons (.var 1) (.cons (.int 90) (.nil))))) (.cons (.ix (.str [43, 45]) (.call 8 (.cons (.var 1) (.cons (.int 2) (.nil))))) (.nil))))) (Llaw_1)
def topS (i : Nat) : Stmt := PySem.Challenge.pw_signgrids_k21_errors_apart.main.body.getD i (.Pass ⟨0, 0, 0, 0⟩)
def t0 : TD := ⟨"are_signs", topS 16, ["value", "many", "sign"], Fare_signs⟩
def t1 : TD := ⟨"is_table", topS 17, ["value", "row"], Fis_table⟩
def t2 : TD := ⟨"need_table", topS 18, ["table"], Fneed_table⟩
def t7 : TD := ⟨"_law_drawn", topS 61, ["cell", "k", "more"], F_law_drawn⟩
def t8 : TD := ⟨"_law_roll", topS 62, ["dice", "many", "told"], F_law_roll⟩
def t13 : TD := ⟨"is_number", topS 14, ["value"], Fis_number⟩
def t26 : TD := ⟨"need_square", topS 19, ["table"], Fneed_square⟩
def t27 : TD := ⟨"value_of", topS 22, ["sign"], Fvalue_of⟩
def t28 : TD := ⟨"exchanges", topS 26, ["some", "found", "one", "rest", "other", "more"], Fexchanges⟩
def t29 : TD := ⟨"turn_sign", topS 27, ["order", "found", "place"], Fturn_sign⟩
def t30 : TD := ⟨"changed", topS 28, ["sign", "order", "place", "many", "other"], Fchanged⟩
def t31 : TD := ⟨"all_terms", topS 29, ["table", "found", "order", "sign", "i", "j"], Fall_terms⟩
def t32 : TD := ⟨"need_all", topS 30, ["table"], Fneed_all⟩
def t33 : TD := ⟨"terms", topS 31, ["table", "order", "sign"], Fterms⟩
def t34 : TD := ⟨"kind_of", topS 32, ["table", "signs", "order", "sign"], Fkind_of⟩
def t35 : TD := ⟨"kind", topS 33, ["table"], Fkind⟩
def t67 : TD := ⟨"is_whole", topS 15, ["value", "low", "high"], Fis_whole⟩
def t89 : TD := ⟨"need_always", topS 35, ["table"], Fneed_always⟩
def t90 : TD := ⟨"need_right", topS 36, ["table", "right"], Fneed_right⟩
def t95 : TD := ⟨"solution_signs", topS 41, ["table", "right"], Fsolution_signs⟩
def t97 : TD := ⟨"need_column", topS 21, ["table", "j"], Fneed_column⟩
def t101 : TD := ⟨"inverse_signs", topS 42, ["table", "many", "rows", "j", "i"], Finverse_signs⟩
def t104 : TD := ⟨"positive_cycle", topS 54, ["table", "i", "row", "way", "sign"], Fpositive_cycle⟩
def t106 : TD := ⟨"need_row", topS 20, ["table", "i"], Fneed_row⟩
def t107 : TD := ⟨"need_sign", topS 44, ["sign"], Fneed_sign⟩
def t118 : TD := ⟨"least_copy", topS 48, ["table", "many", "wide", "best", "columns", "mask", "some", "row", "own", "j"], Fleast_copy⟩
def t127 : TD := ⟨"parse_table", topS 58, ["text", "table"], Fparse_table⟩
def t129 : TD := ⟨"with_sign", topS 45, ["table", "i", "j", "sign"], Fwith_sign_129⟩
def t131 : TD := ⟨"_law_alone", topS 65, ["e", "own", "some", "at"], F_law_alone⟩
def tab : Tb := [(0, t0), (1, t1), (2, t2), (7, t7), (8, t8), (13, t13), (26, t26), (27, t27), (28, t28), (29, t29), (30, t30), (31, t31), (32, t32), (33, t33), (34, t34), (35, t35), (67, t67), (89, t89), (90, t90), (95, t95), (97, t97), (101, t101), (104, t104), (106, t106), (107, t107), (118, t118), (127, t127), (129, t129), (131, t131)]
def lawNs : List Str := ["script", "dice", "more", "sign", "one", "wide", "made", "at", "e"]
theorem tab_ok : ∀ p ∈ tab, p.2.ok tab.fnm errO exD = true := by
  have h : (tab.all fun p => p.2.ok tab.fnm errO exD) = true := by decide +kernel
  exact List.all_eq_true.mp h
theorem tab_defs : ∀ p ∈ tab, allDefs p.1 = some p.2.df := by
  intro p hp
  simp only [tab, List.mem_cons, List.not_mem_nil, or_false] at hp
  rcases hp with rfl | rfl | rfl | rfl | rfl | rfl | rfl | rfl | rfl | rfl | rfl | rfl | rfl | rfl | rfl | rfl | rfl | rfl | rfl | rfl | rfl | rfl | rfl | rfl | rfl | rfl | rfl | rfl | rfl <;> rfl
def inCls (s : Stmt) (i : Nat) : Stmt := match s with | .ClassDef (body := b) .. => b.getD i (.Pass ⟨0, 0, 0, 0⟩) | _ => .Pass ⟨0, 0, 0, 0⟩
def t901 : TD := ⟨"put", inCls (topS 56) 1, ["self", "i", "j", "sign"], Fdesk_put⟩
def t903 : TD := ⟨"redo", inCls (topS 56) 4, ["self", "place", "table"], Fdesk_redo⟩
def tm : Tb := [(901, t901), (903, t903)]
theorem tm_ok : ∀ p ∈ tm, p.2.ok tab.fnm errO exD = true := by
  have h : (tm.all fun p => p.2.ok tab.fnm errO exD) = true := by decide +kernel
  exact List.all_eq_true.mp h
theorem tm_defs : ∀ p ∈ tm, allDefs p.1 = some p.2.df := by
  intro p hp
  simp only [tm, List.mem_cons, List.not_mem_nil, or_false] at hp
  rcases hp with rfl | rfl <;> rfl
theorem tm_nf : ∀ p ∈ tm, ∀ j, j < 3 → fldN j ≠ p.2.nm := by
  have h : (tm.all fun p => (List.range 3).all fun j => decide (fldN j ≠ p.2.nm)) = true := by decide +kernel
  exact fun p hp j hj => of_decide_eq_true (List.all_eq_true.mp (List.all_eq_true.mp h p hp) j (List.mem_range.mpr hj))
theorem hnt : tab.fnm 2 = some ("need_table" : Str) := by decide +kernel
abbrev sInit : Stmt := inCls (topS 56) 0
theorem init_sc : scB initN initN (defScope sInit) = true := by decide +kernel
theorem init_is : isInit (defScope sInit) (defBody sInit) = true := by decide +kernel
abbrev sMet : Stmt := topS 64
theorem met_sc : scB metN ["deed"] (defScope sMet) = true := by decide +kernel
theorem met_is : isMet (defScope sMet) (defBody sMet) = true := by decide +kernel
abbrev sLaw : Stmt := topS 66
abbrev sCell : Stmt := topS 60
abbrev sRounds : Stmt := topS 63
theorem law_sc : scB lawNs ["script"] (defScope sLaw) = true := by decide +kernel
theorem law_is : isLaw (defScope sLaw) (defBody sLaw) = true := by decide +kernel
theorem law_ch : chkS ⟨lawNs, tab.fnm, errO, false, exL tm⟩ (defScope sLaw) lawS (.many (lawBody (defBody sLaw))) = true := by decide +kernel
theorem cell_sc : scB cellN cellN (defScope sCell) = true := by decide +kernel
theorem cell_is : isCell (defBody sCell) = true := by decide +kernel
theorem cell_len : (defScope sCell).names.lookup ("len" : Str) = some .globalImplicit := by decide +kernel
theorem rounds_sc : scB roundsN ["script", "most"] (defScope sRounds) = true := by decide +kernel
theorem rounds_is : isRounds (defScope sRounds) (defBody sRounds) = true := by decide +kernel
end SG
namespace SG
theorem small_of {i : Int} (h : i.natAbs < 2 ^ 400) : smallI i = true := decide_eq_true (Nat.lt_of_lt_of_le h (Nat.pow_le_pow_right (by decide) (by decide)))
theorem mulL {i j : Int} (h : s64 i = true) : opBin .mul (.int i) (.int j) = some (.int (i * j)) := by simp [opBin, mulOk, h]
theorem mulR {i j : Int} (h : s64 j = true) : opBin .mul (.int i) (.int j) = some (.int (i * j)) := by simp [opBin, mulOk, h]
theorem mulS {i j : Int} (h : i.natAbs < 2 ^ 400) (h2 : j.natAbs < 2 ^ 400) : opBin .mul (.int i) (.int j) = some (.int (i * j)) := by simp [opBin, mulOk, small_of h, small_of h2]
theorem modB {i j : Int} (h : j ≠ 0) : opBin .mod (.int i) (.int j) = some (.int (i.fmod j)) := by simp [opBin, h]
theorem fdivB {i j : Int} (h : j ≠ 0) (h2 : j.natAbs < 2 ^ 400) : opBin .fdiv (.int i) (.int j) = some (.int (i.fdiv j)) := by simp [opBin, h, small_of h2]
theorem fmod_lt {i j : Int} (h : 0 < j) : 0 ≤ i.fmod j ∧ i.fmod j < j := by
  rw [Int.fmod_eq_emod_of_nonneg i (Int.le_of_lt h)]
  exact ⟨Int.emod_nonneg _ (by omega), Int.emod_lt_of_pos _ h⟩
theorem fdiv_bd {i j : Int} (h0 : 0 ≤ i) (h : 0 < j) : 0 ≤ i.fdiv j ∧ i.fdiv j ≤ i := by
  rw [Int.fdiv_eq_ediv_of_nonneg i (Int.le_of_lt h)]
  exact ⟨Int.ediv_nonneg h0 (Int.le_of_lt h), Int.ediv_le_self _ h0⟩
end SG
namespace SG
theorem c_drawn {k : Nat} {cell j : Int} {d : Dice} : evCall allDefs (k + 1) 7 [.int cell, .int j] d = .ok (.int (drawn cell j)) d := by
  rw [call_eq (df := F_law_drawn) rfl rfl]
  unfold F_law_drawn
  simp only [onB_some, onD_bl, onI_int, onO_some, r_bind, r_err, r_of, r_noerr, r_out, r_oute, o_er, o_rese, told_ok, told_0, told_1, told_2, told_3, told_4, told_5, told_6, told_7, told_8, told_9, told_10, o_nx, o_rt, o_res, o_resn, o_ofE, t_bl, t_int, tups_t, i_lst, i_tup, i_str, put0, putS, get0, getS, getO0, getOS, wipe_nil, wipe_cons, c_lt, c_gt, c_le, c_ge, c_eqI, c_neI, c_eqS, c_neS, c_eqB, c_neB, b_add, b_sub, x_len1, x_len2, x_tup1, x_tup2, x_lst1, x_abs, x_all, x_any, e_nil, e_cons, e_var, e_non, e_bl, e_int, e_str, e_tup, e_lst, e_bin, e_neg, e_cmp, e_chain, e_isn, e_and, e_or, e_and3, e_or3, e_not, e_ite, ifE_t, ifE_f, ifS_t, ifS_f, thenS_nx, thenS_er, thenS_rt, forS_nil, e_call, e_bi, e_isi, e_meth, e_ix, e_sl, e_rng1, e_enum, e_zip, e_lc, e_lcif, e_told, s_rse, s_nil', s_seq, s_set, s_own', s_par, s_parO, s_par3, s_frz, s_app, s_ret, s_ifs, s_fors, s_whl, s_ex, a_var, startE, List.map_cons, List.map_nil, List.length_cons, List.length_nil, List.cons_append, List.nil_append, List.append_nil, Nat.reduceAdd, Nat.reduceSub, Nat.zero_add, Nat.sub_self, List.replicate_zero, List.replicate_succ, Option.map_some, Option.bind_some, List.set_cons_zero, List.set_cons_succ, decide_true, decide_false, if_true, if_false, Bool.not_true, Bool.not_false, Bool.true_and, Bool.false_and, Bool.and_true, Bool.and_false, Bool.true_or, Bool.false_or, reduceIte, Bool.false_eq_true, eq_self, ne_eq, not_true_eq_false, not_false_eq_true]
  rw [mulR (by decide)]
  simp only [onB_some, onD_bl, onI_int, onO_some, r_bind, r_err, r_of, r_noerr, r_out, r_oute, o_er, o_rese, told_ok, told_0, told_1, told_2, told_3, told_4, told_5, told_6, told_7, told_8, told_9, told_10, o_nx, o_rt, o_res, o_resn, o_ofE, t_bl, t_int, tups_t, i_lst, i_tup, i_str, put0, putS, get0, getS, getO0, getOS, wipe_nil, wipe_cons, c_lt, c_gt, c_le, c_ge, c_eqI, c_neI, c_eqS, c_neS, c_eqB, c_neB, b_add, b_sub, x_len1, x_len2, x_tup1, x_tup2, x_lst1, x_abs, x_all, x_any, e_nil, e_cons, e_var, e_non, e_bl, e_int, e_str, e_tup, e_lst, e_bin, e_neg, e_cmp, e_chain, e_isn, e_and, e_or, e_and3, e_or3, e_not, e_ite, ifE_t, ifE_f, ifS_t, ifS_f, thenS_nx, thenS_er, thenS_rt, forS_nil, e_call, e_bi, e_isi, e_meth, e_ix, e_sl, e_rng1, e_enum, e_zip, e_lc, e_lcif, e_told, s_rse, s_nil', s_seq, s_set, s_own', s_par, s_parO, s_par3, s_frz, s_app, s_ret, s_ifs, s_fors, s_whl, s_ex, a_var, startE, List.map_cons, List.map_nil, List.length_cons, List.length_nil, List.cons_append, List.nil_append, List.append_nil, Nat.reduceAdd, Nat.reduceSub, Nat.zero_add, Nat.sub_self, List.replicate_zero, List.replicate_succ, Option.map_some, Option.bind_some, List.set_cons_zero, List.set_cons_succ, decide_true, decide_false, if_true, if_false, Bool.not_true, Bool.not_false, Bool.true_and, Bool.false_and, Bool.and_true, Bool.and_false, Bool.true_or, Bool.false_or, reduceIte, Bool.false_eq_true, eq_self, ne_eq, not_true_eq_false, not_false_eq_true]
  rw [mulR (by decide)]
  simp only [onB_some, onD_bl, onI_int, onO_some, r_bind, r_err, r_of, r_noerr, r_out, r_oute, o_er, o_rese, told_ok, told_0, told_1, told_2, told_3, told_4, told_5, told_6, told_7, told_8, told_9, told_10, o_nx, o_rt, o_res, o_resn, o_ofE, t_bl, t_int, tups_t, i_lst, i_tup, i_str, put0, putS, get0, getS, getO0, getOS, wipe_nil, wipe_cons, c_lt, c_gt, c_le, c_ge, c_eqI, c_neI, c_eqS, c_neS, c_eqB, c_neB, b_add, b_sub, x_len1, x_len2, x_tup1, x_tup2, x_lst1, x_abs, x_all, x_any, e_nil, e_cons, e_var, e_non, e_bl, e_int, e_str, e_tup, e_lst, e_bin, e_neg, e_cmp, e_chain, e_isn, e_and, e_or, e_and3, e_or3, e_not, e_ite, ifE_t, ifE_f, ifS_t, ifS_f, thenS_nx, thenS_er, thenS_rt, forS_nil, e_call, e_bi, e_isi, e_meth, e_ix, e_sl, e_rng1, e_enum, e_zip, e_lc, e_lcif, e_told, s_rse, s_nil', s_seq, s_set, s_own', s_par, s_parO, s_par3, s_frz, s_app, s_ret, s_ifs, s_fors, s_whl, s_ex, a_var, startE, List.map_cons, List.map_nil, List.length_cons, List.length_nil, List.cons_append, List.nil_append, List.append_nil, Nat.reduceAdd, Nat.reduceSub, Nat.zero_add, Nat.sub_self, List.replicate_zero, List.replicate_succ, Option.map_some, Option.bind_some, List.set_cons_zero, List.set_cons_succ, decide_true, decide_false, if_true, if_false, Bool.not_true, Bool.not_false, Bool.true_and, Bool.false_and, Bool.and_true, Bool.and_false, Bool.true_or, Bool.false_or, reduceIte, Bool.false_eq_true, eq_self, ne_eq, not_true_eq_false, not_false_eq_true]
  rw [modB (by decide)]
  simp only [onB_some, onD_bl, onI_int, onO_some, r_bind, r_err, r_of, r_noerr, r_out, r_oute, o_er, o_rese, told_ok, told_0, told_1, told_2, told_3, told_4, told_5, told_6, told_7, told_8, told_9, told_10, o_nx, o_rt, o_res, o_resn, o_ofE, t_bl, t_int, tups_t, i_lst, i_tup, i_str, put0, putS, get0, getS, getO0, getOS, wipe_nil, wipe_cons, c_lt, c_gt, c_le, c_ge, c_eqI, c_neI, c_eqS, c_neS, c_eqB, c_neB, b_add, b_sub, x_len1, x_len2, x_tup1, x_tup2, x_lst1, x_abs, x_all, x_any, e_nil, e_cons, e_var, e_non, e_bl, e_int, e_str, e_tup, e_lst, e_bin, e_neg, e_cmp, e_chain, e_isn, e_and, e_or, e_and3, e_or3, e_not, e_ite, ifE_t, ifE_f, ifS_t, ifS_f, thenS_nx, thenS_er, thenS_rt, forS_nil, e_call, e_bi, e_isi, e_meth, e_ix, e_sl, e_rng1, e_enum, e_zip, e_lc, e_lcif, e_told, s_rse, s_nil', s_seq, s_set, s_own', s_par, s_parO, s_par3, s_frz, s_app, s_ret, s_ifs, s_fors, s_whl, s_ex, a_var, startE, List.map_cons, List.map_nil, List.length_cons, List.length_nil, List.cons_append, List.nil_append, List.append_nil, Nat.reduceAdd, Nat.reduceSub, Nat.zero_add, Nat.sub_self, List.replicate_zero, List.replicate_succ, Option.map_some, Option.bind_some, List.set_cons_zero, List.set_cons_succ, decide_true, decide_false, if_true, if_false, Bool.not_true, Bool.not_false, Bool.true_and, Bool.false_and, Bool.and_true, Bool.and_false, Bool.true_or, Bool.false_or, reduceIte, Bool.false_eq_true, eq_self, ne_eq, not_true_eq_false, not_false_eq_true]
  generalize ha : (cell * 6364136223846793005 + (j + 1) * 1442695040888963407).fmod 340282366920938463463374607431768211507 = a
  have ba : 0 ≤ a ∧ a < 340282366920938463463374607431768211507 := by rw [← ha]; exact fmod_lt (by decide)
  have na : a.natAbs < 2 ^ 400 := Nat.lt_of_lt_of_le (show a.natAbs < 2 ^ 130 by omega) (Nat.pow_le_pow_right (by decide) (by decide))
  rw [mulS na na]
  simp only [onB_some, onD_bl, onI_int, onO_some, r_bind, r_err, r_of, r_noerr, r_out, r_oute, o_er, o_rese, told_ok, told_0, told_1, told_2, told_3, told_4, told_5, told_6, told_7, told_8, told_9, told_10, o_nx, o_rt, o_res, o_resn, o_ofE, t_bl, t_int, tups_t, i_lst, i_tup, i_str, put0, putS, get0, getS, getO0, getOS, wipe_nil, wipe_cons, c_lt, c_gt, c_le, c_ge, c_eqI, c_neI, c_eqS, c_neS, c_eqB, c_neB, b_add, b_sub, x_len1, x_len2, x_tup1, x_tup2, x_lst1, x_abs, x_all, x_any, e_nil, e_cons, e_var, e_non, e_bl, e_int, e_str, e_tup, e_lst, e_bin, e_neg, e_cmp, e_chain, e_isn, e_and, e_or, e_and3, e_or3, e_not, e_ite, ifE_t, ifE_f, ifS_t, ifS_f, thenS_nx, thenS_er, thenS_rt, forS_nil, e_call, e_bi, e_isi, e_meth, e_ix, e_sl, e_rng1, e_enum, e_zip, e_lc, e_lcif, e_told, s_rse, s_nil', s_seq, s_set, s_own', s_par, s_parO, s_par3, s_frz, s_app, s_ret, s_ifs, s_fors, s_whl, s_ex, a_var, startE, List.map_cons, List.map_nil, List.length_cons, List.length_nil, List.cons_append, List.nil_append, List.append_nil, Nat.reduceAdd, Nat.reduceSub, Nat.zero_add, Nat.sub_self, List.replicate_zero, List.replicate_succ, Option.map_some, Option.bind_some, List.set_cons_zero, List.set_cons_succ, decide_true, decide_false, if_true, if_false, Bool.not_true, Bool.not_false, Bool.true_and, Bool.false_and, Bool.and_true, Bool.and_false, Bool.true_or, Bool.false_or, reduceIte, Bool.false_eq_true, eq_self, ne_eq, not_true_eq_false, not_false_eq_true]
  rw [modB (by decide)]
  simp only [onB_some, onD_bl, onI_int, onO_some, r_bind, r_err, r_of, r_noerr, r_out, r_oute, o_er, o_rese, told_ok, told_0, told_1, told_2, told_3, told_4, told_5, told_6, told_7, told_8, told_9, told_10, o_nx, o_rt, o_res, o_resn, o_ofE, t_bl, t_int, tups_t, i_lst, i_tup, i_str, put0, putS, get0, getS, getO0, getOS, wipe_nil, wipe_cons, c_lt, c_gt, c_le, c_ge, c_eqI, c_neI, c_eqS, c_neS, c_eqB, c_neB, b_add, b_sub, x_len1, x_len2, x_tup1, x_tup2, x_lst1, x_abs, x_all, x_any, e_nil, e_cons, e_var, e_non, e_bl, e_int, e_str, e_tup, e_lst, e_bin, e_neg, e_cmp, e_chain, e_isn, e_and, e_or, e_and3, e_or3, e_not, e_ite, ifE_t, ifE_f, ifS_t, ifS_f, thenS_nx, thenS_er, thenS_rt, forS_nil, e_call, e_bi, e_isi, e_meth, e_ix, e_sl, e_rng1, e_enum, e_zip, e_lc, e_lcif, e_told, s_rse, s_nil', s_seq, s_set, s_own', s_par, s_parO, s_par3, s_frz, s_app, s_ret, s_ifs, s_fors, s_whl, s_ex, a_var, startE, List.map_cons, List.map_nil, List.length_cons, List.length_nil, List.cons_append, List.nil_append, List.append_nil, Nat.reduceAdd, Nat.reduceSub, Nat.zero_add, Nat.sub_self, List.replicate_zero, List.replicate_succ, Option.map_some, Option.bind_some, List.set_cons_zero, List.set_cons_succ, decide_true, decide_false, if_true, if_false, Bool.not_true, Bool.not_false, Bool.true_and, Bool.false_and, Bool.and_true, Bool.and_false, Bool.true_or, Bool.false_or, reduceIte, Bool.false_eq_true, eq_self, ne_eq, not_true_eq_false, not_false_eq_true]
  generalize hb : (a * a).fmod 340282366920938463463374607431768211297 = b
  have bb : 0 ≤ b ∧ b < 340282366920938463463374607431768211297 := by rw [← hb]; exact fmod_lt (by decide)
  rw [modB (by decide)]
  simp only [onB_some, onD_bl, onI_int, onO_some, r_bind, r_err, r_of, r_noerr, r_out, r_oute, o_er, o_rese, told_ok, told_0, told_1, told_2, told_3, told_4, told_5, told_6, told_7, told_8, told_9, told_10, o_nx, o_rt, o_res, o_resn, o_ofE, t_bl, t_int, tups_t, i_lst, i_tup, i_str, put0, putS, get0, getS, getO0, getOS, wipe_nil, wipe_cons, c_lt, c_gt, c_le, c_ge, c_eqI, c_neI, c_eqS, c_neS, c_eqB, c_neB, b_add, b_sub, x_len1, x_len2, x_tup1, x_tup2, x_lst1, x_abs, x_all, x_any, e_nil, e_cons, e_var, e_non, e_bl, e_int, e_str, e_tup, e_lst, e_bin, e_neg, e_cmp, e_chain, e_isn, e_and, e_or, e_and3, e_or3, e_not, e_ite, ifE_t, ifE_f, ifS_t, ifS_f, thenS_nx, thenS_er, thenS_rt, forS_nil, e_call, e_bi, e_isi, e_meth, e_ix, e_sl, e_rng1, e_enum, e_zip, e_lc, e_lcif, e_told, s_rse, s_nil', s_seq, s_set, s_own', s_par, s_parO, s_par3, s_frz, s_app, s_ret, s_ifs, s_fors, s_whl, s_ex, a_var, startE, List.map_cons, List.map_nil, List.length_cons, List.length_nil, List.cons_append, List.nil_append, List.append_nil, Nat.reduceAdd, Nat.reduceSub, Nat.zero_add, Nat.sub_self, List.replicate_zero, List.replicate_succ, Option.map_some, Option.bind_some, List.set_cons_zero, List.set_cons_succ, decide_true, decide_false, if_true, if_false, Bool.not_true, Bool.not_false, Bool.true_and, Bool.false_and, Bool.and_true, Bool.and_false, Bool.true_or, Bool.false_or, reduceIte, Bool.false_eq_true, eq_self, ne_eq, not_true_eq_false, not_false_eq_true]
  rw [fdivB (by decide) (by decide)]
  simp only [onB_some, onD_bl, onI_int, onO_some, r_bind, r_err, r_of, r_noerr, r_out, r_oute, o_er, o_rese, told_ok, told_0, told_1, told_2, told_3, told_4, told_5, told_6, told_7, told_8, told_9, told_10, o_nx, o_rt, o_res, o_resn, o_ofE, t_bl, t_int, tups_t, i_lst, i_tup, i_str, put0, putS, get0, getS, getO0, getOS, wipe_nil, wipe_cons, c_lt, c_gt, c_le, c_ge, c_eqI, c_neI, c_eqS, c_neS, c_eqB, c_neB, b_add, b_sub, x_len1, x_len2, x_tup1, x_tup2, x_lst1, x_abs, x_all, x_any, e_nil, e_cons, e_var, e_non, e_bl, e_int, e_str, e_tup, e_lst, e_bin, e_neg, e_cmp, e_chain, e_isn, e_and, e_or, e_and3, e_or3, e_not, e_ite, ifE_t, ifE_f, ifS_t, ifS_f, thenS_nx, thenS_er, thenS_rt, forS_nil, e_call, e_bi, e_isi, e_meth, e_ix, e_sl, e_rng1, e_enum, e_zip, e_lc, e_lcif, e_told, s_rse, s_nil', s_seq, s_set, s_own', s_par, s_parO, s_par3, s_frz, s_app, s_ret, s_ifs, s_fors, s_whl, s_ex, a_var, startE, List.map_cons, List.map_nil, List.length_cons, List.length_nil, List.cons_append, List.nil_append, List.append_nil, Nat.reduceAdd, Nat.reduceSub, Nat.zero_add, Nat.sub_self, List.replicate_zero, List.replicate_succ, Option.map_some, Option.bind_some, List.set_cons_zero, List.set_cons_succ, decide_true, decide_false, if_true, if_false, Bool.not_true, Bool.not_false, Bool.true_and, Bool.false_and, Bool.and_true, Bool.and_false, Bool.true_or, Bool.false_or, reduceIte, Bool.false_eq_true, eq_self, ne_eq, not_true_eq_false, not_false_eq_true]
  generalize hm : b.fmod 18446744073709551557 = m
  have bm : 0 ≤ m ∧ m < 18446744073709551557 := by rw [← hm]; exact fmod_lt (by decide)
  generalize hq : b.fdiv 18446744073709551557 = q
  have bq : 0 ≤ q ∧ q ≤ b := by rw [← hq]; exact fdiv_bd bb.1 (by decide)
  have n1 : (m + 1).natAbs < 2 ^ 400 := Nat.lt_of_lt_of_le (show (m + 1).natAbs < 2 ^ 130 by omega) (Nat.pow_le_pow_right (by decide) (by decide))
  have n2 : (q + 1).natAbs < 2 ^ 130 := by omega
  have n3 : (q + 1).natAbs < 2 ^ 400 := Nat.lt_of_lt_of_le n2 (Nat.pow_le_pow_right (by decide) (by decide))
  have nb : b.natAbs < 2 ^ 400 := Nat.lt_of_lt_of_le (show b.natAbs < 2 ^ 130 by omega) (Nat.pow_le_pow_right (by decide) (by decide))
  rw [mulS n1 n3]
  simp only [onB_some, onD_bl, onI_int, onO_some, r_bind, r_err, r_of, r_noerr, r_out, r_oute, o_er, o_rese, told_ok, told_0, told_1, told_2, told_3, told_4, told_5, told_6, told_7, told_8, told_9, told_10, o_nx, o_rt, o_res, o_resn, o_ofE, t_bl, t_int, tups_t, i_lst, i_tup, i_str, put0, putS, get0, getS, getO0, getOS, wipe_nil, wipe_cons, c_lt, c_gt, c_le, c_ge, c_eqI, c_neI, c_eqS, c_neS, c_eqB, c_neB, b_add, b_sub, x_len1, x_len2, x_tup1, x_tup2, x_lst1, x_abs, x_all, x_any, e_nil, e_cons, e_var, e_non, e_bl, e_int, e_str, e_tup, e_lst, e_bin, e_neg, e_cmp, e_chain, e_isn, e_and, e_or, e_and3, e_or3, e_not, e_ite, ifE_t, ifE_f, ifS_t, ifS_f, thenS_nx, thenS_er, thenS_rt, forS_nil, e_call, e_bi, e_isi, e_meth, e_ix, e_sl, e_rng1, e_enum, e_zip, e_lc, e_lcif, e_told, s_rse, s_nil', s_seq, s_set, s_own', s_par, s_parO, s_par3, s_frz, s_app, s_ret, s_ifs, s_fors, s_whl, s_ex, a_var, startE, List.map_cons, List.map_nil, List.length_cons, List.length_nil, List.cons_append, List.nil_append, List.append_nil, Nat.reduceAdd, Nat.reduceSub, Nat.zero_add, Nat.sub_self, List.replicate_zero, List.replicate_succ, Option.map_some, Option.bind_some, List.set_cons_zero, List.set_cons_succ, decide_true, decide_false, if_true, if_false, Bool.not_true, Bool.not_false, Bool.true_and, Bool.false_and, Bool.and_true, Bool.and_false, Bool.true_or, Bool.false_or, reduceIte, Bool.false_eq_true, eq_self, ne_eq, not_true_eq_false, not_false_eq_true]
  have n4 : ((m + 1) * (q + 1)).natAbs < 2 ^ 400 := by
    rw [Int.natAbs_mul]
    refine Nat.lt_of_lt_of_le (Nat.mul_lt_mul'' (show (m + 1).natAbs < 2 ^ 130 by omega) n2) ?_
    decide
  rw [mulS n4 nb]
  simp only [onB_some, onD_bl, onI_int, onO_some, r_bind, r_err, r_of, r_noerr, r_out, r_oute, o_er, o_rese, told_ok, told_0, told_1, told_2, told_3, told_4, told_5, told_6, told_7, told_8, told_9, told_10, o_nx, o_rt, o_res, o_resn, o_ofE, t_bl, t_int, tups_t, i_lst, i_tup, i_str, put0, putS, get0, getS, getO0, getOS, wipe_nil, wipe_cons, c_lt, c_gt, c_le, c_ge, c_eqI, c_neI, c_eqS, c_neS, c_eqB, c_neB, b_add, b_sub, x_len1, x_len2, x_tup1, x_tup2, x_lst1, x_abs, x_all, x_any, e_nil, e_cons, e_var, e_non, e_bl, e_int, e_str, e_tup, e_lst, e_bin, e_neg, e_cmp, e_chain, e_isn, e_and, e_or, e_and3, e_or3, e_not, e_ite, ifE_t, ifE_f, ifS_t, ifS_f, thenS_nx, thenS_er, thenS_rt, forS_nil, e_call, e_bi, e_isi, e_meth, e_ix, e_sl, e_rng1, e_enum, e_zip, e_lc, e_lcif, e_told, s_rse, s_nil', s_seq, s_set, s_own', s_par, s_parO, s_par3, s_frz, s_app, s_ret, s_ifs, s_fors, s_whl, s_ex, a_var, startE, List.map_cons, List.map_nil, List.length_cons, List.length_nil, List.cons_append, List.nil_append, List.append_nil, Nat.reduceAdd, Nat.reduceSub, Nat.zero_add, Nat.sub_self, List.replicate_zero, List.replicate_succ, Option.map_some, Option.bind_some, List.set_cons_zero, List.set_cons_succ, decide_true, decide_false, if_true, if_false, Bool.not_true, Bool.not_false, Bool.true_and, Bool.false_and, Bool.and_true, Bool.and_false, Bool.true_or, Bool.false_or, reduceIte, Bool.false_eq_true, eq_self, ne_eq, not_true_eq_false, not_false_eq_true]
  rw [modB (by decide)]
  simp only [onB_some, onD_bl, onI_int, onO_some, r_bind, r_err, r_of, r_noerr, r_out, r_oute, o_er, o_rese, told_ok, told_0, told_1, told_2, told_3, told_4, told_5, told_6, told_7, told_8, told_9, told_10, o_nx, o_rt, o_res, o_resn, o_ofE, t_bl, t_int, tups_t, i_lst, i_tup, i_str, put0, putS, get0, getS, getO0, getOS, wipe_nil, wipe_cons, c_lt, c_gt, c_le, c_ge, c_eqI, c_neI, c_eqS, c_neS, c_eqB, c_neB, b_add, b_sub, x_len1, x_len2, x_tup1, x_tup2, x_lst1, x_abs, x_all, x_any, e_nil, e_cons, e_var, e_non, e_bl, e_int, e_str, e_tup, e_lst, e_bin, e_neg, e_cmp, e_chain, e_isn, e_and, e_or, e_and3, e_or3, e_not, e_ite, ifE_t, ifE_f, ifS_t, ifS_f, thenS_nx, thenS_er, thenS_rt, forS_nil, e_call, e_bi, e_isi, e_meth, e_ix, e_sl, e_rng1, e_enum, e_zip, e_lc, e_lcif, e_told, s_rse, s_nil', s_seq, s_set, s_own', s_par, s_parO, s_par3, s_frz, s_app, s_ret, s_ifs, s_fors, s_whl, s_ex, a_var, startE, List.map_cons, List.map_nil, List.length_cons, List.length_nil, List.cons_append, List.nil_append, List.append_nil, Nat.reduceAdd, Nat.reduceSub, Nat.zero_add, Nat.sub_self, List.replicate_zero, List.replicate_succ, Option.map_some, Option.bind_some, List.set_cons_zero, List.set_cons_succ, decide_true, decide_false, if_true, if_false, Bool.not_true, Bool.not_false, Bool.true_and, Bool.false_and, Bool.and_true, Bool.and_false, Bool.true_or, Bool.false_or, reduceIte, Bool.false_eq_true, eq_self, ne_eq, not_true_eq_false, not_false_eq_true]
  subst hm hq hb ha
  rfl
theorem e_dix0 {cf : CF} {r : Env} {d : Dice} : ev cf (.dix 0 0) (.sh .die :: r) d = .ok (.int d.1) d := by simp [ev]
theorem e_dix1 {cf : CF} {r : Env} {d : Dice} : ev cf (.dix 0 1) (.sh .die :: r) d = .ok (.int d.2) d := by simp [ev]
theorem s_dst0 {cf : CF} {r : Env} {d : Dice} {e : E} : evS cf (.dst 0 0 e) (.sh .die :: r) d = (ev cf e (.sh .die :: r) d).out fun x d => onI x (fun z => .nx (.sh .die :: r) ⟨z, d.b, d.k⟩) .bad := by simp [evS]; rfl
theorem s_dst1 {cf : CF} {r : Env} {d : Dice} {e : E} : evS cf (.dst 0 1 e) (.sh .die :: r) d = (ev cf e (.sh .die :: r) d).out fun x d => onI x (fun z => .nx (.sh .die :: r) ⟨d.a, z, d.k⟩) .bad := by simp [evS]; rfl
theorem c_roll {k : Nat} {m : Int} {d : Dice} (h : 0 < m) (h2 : m < 1000) : evCall allDefs (k + 2) 8 [.die, .int m] d = .ok (.int (roll d m).1) (roll d m).2 := by
  rw [call_eq (df := F_law_roll) rfl rfl]
  have hm0 : m ≠ 0 := by omega
  have nm : m.natAbs < 2 ^ 400 := Nat.lt_of_lt_of_le (show m.natAbs < 2 ^ 130 by omega) (Nat.pow_le_pow_right (by decide) (by decide))
  have hp : opBin .pow (.int 10) (.int 18) = some (.int (10 ^ 18)) := rfl
  unfold F_law_roll
  simp only [onB_some, onD_bl, onI_int, onO_some, r_bind, r_err, r_of, r_noerr, r_out, r_oute, o_er, o_rese, told_ok, told_0, told_1, told_2, told_3, told_4, told_5, told_6, told_7, told_8, told_9, told_10, o_nx, o_rt, o_res, o_resn, o_ofE, t_bl, t_int, tups_t, i_lst, i_tup, i_str, put0, putS, get0, getS, getO0, getOS, wipe_nil, wipe_cons, c_lt, c_gt, c_le, c_ge, c_eqI, c_neI, c_eqS, c_neS, c_eqB, c_neB, b_add, b_sub, x_len1, x_len2, x_tup1, x_tup2, x_lst1, x_abs, x_all, x_any, e_nil, e_cons, e_var, e_non, e_bl, e_int, e_str, e_tup, e_lst, e_bin, e_neg, e_cmp, e_chain, e_isn, e_and, e_or, e_and3, e_or3, e_not, e_ite, ifE_t, ifE_f, ifS_t, ifS_f, thenS_nx, thenS_er, thenS_rt, forS_nil, e_call, e_bi, e_isi, e_meth, e_ix, e_sl, e_rng1, e_enum, e_zip, e_lc, e_lcif, e_told, s_rse, s_nil', s_seq, s_set, s_own', s_par, s_parO, s_par3, s_frz, s_app, s_ret, s_ifs, s_fors, s_whl, s_ex, a_var, startE, List.map_cons, List.map_nil, List.length_cons, List.length_nil, List.cons_append, List.nil_append, List.append_nil, Nat.reduceAdd, Nat.reduceSub, Nat.zero_add, Nat.sub_self, List.replicate_zero, List.replicate_succ, Option.map_some, Option.bind_some, List.set_cons_zero, List.set_cons_succ, decide_true, decide_false, if_true, if_false, Bool.not_true, Bool.not_false, Bool.true_and, Bool.false_and, Bool.and_true, Bool.and_false, Bool.true_or, Bool.false_or, reduceIte, Bool.false_eq_true, eq_self, ne_eq, not_true_eq_false, not_false_eq_true, e_dix0, e_dix1, s_dst0, s_dst1, hp]
  unfold roll
  by_cases hc : (10 : Int) ^ 18 ≤ d.1
  · simp only [onB_some, onD_bl, onI_int, onO_some, r_bind, r_err, r_of, r_noerr, r_out, r_oute, o_er, o_rese, told_ok, told_0, told_1, told_2, told_3, told_4, told_5, told_6, told_7, told_8, told_9, told_10, o_nx, o_rt, o_res, o_resn, o_ofE, t_bl, t_int, tups_t, i_lst, i_tup, i_str, put0, putS, get0, getS, getO0, getOS, wipe_nil, wipe_cons, c_lt, c_gt, c_le, c_ge, c_eqI, c_neI, c_eqS, c_neS, c_eqB, c_neB, b_add, b_sub, x_len1, x_len2, x_tup1, x_tup2, x_lst1, x_abs, x_all, x_any, e_nil, e_cons, e_var, e_non, e_bl, e_int, e_str, e_tup, e_lst, e_bin, e_neg, e_cmp, e_chain, e_isn, e_and, e_or, e_and3, e_or3, e_not, e_ite, ifE_t, ifE_f, ifS_t, ifS_f, thenS_nx, thenS_er, thenS_rt, forS_nil, e_call, e_bi, e_isi, e_meth, e_ix, e_sl, e_rng1, e_enum, e_zip, e_lc, e_lcif, e_told, s_rse, s_nil', s_seq, s_set, s_own', s_par, s_parO, s_par3, s_frz, s_app, s_ret, s_ifs, s_fors, s_whl, s_ex, a_var, startE, List.map_cons, List.map_nil, List.length_cons, List.length_nil, List.cons_append, List.nil_append, List.append_nil, Nat.reduceAdd, Nat.reduceSub, Nat.zero_add, Nat.sub_self, List.replicate_zero, List.replicate_succ, Option.map_some, Option.bind_some, List.set_cons_zero, List.set_cons_succ, decide_true, decide_false, if_true, if_false, Bool.not_true, Bool.not_false, Bool.true_and, Bool.false_and, Bool.and_true, Bool.and_false, Bool.true_or, Bool.false_or, reduceIte, Bool.false_eq_true, eq_self, ne_eq, not_true_eq_false, not_false_eq_true, hc, ge_iff_le, e_dix0]
    rw [modB hm0]
    simp only [onB_some, onD_bl, onI_int, onO_some, r_bind, r_err, r_of, r_noerr, r_out, r_oute, o_er, o_rese, told_ok, told_0, told_1, told_2, told_3, told_4, told_5, told_6, told_7, told_8, told_9, told_10, o_nx, o_rt, o_res, o_resn, o_ofE, t_bl, t_int, tups_t, i_lst, i_tup, i_str, put0, putS, get0, getS, getO0, getOS, wipe_nil, wipe_cons, c_lt, c_gt, c_le, c_ge, c_eqI, c_neI, c_eqS, c_neS, c_eqB, c_neB, b_add, b_sub, x_len1, x_len2, x_tup1, x_tup2, x_lst1, x_abs, x_all, x_any, e_nil, e_cons, e_var, e_non, e_bl, e_int, e_str, e_tup, e_lst, e_bin, e_neg, e_cmp, e_chain, e_isn, e_and, e_or, e_and3, e_or3, e_not, e_ite, ifE_t, ifE_f, ifS_t, ifS_f, thenS_nx, thenS_er, thenS_rt, forS_nil, e_call, e_bi, e_isi, e_meth, e_ix, e_sl, e_rng1, e_enum, e_zip, e_lc, e_lcif, e_told, s_rse, s_nil', s_seq, s_set, s_own', s_par, s_parO, s_par3, s_frz, s_app, s_ret, s_ifs, s_fors, s_whl, s_ex, a_var, startE, List.map_cons, List.map_nil, List.length_cons, List.length_nil, List.cons_append, List.nil_append, List.append_nil, Nat.reduceAdd, Nat.reduceSub, Nat.zero_add, Nat.sub_self, List.replicate_zero, List.replicate_succ, Option.map_some, Option.bind_some, List.set_cons_zero, List.set_cons_succ, decide_true, decide_false, if_true, if_false, Bool.not_true, Bool.not_false, Bool.true_and, Bool.false_and, Bool.and_true, Bool.and_false, Bool.true_or, Bool.false_or, reduceIte, Bool.false_eq_true, eq_self, ne_eq, not_true_eq_false, not_false_eq_true, s_dst0, e_dix0]
    rw [fdivB hm0 nm]
    simp only [onB_some, onD_bl, onI_int, onO_some, r_bind, r_err, r_of, r_noerr, r_out, r_oute, o_er, o_rese, told_ok, told_0, told_1, told_2, told_3, told_4, told_5, told_6, told_7, told_8, told_9, told_10, o_nx, o_rt, o_res, o_resn, o_ofE, t_bl, t_int, tups_t, i_lst, i_tup, i_str, put0, putS, get0, getS, getO0, getOS, wipe_nil, wipe_cons, c_lt, c_gt, c_le, c_ge, c_eqI, c_neI, c_eqS, c_neS, c_eqB, c_neB, b_add, b_sub, x_len1, x_len2, x_tup1, x_tup2, x_lst1, x_abs, x_all, x_any, e_nil, e_cons, e_var, e_non, e_bl, e_int, e_str, e_tup, e_lst, e_bin, e_neg, e_cmp, e_chain, e_isn, e_and, e_or, e_and3, e_or3, e_not, e_ite, ifE_t, ifE_f, ifS_t, ifS_f, thenS_nx, thenS_er, thenS_rt, forS_nil, e_call, e_bi, e_isi, e_meth, e_ix, e_sl, e_rng1, e_enum, e_zip, e_lc, e_lcif, e_told, s_rse, s_nil', s_seq, s_set, s_own', s_par, s_parO, s_par3, s_frz, s_app, s_ret, s_ifs, s_fors, s_whl, s_ex, a_var, startE, List.map_cons, List.map_nil, List.length_cons, List.length_nil, List.cons_append, List.nil_append, List.append_nil, Nat.reduceAdd, Nat.reduceSub, Nat.zero_add, Nat.sub_self, List.replicate_zero, List.replicate_succ, Option.map_some, Option.bind_some, List.set_cons_zero, List.set_cons_succ, decide_true, decide_false, if_true, if_false, Bool.not_true, Bool.not_false, Bool.true_and, Bool.false_and, Bool.and_true, Bool.and_false, Bool.true_or, Bool.false_or, reduceIte, Bool.false_eq_true, eq_self, ne_eq, not_true_eq_false, not_false_eq_true]
  · simp only [onB_some, onD_bl, onI_int, onO_some, r_bind, r_err, r_of, r_noerr, r_out, r_oute, o_er, o_rese, told_ok, told_0, told_1, told_2, told_3, told_4, told_5, told_6, told_7, told_8, told_9, told_10, o_nx, o_rt, o_res, o_resn, o_ofE, t_bl, t_int, tups_t, i_lst, i_tup, i_str, put0, putS, get0, getS, getO0, getOS, wipe_nil, wipe_cons, c_lt, c_gt, c_le, c_ge, c_eqI, c_neI, c_eqS, c_neS, c_eqB, c_neB, b_add, b_sub, x_len1, x_len2, x_tup1, x_tup2, x_lst1, x_abs, x_all, x_any, e_nil, e_cons, e_var, e_non, e_bl, e_int, e_str, e_tup, e_lst, e_bin, e_neg, e_cmp, e_chain, e_isn, e_and, e_or, e_and3, e_or3, e_not, e_ite, ifE_t, ifE_f, ifS_t, ifS_f, thenS_nx, thenS_er, thenS_rt, forS_nil, e_call, e_bi, e_isi, e_meth, e_ix, e_sl, e_rng1, e_enum, e_zip, e_lc, e_lcif, e_told, s_rse, s_nil', s_seq, s_set, s_own', s_par, s_parO, s_par3, s_frz, s_app, s_ret, s_ifs, s_fors, s_whl, s_ex, a_var, startE, List.map_cons, List.map_nil, List.length_cons, List.length_nil, List.cons_append, List.nil_append, List.append_nil, Nat.reduceAdd, Nat.reduceSub, Nat.zero_add, Nat.sub_self, List.replicate_zero, List.replicate_succ, Option.map_some, Option.bind_some, List.set_cons_zero, List.set_cons_succ, decide_true, decide_false, if_true, if_false, Bool.not_true, Bool.not_false, Bool.true_and, Bool.false_and, Bool.and_true, Bool.and_false, Bool.true_or, Bool.false_or, reduceIte, Bool.false_eq_true, eq_self, ne_eq, not_true_eq_false, not_false_eq_true, hc, ge_iff_le, s_dst1, e_dix1, e_dix0]
    rw [c_drawn]
    simp only [onB_some, onD_bl, onI_int, onO_some, r_bind, r_err, r_of, r_noerr, r_out, r_oute, o_er, o_rese, told_ok, told_0, told_1, told_2, told_3, told_4, told_5, told_6, told_7, told_8, told_9, told_10, o_nx, o_rt, o_res, o_resn, o_ofE, t_bl, t_int, tups_t, i_lst, i_tup, i_str, put0, putS, get0, getS, getO0, getOS, wipe_nil, wipe_cons, c_lt, c_gt, c_le, c_ge, c_eqI, c_neI, c_eqS, c_neS, c_eqB, c_neB, b_add, b_sub, x_len1, x_len2, x_tup1, x_tup2, x_lst1, x_abs, x_all, x_any, e_nil, e_cons, e_var, e_non, e_bl, e_int, e_str, e_tup, e_lst, e_bin, e_neg, e_cmp, e_chain, e_isn, e_and, e_or, e_and3, e_or3, e_not, e_ite, ifE_t, ifE_f, ifS_t, ifS_f, thenS_nx, thenS_er, thenS_rt, forS_nil, e_call, e_bi, e_isi, e_meth, e_ix, e_sl, e_rng1, e_enum, e_zip, e_lc, e_lcif, e_told, s_rse, s_nil', s_seq, s_set, s_own', s_par, s_parO, s_par3, s_frz, s_app, s_ret, s_ifs, s_fors, s_whl, s_ex, a_var, startE, List.map_cons, List.map_nil, List.length_cons, List.length_nil, List.cons_append, List.nil_append, List.append_nil, Nat.reduceAdd, Nat.reduceSub, Nat.zero_add, Nat.sub_self, List.replicate_zero, List.replicate_succ, Option.map_some, Option.bind_some, List.set_cons_zero, List.set_cons_succ, decide_true, decide_false, if_true, if_false, Bool.not_true, Bool.not_false, Bool.true_and, Bool.false_and, Bool.and_true, Bool.and_false, Bool.true_or, Bool.false_or, reduceIte, Bool.false_eq_true, eq_self, ne_eq, not_true_eq_false, not_false_eq_true]
    rw [fdivB (by decide) (by decide)]
    simp only [onB_some, onD_bl, onI_int, onO_some, r_bind, r_err, r_of, r_noerr, r_out, r_oute, o_er, o_rese, told_ok, told_0, told_1, told_2, told_3, told_4, told_5, told_6, told_7, told_8, told_9, told_10, o_nx, o_rt, o_res, o_resn, o_ofE, t_bl, t_int, tups_t, i_lst, i_tup, i_str, put0, putS, get0, getS, getO0, getOS, wipe_nil, wipe_cons, c_lt, c_gt, c_le, c_ge, c_eqI, c_neI, c_eqS, c_neS, c_eqB, c_neB, b_add, b_sub, x_len1, x_len2, x_tup1, x_tup2, x_lst1, x_abs, x_all, x_any, e_nil, e_cons, e_var, e_non, e_bl, e_int, e_str, e_tup, e_lst, e_bin, e_neg, e_cmp, e_chain, e_isn, e_and, e_or, e_and3, e_or3, e_not, e_ite, ifE_t, ifE_f, ifS_t, ifS_f, thenS_nx, thenS_er, thenS_rt, forS_nil, e_call, e_bi, e_isi, e_meth, e_ix, e_sl, e_rng1, e_enum, e_zip, e_lc, e_lcif, e_told, s_rse, s_nil', s_seq, s_set, s_own', s_par, s_parO, s_par3, s_frz, s_app, s_ret, s_ifs, s_fors, s_whl, s_ex, a_var, startE, List.map_cons, List.map_nil, List.length_cons, List.length_nil, List.cons_append, List.nil_append, List.append_nil, Nat.reduceAdd, Nat.reduceSub, Nat.zero_add, Nat.sub_self, List.replicate_zero, List.replicate_succ, Option.map_some, Option.bind_some, List.set_cons_zero, List.set_cons_succ, decide_true, decide_false, if_true, if_false, Bool.not_true, Bool.not_false, Bool.true_and, Bool.false_and, Bool.and_true, Bool.and_false, Bool.true_or, Bool.false_or, reduceIte, Bool.false_eq_true, eq_self, ne_eq, not_true_eq_false, not_false_eq_true]
    rw [modB hm0]
    simp only [onB_some, onD_bl, onI_int, onO_some, r_bind, r_err, r_of, r_noerr, r_out, r_oute, o_er, o_rese, told_ok, told_0, told_1, told_2, told_3, told_4, told_5, told_6, told_7, told_8, told_9, told_10, o_nx, o_rt, o_res, o_resn, o_ofE, t_bl, t_int, tups_t, i_lst, i_tup, i_str, put0, putS, get0, getS, getO0, getOS, wipe_nil, wipe_cons, c_lt, c_gt, c_le, c_ge, c_eqI, c_neI, c_eqS, c_neS, c_eqB, c_neB, b_add, b_sub, x_len1, x_len2, x_tup1, x_tup2, x_lst1, x_abs, x_all, x_any, e_nil, e_cons, e_var, e_non, e_bl, e_int, e_str, e_tup, e_lst, e_bin, e_neg, e_cmp, e_chain, e_isn, e_and, e_or, e_and3, e_or3, e_not, e_ite, ifE_t, ifE_f, ifS_t, ifS_f, thenS_nx, thenS_er, thenS_rt, forS_nil, e_call, e_bi, e_isi, e_meth, e_ix, e_sl, e_rng1, e_enum, e_zip, e_lc, e_lcif, e_told, s_rse, s_nil', s_seq, s_set, s_own', s_par, s_parO, s_par3, s_frz, s_app, s_ret, s_ifs, s_fors, s_whl, s_ex, a_var, startE, List.map_cons, List.map_nil, List.length_cons, List.length_nil, List.cons_append, List.nil_append, List.append_nil, Nat.reduceAdd, Nat.reduceSub, Nat.zero_add, Nat.sub_self, List.replicate_zero, List.replicate_succ, Option.map_some, Option.bind_some, List.set_cons_zero, List.set_cons_succ, decide_true, decide_false, if_true, if_false, Bool.not_true, Bool.not_false, Bool.true_and, Bool.false_and, Bool.and_true, Bool.and_false, Bool.true_or, Bool.false_or, reduceIte, Bool.false_eq_true, eq_self, ne_eq, not_true_eq_false, not_false_eq_true]
theorem roll_bd {m : Int} {d : Dice} (h : 0 < m) : 0 ≤ (roll d m).1 ∧ (roll d m).1 < m := by
  unfold roll
  split <;> exact fmod_lt h
end SG
namespace SG
section
variable {α : Type}
theorem pt1 {y : D} : part .nil y = some none := id rfl
theorem pt2 {i : Nat} {j : Int} : part (.var i) (.int j) = some (some j) := id rfl
theorem pt3 {o : Bop} {a b : E} {j : Int} : part (.bin o a b) (.int j) = some (some j) := id rfl
theorem pt4 {i j : Int} : part (.int i) (.int j) = some (some j) := id rfl
theorem cut_lo {xs : List α} {j : Nat} (h : j ≤ xs.length) : cut xs none (some (j : Int)) = xs.take j := by
  unfold cut sIx
  have : ¬ ((j : Int) < 0) := by omega
  simp only [this, if_false, Int.toNat_natCast]
  rw [Nat.min_eq_left h]
  simp
theorem cut_hi {xs : List α} {j : Nat} (h : j ≤ xs.length) : cut xs (some (j : Int)) none = xs.drop j := by
  unfold cut sIx
  have : ¬ ((j : Int) < 0) := by omega
  simp only [this, if_false, Int.toNat_natCast]
  rw [Nat.min_eq_left h]
  apply List.take_of_length_le
  simp
theorem sl_lo {xs : List D} {j : Nat} (h : j ≤ xs.length) : opSl (.tup xs) none (some (j : Int)) = some (.tup (xs.take j)) := by simp only [opSl, cut_lo h]
theorem sl_hi {xs : List D} {j : Nat} (h : j ≤ xs.length) : opSl (.tup xs) (some (j : Int)) none = some (.tup (xs.drop j)) := by simp only [opSl, cut_hi h]
theorem ix_nat {xs : List D} {j : Nat} {x : D} (h : xs[j]? = some x) : opIx (.tup xs) (.int j) = some x := by
  have hj := (List.getElem?_eq_some_iff.mp h).1
  have h2 := (List.getElem?_eq_some_iff.mp h).2
  simp [opIx, atP, ixP, hj, h2]
theorem add_tup {xs ys : List D} (h : xs.length + ys.length < 1000) : opBin .add (.tup xs) (.tup ys) = some (.tup (xs ++ ys)) := by
  have : (xs ++ ys).length ≤ lim := le_lim (by simpa using h)
  simp only [opBin, mkT, this, if_pos]
theorem add_lst {xs ys : List D} (h : xs.length + ys.length < 1000) : opBin .add (.lst xs) (.lst ys) = some (.lst (xs ++ ys)) := by
  have : (xs ++ ys).length ≤ lim := le_lim (by simpa using h)
  simp only [opBin, mkL, this, if_pos]
end
def setL {α : Type} (r : List α) (j : Nat) (e : α) : List α := r.take j ++ [e] ++ r.drop (j + 1)
theorem setL_len {α : Type} {r : List α} {j : Nat} {e : α} (h : j < r.length) : (setL r j e).length = r.length := by simp [setL]; omega
theorem setL_mem {α : Type} {r : List α} {j : Nat} {e x : α} (h : x ∈ setL r j e) : x = e ∨ x ∈ r := by
  simp only [setL, List.mem_append, List.mem_singleton] at h
  rcases h with (h | h) | h
  · exact .inr (List.mem_of_mem_take h)
  · exact .inl h
  · exact .inr (List.mem_of_mem_drop h)
theorem setL_map {α β : Type} {f : α → β} {r : List α} {j : Nat} {e : α} : (setL r j e).map f = (r.map f).take j ++ [f e] ++ (r.map f).drop (j + 1) := by simp [setL]
end SG
namespace SG
def Sg (c : Nat) : Prop := c = 43 ∨ c = 45 ∨ c = 48
structure Tab (t : List (List Nat)) (m w : Nat) : Prop where
  len : t.length = m
  row : ∀ r ∈ t, r.length = w ∧ ∀ c ∈ r, Sg c
def tabD (t : List (List Nat)) : D := .tup (t.map .str)
end SG
namespace SG
theorem in_sg {c : Nat} (h : Sg c) : opCmp .inn (.str [c]) (.str [43, 45, 48]) = some true := by
  rcases h with h | h | h <;> subst h <;> rfl
theorem len_str {r : List Nat} (h : r.length < 1000) : opBi .len [.str r] = some (.int r.length) := by
  simp [opBi, biLen, le_lim h]
theorem all_true {γ : Type} (l : List γ) : opBi .all [.lst (l.map fun _ => .bl true)] = some (.bl true) := by
  rw [x_all]; simp
end SG
namespace SG
section
variable {cf : CF} {env env' : Env} {d : Dice}
theorem e_rng2 {x y : E} : ev cf (.rng2 x y) env d = (ev cf x env d).bind fun x d => (ev cf y env d).bind fun y d => onI x (fun m => onI y (fun n => if smallR m n = true then .ok (.lst (rangeL m n)) d else .bad) .bad) .bad := by
  simp only [ev]; congr; funext x d; congr; funext y d; cases x <;> first | rfl | (cases y <;> rfl)
theorem e_trng {x : E} : ev cf (.trng x) env d = (ev cf x env d).bind fun x d => onI x (fun n => if smallR 0 n = true then .ok (.tup (rangeL 0 n)) d else .bad) .bad := by simp only [ev]; rfl
theorem e_lenum {x : E} : ev cf (.lenum x) env d = (ev cf x env d).bind fun x d => .of ((items x).bind fun l => if l.length ≤ lim then some (.lst (enumL 0 l)) else none) d := by simp only [ev]
theorem e_rev {x : E} : ev cf (.rev x) env d = (ev cf x env d).bind fun x d => .of (opRev x) d := by simp only [ev]
def onS {α : Type} (x : D) (f : List Nat → α) (e : α) : α := match x with | .str i => f i | _ => e
@[simp] theorem onS_str {α : Type} {s : List Nat} {f : List Nat → α} {e : α} : onS (.str s) f e = f s := id rfl
theorem e_dget {kv : List (List Nat × Int)} {x : E} : ev cf (.dget kv x) env d = (ev cf x env d).bind fun x d => onS x (fun s => .of (lookS s kv) d) .bad := by simp only [ev]; rfl
theorem e_dgets {kv : List (List Nat × List Nat)} {x : E} : ev cf (.dgets kv x) env d = (ev cf x env d).bind fun x d => onS x (fun s => .of (lookSS s kv) d) .bad := by simp only [ev]; rfl
theorem a_tup {es : E} {l : List D} : asg (.tup es) (.tup l) env = asg es (.tup l) env := id rfl
theorem a_nil : asg .nil (.tup []) env = some env := id rfl
theorem a_cons {a r : E} {x : D} {l : List D} : asg (.cons a r) (.tup (x :: l)) env = (asg a x env).bind fun env' => asg r (.tup l) env' := id rfl
theorem for_fold {σ J γ : Type} {tg : E} {b : S} (S : σ → J → Env) (e : γ → D) (f : σ → γ → σ) (P : List γ → σ → Prop)
    (h : ∀ y r s j, P (y :: r) s → ∃ env1, asg tg (e y) (S s j) = some env1 ∧ ∃ j', evS cf b env1 d = .nx (S (f s y) j') d ∧ P r (f s y)) :
    ∀ (l : List γ) (s : σ) (j : J), P l s → ∃ j', forS cf tg b (l.map e) (S s j) d = .nx (S (l.foldl f s) j') d ∧ P [] (l.foldl f s)
  | [], s, j, p => ⟨j, rfl, p⟩
  | y :: r, s, j, p => by
    obtain ⟨env1, h1, j', h2, p'⟩ := h y r s j p
    obtain ⟨j2, h3, p2⟩ := for_fold S e f P h r (f s y) j' p'
    exact ⟨j2, by rw [List.map_cons, forS_cons h1, h2, o_nx, h3, List.foldl_cons], p2⟩
theorem for_find {J γ : Type} {tg : E} {b : S} (S : J → Env) (e : γ → D) (p : γ → Option D) :
    ∀ (l : List γ) (j : J), (∀ y ∈ l, ∀ j, ∃ env1, asg tg (e y) (S j) = some env1 ∧ ((∃ v, p y = some v ∧ evS cf b env1 d = .rt v d) ∨ (p y = none ∧ ∃ j', evS cf b env1 d = .nx (S j') d))) →
    (∃ v, l.findSome? p = some v ∧ forS cf tg b (l.map e) (S j) d = .rt v d) ∨ (l.findSome? p = none ∧ ∃ j', forS cf tg b (l.map e) (S j) d = .nx (S j') d)
  | [], j, _ => .inr ⟨rfl, j, rfl⟩
  | y :: r, j, h => by
    obtain ⟨env1, h1, h2⟩ := h y List.mem_cons_self j
    rcases h2 with ⟨v, h2, h3⟩ | ⟨h2, j', h3⟩
    · exact .inl ⟨v, by rw [List.findSome?_cons, h2], by rw [List.map_cons, forS_cons h1, h3, o_rt]⟩
    · rcases for_find S e p r j' (fun q hq => h q (List.mem_cons_of_mem _ hq)) with ⟨v, h4, h5⟩ | ⟨h4, j2, h5⟩
      · exact .inl ⟨v, by rw [List.findSome?_cons, h2]; exact h4, by rw [List.map_cons, forS_cons h1, h3, o_nx, h5]⟩
      · exact .inr ⟨by rw [List.findSome?_cons, h2]; exact h4, j2, by rw [List.map_cons, forS_cons h1, h3, o_nx, h5]⟩
theorem lcf_mapG {γ : Type} {e : γ → D} {elt tg c : E} {own : List Nat} {p : γ → Bool} {g : γ → D} : ∀ (l : List γ), (∀ y ∈ l, ∃ env1, asg tg (e y) (env.wipe own) = some env1 ∧ ev cf c env1 d = .ok (.bl (p y)) d ∧ (p y = true → ev cf elt env1 d = .ok (g y) d)) → lcfS cf elt tg c own (l.map e) env d = .ok ((l.filter p).map g) d
  | [], _ => rfl
  | x :: r, h => by
    obtain ⟨env1, h1, h2, h3⟩ := h x List.mem_cons_self
    have ih := lcf_mapG r fun y hy => h y (List.mem_cons_of_mem _ hy)
    unfold lcfS at ih ⊢
    cases hp : p x with
    | true =>
      rw [hp] at h2
      simp only [List.map_cons, lcLoop, h1, h2, h3 hp, t_bl, r_noerr, r_bind, List.filter_cons, hp, if_true]
      rw [ih]; rfl
    | false =>
      rw [hp] at h2
      simp only [List.map_cons, lcLoop, h1, h2, t_bl, r_noerr, r_bind, List.filter_cons, hp]
      rw [ih]; rfl
theorem range_map (n : Nat) : rangeL 0 (n : Int) = (List.range n).map fun i => .int (i : Nat) := by simp [rangeL]
theorem range2_map (a b : Nat) : rangeL (a : Int) (b : Int) = (List.range' a (b - a)).map fun i => .int (i : Nat) := by
  unfold rangeL
  rw [show ((b : Int) - (a : Int)).toNat = b - a by omega, List.range'_eq_map_range, List.map_map]
  apply List.map_congr_left
  intro i _
  simp
theorem enum_map {γ : Type} (e : γ → D) : ∀ (l : List γ) (k : Nat), enumL k (l.map e) = (l.zipIdx k).map fun p => .tup [.int (p.2 : Nat), e p.1]
  | [], _ => rfl
  | x :: r, k => by simp [enumL, enum_map e r (k + 1)]
theorem smallR2 {a b : Nat} (h : a < 1000) (h2 : b < 1000) : smallR (a : Int) (b : Int) = true := by simp [smallR]; omega
theorem ixT {γ : Type} {e : γ → D} {l : List γ} {j : Nat} {x : γ} (h : l[j]? = some x) : opIx (.tup (l.map e)) (.int j) = some (e x) := ix_nat (by rw [List.getElem?_map, h]; rfl)
theorem ixL {γ : Type} {e : γ → D} {l : List γ} {j : Nat} {x : γ} (h : l[j]? = some x) : opIx (.lst (l.map e)) (.int j) = some (e x) := by
  have hj := (List.getElem?_eq_some_iff.mp h).1
  have h2 := (List.getElem?_eq_some_iff.mp h).2
  simp [opIx, atP, ixP, hj, h2]
theorem ixS {s : List Nat} {j c : Nat} (h : s[j]? = some c) (hl : s.length < 1000) : opIx (.str s) (.int j) = some (.str [c]) := by
  have hj := (List.getElem?_eq_some_iff.mp h).1
  have h2 := (List.getElem?_eq_some_iff.mp h).2
  simp [opIx, atP, ixP, hj, h2, le_lim hl]
end
end SG
namespace SG
theorem then_assoc {o : Out} {f g : Env → Dice → Out} : ((o.then f).then g) = o.then fun e d => (f e d).then g := by cases o <;> rfl
def hdS : S → S
  | .seq a _ => a
  | x => x
def PreS : S := .seq (hdS Llaw_1) (.seq (hdS Llaw_2) (.seq (hdS Llaw_3) (.seq (hdS Llaw_4) (.seq (hdS Llaw_5) (.seq (hdS Llaw_6) .nil)))))
theorem pre_eq {cf : CF} {env : Env} {d : Dice} : evS cf Llaw_1 env d = (evS cf PreS env d).then fun env d => evS cf Llaw_7 env d := by
  simp only [PreS, Llaw_1, Llaw_2, Llaw_3, Llaw_4, Llaw_5, Llaw_6, hdS, evS, then_assoc]
  rfl
def envB (m : Int) (s : Nat) : Env := [.no, .sh .die, .sh (.int m), .sh (.str [s]), .no, .no, .no, .no, .no]
def envM (m : Int) (s : Nat) : Env := [.no, .sh .die, .sh (.int m), .sh (.str [s]), .sh (.tup [.str [s]]), .sh (.tup [.str [s, s, s, s]]), .ow [.exc 0, .exc 1, .exc 2, .exc 3, .exc 4], .no, .no]
def envE (m : Int) (s : Nat) : Env := [.no, .sh .die, .sh (.int m), .sh (.str [s]), .sh (.tup [.str [s]]), .sh (.tup [.str [s, s, s, s]]), .sh (.lst [.exc 0, .exc 1, .exc 2, .exc 3, .exc 4, .exc 5, .exc 6, .exc 7, .exc 8, .exc 9, .exc 10]), .no, .no]
def Pre (m : Int) (s : Nat) : Prop := ∀ a b : Int, evS (evCall allDefs 20) PreS (envB m s) ⟨a, b, none⟩ = .nx (envM m s) ⟨a, b, none⟩
theorem tl43 (m a b : Int) : evS (evCall allDefs 20) Llaw_7 (envM m 43) ⟨a, b, none⟩ = .nx (envE m 43) ⟨a, b, none⟩ := by kernel_rfl
theorem tl45 (m a b : Int) : evS (evCall allDefs 20) Llaw_7 (envM m 45) ⟨a, b, none⟩ = .nx (envE m 45) ⟨a, b, none⟩ := by kernel_rfl
theorem p43_0 : Pre 5 43 := fun a b => by kernel_rfl
theorem p43_1 : Pre 6 43 := fun a b => by kernel_rfl
theorem p43_2 : Pre 7 43 := fun a b => by kernel_rfl
theorem p43_3 : Pre 8 43 := fun a b => by kernel_rfl
theorem p43_4 : Pre 9 43 := fun a b => by kernel_rfl
theorem p43_5 : Pre 10 43 := fun a b => by kernel_rfl
theorem p43_6 : Pre 11 43 := fun a b => by kernel_rfl
theorem p43_7 : Pre 12 43 := fun a b => by kernel_rfl
theorem p43_8 : Pre 13 43 := fun a b => by kernel_rfl
theorem p43_9 : Pre 14 43 := fun a b => by kernel_rfl
theorem p43_10 : Pre 15 43 := fun a b => by kernel_rfl
theorem p43_11 : Pre 16 43 := fun a b => by kernel_rfl
theorem p43_12 : Pre 17 43 := fun a b => by kernel_rfl
theorem p43_13 : Pre 18 43 := fun a b => by kernel_rfl
theorem p43_14 : Pre 19 43 := fun a b => by kernel_rfl
theorem p43_15 : Pre 20 43 := fun a b => by kernel_rfl
theorem p43_16 : Pre 21 43 := fun a b => by kernel_rfl
theorem p43_17 : Pre 22 43 := fun a b => by kernel_rfl
theorem p43_18 : Pre 23 43 := fun a b => by kernel_rfl
theorem p43_19 : Pre 24 43 := fun a b => by kernel_rfl
theorem p43_20 : Pre 25 43 := fun a b => by kernel_rfl
theorem p43_21 : Pre 26 43 := fun a b => by kernel_rfl
theorem p43_22 : Pre 27 43 := fun a b => by kernel_rfl
theorem p43_23 : Pre 28 43 := fun a b => by kernel_rfl
theorem p43_24 : Pre 29 43 := fun a b => by kernel_rfl
theorem p43_25 : Pre 30 43 := fun a b => by kernel_rfl
theorem p43_26 : Pre 31 43 := fun a b => by kernel_rfl
theorem p43_27 : Pre 32 43 := fun a b => by kernel_rfl
theorem p43_28 : Pre 33 43 := fun a b => by kernel_rfl
theorem p43_29 : Pre 34 43 := fun a b => by kernel_rfl
theorem p43_30 : Pre 35 43 := fun a b => by kernel_rfl
theorem p43_31 : Pre 36 43 := fun a b => by kernel_rfl
theorem p43_32 : Pre 37 43 := fun a b => by kernel_rfl
theorem p43_33 : Pre 38 43 := fun a b => by kernel_rfl
theorem p43_34 : Pre 39 43 := fun a b => by kernel_rfl
theorem p43_35 : Pre 40 43 := fun a b => by kernel_rfl
theorem p43_36 : Pre 41 43 := fun a b => by kernel_rfl
theorem p43_37 : Pre 42 43 := fun a b => by kernel_rfl
theorem p43_38 : Pre 43 43 := fun a b => by kernel_rfl
theorem p43_39 : Pre 44 43 := fun a b => by kernel_rfl
theorem p43_40 : Pre 45 43 := fun a b => by kernel_rfl
theorem p43_41 : Pre 46 43 := fun a b => by kernel_rfl
theorem p43_42 : Pre 47 43 := fun a b => by kernel_rfl
theorem p43_43 : Pre 48 43 := fun a b => by kernel_rfl
theorem p43_44 : Pre 49 43 := fun a b => by kernel_rfl
theorem p43_45 : Pre 50 43 := fun a b => by kernel_rfl
theorem p43_46 : Pre 51 43 := fun a b => by kernel_rfl
theorem p43_47 : Pre 52 43 := fun a b => by kernel_rfl
theorem p43_48 : Pre 53 43 := fun a b => by kernel_rfl
theorem p43_49 : Pre 54 43 := fun a b => by kernel_rfl
theorem p43_50 : Pre 55 43 := fun a b => by kernel_rfl
theorem p43_51 : Pre 56 43 := fun a b => by kernel_rfl
theorem p43_52 : Pre 57 43 := fun a b => by kernel_rfl
theorem p43_53 : Pre 58 43 := fun a b => by kernel_rfl
theorem p43_54 : Pre 59 43 := fun a b => by kernel_rfl
theorem p43_55 : Pre 60 43 := fun a b => by kernel_rfl
theorem p43_56 : Pre 61 43 := fun a b => by kernel_rfl
theorem p43_57 : Pre 62 43 := fun a b => by kernel_rfl
theorem p43_58 : Pre 63 43 := fun a b => by kernel_rfl
theorem p43_59 : Pre 64 43 := fun a b => by kernel_rfl
theorem p43_60 : Pre 65 43 := fun a b => by kernel_rfl
theorem p43_61 : Pre 66 43 := fun a b => by kernel_rfl
theorem p43_62 : Pre 67 43 := fun a b => by kernel_rfl
theorem p43_63 : Pre 68 43 := fun a b => by kernel_rfl
theorem p43_64 : Pre 69 43 := fun a b => by kernel_rfl
theorem p43_65 : Pre 70 43 := fun a b => by kernel_rfl
theorem p43_66 : Pre 71 43 := fun a b => by kernel_rfl
theorem p43_67 : Pre 72 43 := fun a b => by kernel_rfl
theorem p43_68 : Pre 73 43 := fun a b => by kernel_rfl
theorem p43_69 : Pre 74 43 := fun a b => by kernel_rfl
theorem p43_70 : Pre 75 43 := fun a b => by kernel_rfl
theorem p43_71 : Pre 76 43 := fun a b => by kernel_rfl
theorem p43_72 : Pre 77 43 := fun a b => by kernel_rfl
theorem p43_73 : Pre 78 43 := fun a b => by kernel_rfl
theorem p43_74 : Pre 79 43 := fun a b => by kernel_rfl
theorem p43_75 : Pre 80 43 := fun a b => by kernel_rfl
theorem p43_76 : Pre 81 43 := fun a b => by kernel_rfl
theorem p43_77 : Pre 82 43 := fun a b => by kernel_rfl
theorem p43_78 : Pre 83 43 := fun a b => by kernel_rfl
theorem p43_79 : Pre 84 43 := fun a b => by kernel_rfl
theorem p43_80 : Pre 85 43 := fun a b => by kernel_rfl
theorem p43_81 : Pre 86 43 := fun a b => by kernel_rfl
theorem p43_82 : Pre 87 43 := fun a b => by kernel_rfl
theorem p43_83 : Pre 88 43 := fun a b => by kernel_rfl
theorem p43_84 : Pre 89 43 := fun a b => by kernel_rfl
theorem p43_85 : Pre 90 43 := fun a b => by kernel_rfl
theorem p43_86 : Pre 91 43 := fun a b => by kernel_rfl
theorem p43_87 : Pre 92 43 := fun a b => by kernel_rfl
theorem p43_88 : Pre 93 43 := fun a b => by kernel_rfl
theorem p43_89 : Pre 94 43 := fun a b => by kernel_rfl
theorem p45_0 : Pre 5 45 := fun a b => by kernel_rfl
theorem p45_1 : Pre 6 45 := fun a b => by kernel_rfl
theorem p45_2 : Pre 7 45 := fun a b => by kernel_rfl
theorem p45_3 : Pre 8 45 := fun a b => by kernel_rfl
theorem p45_4 : Pre 9 45 := fun a b => by kernel_rfl
theorem p45_5 : Pre 10 45 := fun a b => by kernel_rfl
theorem p45_6 : Pre 11 45 := fun a b => by kernel_rfl
theorem p45_7 : Pre 12 45 := fun a b => by kernel_rfl
theorem p45_8 : Pre 13 45 := fun a b => by kernel_rfl
theorem p45_9 : Pre 14 45 := fun a b => by kernel_rfl
theorem p45_10 : Pre 15 45 := fun a b => by kernel_rfl
theorem p45_11 : Pre 16 45 := fun a b => by kernel_rfl
theorem p45_12 : Pre 17 45 := fun a b => by kernel_rfl
theorem p45_13 : Pre 18 45 := fun a b => by kernel_rfl
theorem p45_14 : Pre 19 45 := fun a b => by kernel_rfl
theorem p45_15 : Pre 20 45 := fun a b => by kernel_rfl
theorem p45_16 : Pre 21 45 := fun a b => by kernel_rfl
theorem p45_17 : Pre 22 45 := fun a b => by kernel_rfl
theorem p45_18 : Pre 23 45 := fun a b => by kernel_rfl
theorem p45_19 : Pre 24 45 := fun a b => by kernel_rfl
theorem p45_20 : Pre 25 45 := fun a b => by kernel_rfl
theorem p45_21 : Pre 26 45 := fun a b => by kernel_rfl
theorem p45_22 : Pre 27 45 := fun a b => by kernel_rfl
theorem p45_23 : Pre 28 45 := fun a b => by kernel_rfl
theorem p45_24 : Pre 29 45 := fun a b => by kernel_rfl
theorem p45_25 : Pre 30 45 := fun a b => by kernel_rfl
theorem p45_26 : Pre 31 45 := fun a b => by kernel_rfl
theorem p45_27 : Pre 32 45 := fun a b => by kernel_rfl
theorem p45_28 : Pre 33 45 := fun a b => by kernel_rfl
theorem p45_29 : Pre 34 45 := fun a b => by kernel_rfl
theorem p45_30 : Pre 35 45 := fun a b => by kernel_rfl
theorem p45_31 : Pre 36 45 := fun a b => by kernel_rfl
theorem p45_32 : Pre 37 45 := fun a b => by kernel_rfl
theorem p45_33 : Pre 38 45 := fun a b => by kernel_rfl
theorem p45_34 : Pre 39 45 := fun a b => by kernel_rfl
theorem p45_35 : Pre 40 45 := fun a b => by kernel_rfl
theorem p45_36 : Pre 41 45 := fun a b => by kernel_rfl
theorem p45_37 : Pre 42 45 := fun a b => by kernel_rfl
theorem p45_38 : Pre 43 45 := fun a b => by kernel_rfl
theorem p45_39 : Pre 44 45 := fun a b => by kernel_rfl
theorem p45_40 : Pre 45 45 := fun a b => by kernel_rfl
theorem p45_41 : Pre 46 45 := fun a b => by kernel_rfl
theorem p45_42 : Pre 47 45 := fun a b => by kernel_rfl
theorem p45_43 : Pre 48 45 := fun a b => by kernel_rfl
theorem p45_44 : Pre 49 45 := fun a b => by kernel_rfl
theorem p45_45 : Pre 50 45 := fun a b => by kernel_rfl
theorem p45_46 : Pre 51 45 := fun a b => by kernel_rfl
theorem p45_47 : Pre 52 45 := fun a b => by kernel_rfl
theorem p45_48 : Pre 53 45 := fun a b => by kernel_rfl
theorem p45_49 : Pre 54 45 := fun a b => by kernel_rfl
theorem p45_50 : Pre 55 45 := fun a b => by kernel_rfl
theorem p45_51 : Pre 56 45 := fun a b => by kernel_rfl
theorem p45_52 : Pre 57 45 := fun a b => by kernel_rfl
theorem p45_53 : Pre 58 45 := fun a b => by kernel_rfl
theorem p45_54 : Pre 59 45 := fun a b => by kernel_rfl
theorem p45_55 : Pre 60 45 := fun a b => by kernel_rfl
theorem p45_56 : Pre 61 45 := fun a b => by kernel_rfl
theorem p45_57 : Pre 62 45 := fun a b => by kernel_rfl
theorem p45_58 : Pre 63 45 := fun a b => by kernel_rfl
theorem p45_59 : Pre 64 45 := fun a b => by kernel_rfl
theorem p45_60 : Pre 65 45 := fun a b => by kernel_rfl
theorem p45_61 : Pre 66 45 := fun a b => by kernel_rfl
theorem p45_62 : Pre 67 45 := fun a b => by kernel_rfl
theorem p45_63 : Pre 68 45 := fun a b => by kernel_rfl
theorem p45_64 : Pre 69 45 := fun a b => by kernel_rfl
theorem p45_65 : Pre 70 45 := fun a b => by kernel_rfl
theorem p45_66 : Pre 71 45 := fun a b => by kernel_rfl
theorem p45_67 : Pre 72 45 := fun a b => by kernel_rfl
theorem p45_68 : Pre 73 45 := fun a b => by kernel_rfl
theorem p45_69 : Pre 74 45 := fun a b => by kernel_rfl
theorem p45_70 : Pre 75 45 := fun a b => by kernel_rfl
theorem p45_71 : Pre 76 45 := fun a b => by kernel_rfl
theorem p45_72 : Pre 77 45 := fun a b => by kernel_rfl
theorem p45_73 : Pre 78 45 := fun a b => by kernel_rfl
theorem p45_74 : Pre 79 45 := fun a b => by kernel_rfl
theorem p45_75 : Pre 80 45 := fun a b => by kernel_rfl
theorem p45_76 : Pre 81 45 := fun a b => by kernel_rfl
theorem p45_77 : Pre 82 45 := fun a b => by kernel_rfl
theorem p45_78 : Pre 83 45 := fun a b => by kernel_rfl
theorem p45_79 : Pre 84 45 := fun a b => by kernel_rfl
theorem p45_80 : Pre 85 45 := fun a b => by kernel_rfl
theorem p45_81 : Pre 86 45 := fun a b => by kernel_rfl
theorem p45_82 : Pre 87 45 := fun a b => by kernel_rfl
theorem p45_83 : Pre 88 45 := fun a b => by kernel_rfl
theorem p45_84 : Pre 89 45 := fun a b => by kernel_rfl
theorem p45_85 : Pre 90 45 := fun a b => by kernel_rfl
theorem p45_86 : Pre 91 45 := fun a b => by kernel_rfl
theorem p45_87 : Pre 92 45 := fun a b => by kernel_rfl
theorem p45_88 : Pre 93 45 := fun a b => by kernel_rfl
theorem p45_89 : Pre 94 45 := fun a b => by kernel_rfl
theorem pre43 : ∀ i : Nat, i < 90 → Pre (5 + (i : Int)) 43
  | 0, _ => p43_0
  | 1, _ => p43_1
  | 2, _ => p43_2
  | 3, _ => p43_3
  | 4, _ => p43_4
  | 5, _ => p43_5
  | 6, _ => p43_6
  | 7, _ => p43_7
  | 8, _ => p43_8
  | 9, _ => p43_9
  | 10, _ => p43_10
  | 11, _ => p43_11
  | 12, _ => p43_12
  | 13, _ => p43_13
  | 14, _ => p43_14
  | 15, _ => p43_15
  | 16, _ => p43_16
  | 17, _ => p43_17
  | 18, _ => p43_18
  | 19, _ => p43_19
  | 20, _ => p43_20
  | 21, _ => p43_21
  | 22, _ => p43_22
  | 23, _ => p43_23
  | 24, _ => p43_24
  | 25, _ => p43_25
  | 26, _ => p43_26
  | 27, _ => p43_27
  | 28, _ => p43_28
  | 29, _ => p43_29
  | 30, _ => p43_30
  | 31, _ => p43_31
  | 32, _ => p43_32
  | 33, _ => p43_33
  | 34, _ => p43_34
  | 35, _ => p43_35
  | 36, _ => p43_36
  | 37, _ => p43_37
  | 38, _ => p43_38
  | 39, _ => p43_39
  | 40, _ => p43_40
  | 41, _ => p43_41
  | 42, _ => p43_42
  | 43, _ => p43_43
  | 44, _ => p43_44
  | 45, _ => p43_45
  | 46, _ => p43_46
  | 47, _ => p43_47
  | 48, _ => p43_48
  | 49, _ => p43_49
  | 50, _ => p43_50
  | 51, _ => p43_51
  | 52, _ => p43_52
  | 53, _ => p43_53
  | 54, _ => p43_54
  | 55, _ => p43_55
  | 56, _ => p43_56
  | 57, _ => p43_57
  | 58, _ => p43_58
  | 59, _ => p43_59
  | 60, _ => p43_60
  | 61, _ => p43_61
  | 62, _ => p43_62
  | 63, _ => p43_63
  | 64, _ => p43_64
  | 65, _ => p43_65
  | 66, _ => p43_66
  | 67, _ => p43_67
  | 68, _ => p43_68
  | 69, _ => p43_69
  | 70, _ => p43_70
  | 71, _ => p43_71
  | 72, _ => p43_72
  | 73, _ => p43_73
  | 74, _ => p43_74
  | 75, _ => p43_75
  | 76, _ => p43_76
  | 77, _ => p43_77
  | 78, _ => p43_78
  | 79, _ => p43_79
  | 80, _ => p43_80
  | 81, _ => p43_81
  | 82, _ => p43_82
  | 83, _ => p43_83
  | 84, _ => p43_84
  | 85, _ => p43_85
  | 86, _ => p43_86
  | 87, _ => p43_87
  | 88, _ => p43_88
  | 89, _ => p43_89
  | i + 90, h => absurd h (by omega)
theorem pre45 : ∀ i : Nat, i < 90 → Pre (5 + (i : Int)) 45
  | 0, _ => p45_0
  | 1, _ => p45_1
  | 2, _ => p45_2
  | 3, _ => p45_3
  | 4, _ => p45_4
  | 5, _ => p45_5
  | 6, _ => p45_6
  | 7, _ => p45_7
  | 8, _ => p45_8
  | 9, _ => p45_9
  | 10, _ => p45_10
  | 11, _ => p45_11
  | 12, _ => p45_12
  | 13, _ => p45_13
  | 14, _ => p45_14
  | 15, _ => p45_15
  | 16, _ => p45_16
  | 17, _ => p45_17
  | 18, _ => p45_18
  | 19, _ => p45_19
  | 20, _ => p45_20
  | 21, _ => p45_21
  | 22, _ => p45_22
  | 23, _ => p45_23
  | 24, _ => p45_24
  | 25, _ => p45_25
  | 26, _ => p45_26
  | 27, _ => p45_27
  | 28, _ => p45_28
  | 29, _ => p45_29
  | 30, _ => p45_30
  | 31, _ => p45_31
  | 32, _ => p45_32
  | 33, _ => p45_33
  | 34, _ => p45_34
  | 35, _ => p45_35
  | 36, _ => p45_36
  | 37, _ => p45_37
  | 38, _ => p45_38
  | 39, _ => p45_39
  | 40, _ => p45_40
  | 41, _ => p45_41
  | 42, _ => p45_42
  | 43, _ => p45_43
  | 44, _ => p45_44
  | 45, _ => p45_45
  | 46, _ => p45_46
  | 47, _ => p45_47
  | 48, _ => p45_48
  | 49, _ => p45_49
  | 50, _ => p45_50
  | 51, _ => p45_51
  | 52, _ => p45_52
  | 53, _ => p45_53
  | 54, _ => p45_54
  | 55, _ => p45_55
  | 56, _ => p45_56
  | 57, _ => p45_57
  | 58, _ => p45_58
  | 59, _ => p45_59
  | 60, _ => p45_60
  | 61, _ => p45_61
  | 62, _ => p45_62
  | 63, _ => p45_63
  | 64, _ => p45_64
  | 65, _ => p45_65
  | 66, _ => p45_66
  | 67, _ => p45_67
  | 68, _ => p45_68
  | 69, _ => p45_69
  | 70, _ => p45_70
  | 71, _ => p45_71
  | 72, _ => p45_72
  | 73, _ => p45_73
  | 74, _ => p45_74
  | 75, _ => p45_75
  | 76, _ => p45_76
  | 77, _ => p45_77
  | 78, _ => p45_78
  | 79, _ => p45_79
  | 80, _ => p45_80
  | 81, _ => p45_81
  | 82, _ => p45_82
  | 83, _ => p45_83
  | 84, _ => p45_84
  | 85, _ => p45_85
  | 86, _ => p45_86
  | 87, _ => p45_87
  | 88, _ => p45_88
  | 89, _ => p45_89
  | i + 90, h => absurd h (by omega)
theorem rest {m : Int} {s : Nat} (hm : 5 ≤ m ∧ m < 95) (hs : s = 43 ∨ s = 45) (a b : Int) : evS (evCall allDefs 20) Llaw_1 (envB m s) ⟨a, b, none⟩ = .nx (envE m s) ⟨a, b, none⟩ := by
  obtain ⟨i, hi⟩ : ∃ i : Nat, m = 5 + (i : Int) := ⟨(m - 5).toNat, by omega⟩
  subst hi
  rw [pre_eq]
  rcases hs with rfl | rfl
  · rw [pre43 i (by omega) a b, o_nx]; exact tl43 _ a b
  · rw [pre45 i (by omega) a b, o_nx]; exact tl45 _ a b
theorem roll_k {d : Dice} {m : Int} : (roll d m).2.k = d.k := by
  unfold roll
  split <;> rfl
theorem lawS_ok : ∀ z : Int, ∃ env2 d2, evS (evCall allDefs 20) lawS (env0 lawNs.length) ⟨z, 0, none⟩ = .nx env2 d2 ∧ env2.length = lawNs.length := by
  intro z
  have b1 := roll_bd (m := 90) (d := ⟨z, 0, none⟩) (by decide)
  have r1 : evCall allDefs 20 8 [.die, .int 90] ⟨z, 0, none⟩ = .ok (.int (roll ⟨z, 0, none⟩ 90).1) (roll ⟨z, 0, none⟩ 90).2 := c_roll (k := 18) (by decide) (by decide)
  have k1 : (roll ⟨z, 0, none⟩ 90).2.k = none := roll_k
  generalize (roll ⟨z, 0, none⟩ 90).2 = d1 at r1 k1
  generalize (roll ⟨z, 0, none⟩ 90).1 = m at r1 b1
  have b2 := roll_bd (m := 2) (d := d1) (by decide)
  have r2 : evCall allDefs 20 8 [.die, .int 2] d1 = .ok (.int (roll d1 2).1) (roll d1 2).2 := c_roll (k := 18) (by decide) (by decide)
  have k2 : (roll d1 2).2.k = none := roll_k.trans k1
  generalize (roll d1 2).2 = d2 at r2 k2
  generalize (roll d1 2).1 = q at r2 b2
  obtain ⟨s, hs, ix⟩ : ∃ s, (s = 43 ∨ s = 45) ∧ opIx (.str [43, 45]) (.int q) = some (.str [s]) := by
    rcases (show q = 0 ∨ q = 1 by omega) with rfl | rfl
    · exact ⟨43, .inl rfl, rfl⟩
    · exact ⟨45, .inr rfl, rfl⟩
  have e0 : env0 lawNs.length = [.no, .sh .die, .no, .no, .no, .no, .no, .no, .no] := rfl
  obtain ⟨a, b, kk⟩ := d2
  cases k2
  have rs := rest (m := 5 + m) (s := s) (by omega) hs a b
  refine ⟨envE (5 + m) s, ⟨a, b, none⟩, ?_, rfl⟩
  rw [← rs, e0]
  unfold lawS
  simp only [onB_some, onD_bl, onI_int, onO_some, r_bind, r_err, r_of, r_noerr, r_out, r_oute, o_er, o_rese, told_ok, told_0, told_1, told_2, told_3, told_4, told_5, told_6, told_7, told_8, told_9, told_10, o_nx, o_rt, o_res, o_resn, o_ofE, t_bl, t_int, tups_t, i_lst, i_tup, i_str, put0, putS, get0, getS, getO0, getOS, wipe_nil, wipe_cons, c_lt, c_gt, c_le, c_ge, c_eqI, c_neI, c_eqS, c_neS, c_eqB, c_neB, b_add, b_sub, x_len1, x_len2, x_tup1, x_tup2, x_lst1, x_abs, x_all, x_any, e_nil, e_cons, e_var, e_non, e_bl, e_int, e_str, e_tup, e_lst, e_bin, e_neg, e_cmp, e_chain, e_isn, e_and, e_or, e_and3, e_or3, e_not, e_ite, ifE_t, ifE_f, ifS_t, ifS_f, thenS_nx, thenS_er, thenS_rt, forS_nil, e_call, e_bi, e_isi, e_meth, e_ix, e_sl, e_rng1, e_enum, e_zip, e_lc, e_lcif, e_told, s_rse, s_nil', s_seq, s_set, s_own', s_par, s_parO, s_par3, s_frz, s_app, s_ret, s_ifs, s_fors, s_whl, s_ex, a_var, startE, List.map_cons, List.map_nil, List.length_cons, List.length_nil, List.cons_append, List.nil_append, List.append_nil, Nat.reduceAdd, Nat.reduceSub, Nat.zero_add, Nat.sub_self, List.replicate_zero, List.replicate_succ, Option.map_some, Option.bind_some, List.set_cons_zero, List.set_cons_succ, decide_true, decide_false, if_true, if_false, Bool.not_true, Bool.not_false, Bool.true_and, Bool.false_and, Bool.and_true, Bool.and_false, Bool.true_or, Bool.false_or, reduceIte, Bool.false_eq_true, eq_self, ne_eq, not_true_eq_false, not_false_eq_true, Bool.true_eq_false, List.length_map, List.length_range, List.length_append, e_rng2, e_trng, e_lenum, e_dget, e_dgets, e_rev, onS_str, a_tup, a_nil, a_cons, pt1, pt2, pt3, pt4, r1, r2, ix, envB]
end SG
namespace SG
open PySem PySem.Spec PyProof.Rows L2
theorem b0 : BindOk t0.nm t0.st (t0.N.take t0.df.ps) := fun _ _ _ _ _ _ us hl => match us, hl with | [_, _], _ => rfl
theorem b1 : BindOk t1.nm t1.st (t1.N.take t1.df.ps) := fun _ _ _ _ _ _ us hl => match us, hl with | [_], _ => rfl
theorem b2 : BindOk t2.nm t2.st (t2.N.take t2.df.ps) := fun _ _ _ _ _ _ us hl => match us, hl with | [_], _ => rfl
theorem b7 : BindOk t7.nm t7.st (t7.N.take t7.df.ps) := fun _ _ _ _ _ _ us hl => match us, hl with | [_, _], _ => rfl
theorem b8 : BindOk t8.nm t8.st (t8.N.take t8.df.ps) := fun _ _ _ _ _ _ us hl => match us, hl with | [_, _], _ => rfl
theorem b13 : BindOk t13.nm t13.st (t13.N.take t13.df.ps) := fun _ _ _ _ _ _ us hl => match us, hl with | [_], _ => rfl
theorem b26 : BindOk t26.nm t26.st (t26.N.take t26.df.ps) := fun _ _ _ _ _ _ us hl => match us, hl with | [_], _ => rfl
theorem b27 : BindOk t27.nm t27.st (t27.N.take t27.df.ps) := fun _ _ _ _ _ _ us hl => match us, hl with | [_], _ => rfl
theorem b28 : BindOk t28.nm t28.st (t28.N.take t28.df.ps) := fun _ _ _ _ _ _ us hl => match us, hl with | [_], _ => rfl
theorem b29 : BindOk t29.nm t29.st (t29.N.take t29.df.ps) := fun _ _ _ _ _ _ us hl => match us, hl with | [_], _ => rfl
theorem b30 : BindOk t30.nm t30.st (t30.N.take t30.df.ps) := fun _ _ _ _ _ _ us hl => match us, hl with | [_, _, _], _ => rfl
theorem b31 : BindOk t31.nm t31.st (t31.N.take t31.df.ps) := fun _ _ _ _ _ _ us hl => match us, hl with | [_], _ => rfl
theorem b32 : BindOk t32.nm t32.st (t32.N.take t32.df.ps) := fun _ _ _ _ _ _ us hl => match us, hl with | [_], _ => rfl
theorem b33 : BindOk t33.nm t33.st (t33.N.take t33.df.ps) := fun _ _ _ _ _ _ us hl => match us, hl with | [_], _ => rfl
theorem b34 : BindOk t34.nm t34.st (t34.N.take t34.df.ps) := fun _ _ _ _ _ _ us hl => match us, hl with | [_], _ => rfl
theorem b35 : BindOk t35.nm t35.st (t35.N.take t35.df.ps) := fun _ _ _ _ _ _ us hl => match us, hl with | [_], _ => rfl
theorem b67 : BindOk t67.nm t67.st (t67.N.take t67.df.ps) := fun _ _ _ _ _ _ us hl => match us, hl with | [_, _, _], _ => rfl
theorem b89 : BindOk t89.nm t89.st (t89.N.take t89.df.ps) := fun _ _ _ _ _ _ us hl => match us, hl with | [_], _ => rfl
theorem b90 : BindOk t90.nm t90.st (t90.N.take t90.df.ps) := fun _ _ _ _ _ _ us hl => match us, hl with | [_, _], _ => rfl
theorem b95 : BindOk t95.nm t95.st (t95.N.take t95.df.ps) := fun _ _ _ _ _ _ us hl => match us, hl with | [_, _], _ => rfl
theorem b97 : BindOk t97.nm t97.st (t97.N.take t97.df.ps) := fun _ _ _ _ _ _ us hl => match us, hl with | [_, _], _ => rfl
theorem b101 : BindOk t101.nm t101.st (t101.N.take t101.df.ps) := fun _ _ _ _ _ _ us hl => match us, hl with | [_], _ => rfl
theorem b104 : BindOk t104.nm t104.st (t104.N.take t104.df.ps) := fun _ _ _ _ _ _ us hl => match us, hl with | [_], _ => rfl
theorem b106 : BindOk t106.nm t106.st (t106.N.take t106.df.ps) := fun _ _ _ _ _ _ us hl => match us, hl with | [_, _], _ => rfl
theorem b107 : BindOk t107.nm t107.st (t107.N.take t107.df.ps) := fun _ _ _ _ _ _ us hl => match us, hl with | [_], _ => rfl
theorem b118 : BindOk t118.nm t118.st (t118.N.take t118.df.ps) := fun _ _ _ _ _ _ us hl => match us, hl with | [_], _ => rfl
theorem b127 : BindOk t127.nm t127.st (t127.N.take t127.df.ps) := fun _ _ _ _ _ _ us hl => match us, hl with | [_], _ => rfl
theorem b129 : BindOk t129.nm t129.st (t129.N.take t129.df.ps) := fun _ _ _ _ _ _ us hl => match us, hl with | [_, _, _, _], _ => rfl
theorem b131 : BindOk t131.nm t131.st (t131.N.take t131.df.ps) := fun _ _ _ _ _ _ us hl => match us, hl with | [_, _], _ => rfl
theorem tab_bd : ∀ p ∈ tab, BindOk p.2.nm p.2.st (p.2.N.take p.2.df.ps) := by
  intro p hp
  simp only [tab, List.mem_cons, List.not_mem_nil, or_false] at hp
  rcases hp with rfl | rfl | rfl | rfl | rfl | rfl | rfl | rfl | rfl | rfl | rfl | rfl | rfl | rfl | rfl | rfl | rfl | rfl | rfl | rfl | rfl | rfl | rfl | rfl | rfl | rfl | rfl | rfl | rfl
  · exact b0
  · exact b1
  · exact b2
  · exact b7
  · exact b8
  · exact b13
  · exact b26
  · exact b27
  · exact b28
  · exact b29
  · exact b30
  · exact b31
  · exact b32
  · exact b33
  · exact b34
  · exact b35
  · exact b67
  · exact b89
  · exact b90
  · exact b95
  · exact b97
  · exact b101
  · exact b104
  · exact b106
  · exact b107
  · exact b118
  · exact b127
  · exact b129
  · exact b131
theorem bLaw : BindOk "law" sLaw ["script"] := fun _ _ _ _ _ _ us hl => match us, hl with | [_], _ => rfl
theorem bCell : BindOk "_law_cell" sCell cellN := fun _ _ _ _ _ _ us hl => match us, hl with | [_, _], _ => rfl
theorem bRounds : BindOk "_law_rounds" sRounds ["script", "most"] := fun _ _ _ _ _ _ us hl => match us, hl with | [_, _], _ => rfl
theorem fin_at {K : PySem.W.Frag} (q0 : FnAt K "are_signs" (topS 16)) (q1 : FnAt K "is_table" (topS 17)) (q2 : FnAt K "need_table" (topS 18)) (q7 : FnAt K "_law_drawn" (topS 61)) (q8 : FnAt K "_law_roll" (topS 62)) (q13 : FnAt K "is_number" (topS 14)) (q26 : FnAt K "need_square" (topS 19)) (q27 : FnAt K "value_of" (topS 22)) (q28 : FnAt K "exchanges" (topS 26)) (q29 : FnAt K "turn_sign" (topS 27)) (q30 : FnAt K "changed" (topS 28)) (q31 : FnAt K "all_terms" (topS 29)) (q32 : FnAt K "need_all" (topS 30)) (q33 : FnAt K "terms" (topS 31)) (q34 : FnAt K "kind_of" (topS 32)) (q35 : FnAt K "kind" (topS 33)) (q67 : FnAt K "is_whole" (topS 15)) (q89 : FnAt K "need_always" (topS 35)) (q90 : FnAt K "need_right" (topS 36)) (q95 : FnAt K "solution_signs" (topS 41)) (q97 : FnAt K "need_column" (topS 21)) (q101 : FnAt K "inverse_signs" (topS 42)) (q104 : FnAt K "positive_cycle" (topS 54)) (q106 : FnAt K "need_row" (topS 20)) (q107 : FnAt K "need_sign" (topS 44)) (q118 : FnAt K "least_copy" (topS 48)) (q127 : FnAt K "parse_table" (topS 58)) (q129 : FnAt K "with_sign" (topS 45)) (q131 : FnAt K "_law_alone" (topS 65)) : ∀ p ∈ tab, FnAt K p.2.nm p.2.st := by
  intro p hp
  simp only [tab, List.mem_cons, List.not_mem_nil, or_false] at hp
  rcases hp with rfl | rfl | rfl | rfl | rfl | rfl | rfl | rfl | rfl | rfl | rfl | rfl | rfl | rfl | rfl | rfl | rfl | rfl | rfl | rfl | rfl | rfl | rfl | rfl | rfl | rfl | rfl | rfl | rfl
  · exact q0
  · exact q1
  · exact q2
  · exact q7
  · exact q8
  · exact q13
  · exact q26
  · exact q27
  · exact q28
  · exact q29
  · exact q30
  · exact q31
  · exact q32
  · exact q33
  · exact q34
  · exact q35
  · exact q67
  · exact q89
  · exact q90
  · exact q95
  · exact q97
  · exact q101
  · exact q104
  · exact q106
  · exact q107
  · exact q118
  · exact q127
  · exact q129
  · exact q131
theorem fin_blt {K : PySem.W.Frag} (z_len : PySem.W.nsIn K mainGlobals "len" = some none) (z_all : PySem.W.nsIn K mainGlobals "all" = some none) (z_any : PySem.W.nsIn K mainGlobals "any" = some none) (z_sum : PySem.W.nsIn K mainGlobals "sum" = some none) (z_min : PySem.W.nsIn K mainGlobals "min" = some none) (z_max : PySem.W.nsIn K mainGlobals "max" = some none) (z_sorted : PySem.W.nsIn K mainGlobals "sorted" = some none) (z_tuple : PySem.W.nsIn K mainGlobals "tuple" = some none) (z_list : PySem.W.nsIn K mainGlobals "list" = some none) (z_abs : PySem.W.nsIn K mainGlobals "abs" = some none) (z_int : PySem.W.nsIn K mainGlobals "int" = some none) (z_isinstance : PySem.W.nsIn K mainGlobals "isinstance" = some none) (z_str : PySem.W.nsIn K mainGlobals "str" = some none) (z_bool : PySem.W.nsIn K mainGlobals "bool" = some none) (z_range : PySem.W.nsIn K mainGlobals "range" = some none) (z_enumerate : PySem.W.nsIn K mainGlobals "enumerate" = some none) (z_zip : PySem.W.nsIn K mainGlobals "zip" = some none) (z_set : PySem.W.nsIn K mainGlobals "set" = some none) : ∀ x ∈ bltNames, PySem.W.nsIn K mainGlobals (Str.ofString x) = some none := by
  intro p hp
  simp only [bltNames, List.mem_cons, List.not_mem_nil, or_false] at hp
  rcases hp with rfl | rfl | rfl | rfl | rfl | rfl | rfl | rfl | rfl | rfl | rfl | rfl | rfl | rfl | rfl | rfl | rfl | rfl
  · exact z_len
  · exact z_all
  · exact z_any
  · exact z_sum
  · exact z_min
  · exact z_max
  · exact z_sorted
  · exact z_tuple
  · exact z_list
  · exact z_abs
  · exact z_int
  · exact z_isinstance
  · exact z_str
  · exact z_bool
  · exact z_range
  · exact z_enumerate
  · exact z_zip
  · exact z_set
theorem bMet : BindOk "_law_met" sMet ["deed"] := fun _ _ _ _ _ _ us hl => match us, hl with | [_], _ => rfl
theorem bInit : BindQ "__init__" sInit initN := fun _ _ _ _ _ _ _ us hl => match us, hl with | [_, _], _ => rfl
theorem b901 : BindQ t901.nm t901.st (t901.N.take t901.df.ps) := fun _ _ _ _ _ _ _ us hl => match us, hl with | [_, _, _, _], _ => rfl
theorem b903 : BindQ t903.nm t903.st (t903.N.take t903.df.ps) := fun _ _ _ _ _ _ _ us hl => match us, hl with | [_], _ => rfl
theorem tm_bd : ∀ p ∈ tm, BindQ p.2.nm p.2.st (p.2.N.take p.2.df.ps) := by
  intro p hp
  simp only [tm, List.mem_cons, List.not_mem_nil, or_false] at hp
  rcases hp with rfl | rfl
  · exact b901
  · exact b903
theorem fin_mt {K : PySem.W.Frag} {dk : Addr} (q901 : MtAt K dk "put" t901.st) (q903 : MtAt K dk "redo" t903.st) : ∀ p ∈ tm, MtAt K dk p.2.nm p.2.st := by
  intro p hp
  simp only [tm, List.mem_cons, List.not_mem_nil, or_false] at hp
  rcases hp with rfl | rfl
  · exact q901
  · exact q903
theorem fin_nm {K : PySem.W.Frag} {c0 c1 c2 c3 c4 c5 c6 c7 c8 c9 c10 : Addr} (n0 : PySem.W.nsIn K mainGlobals "InvalidTable" = some (some (.ref c0))) (n1 : PySem.W.nsIn K mainGlobals "InvalidRight" = some (some (.ref c1))) (n2 : PySem.W.nsIn K mainGlobals "InvalidPlace" = some (some (.ref c2))) (n3 : PySem.W.nsIn K mainGlobals "InvalidSign" = some (some (.ref c3))) (n4 : PySem.W.nsIn K mainGlobals "InvalidText" = some (some (.ref c4))) (n5 : PySem.W.nsIn K mainGlobals "NotSquare" = some (some (.ref c5))) (n6 : PySem.W.nsIn K mainGlobals "NotInvertible" = some (some (.ref c6))) (n7 : PySem.W.nsIn K mainGlobals "NotNegative" = some (some (.ref c7))) (n8 : PySem.W.nsIn K mainGlobals "TooLarge" = some (some (.ref c8))) (n9 : PySem.W.nsIn K mainGlobals "Unchanged" = some (some (.ref c9))) (n10 : PySem.W.nsIn K mainGlobals "NothingToUndo" = some (some (.ref c10))) : ∀ j nm, errN[j]? = some nm → PySem.W.nsIn K mainGlobals nm = some (some (.ref (([c0, c1, c2, c3, c4, c5, c6, c7, c8, c9, c10] : List Addr).getD j 0))) := by
  intro j nm h
  match j, h with
  | 0, h => cases h; exact n0
  | 1, h => cases h; exact n1
  | 2, h => cases h; exact n2
  | 3, h => cases h; exact n3
  | 4, h => cases h; exact n4
  | 5, h => cases h; exact n5
  | 6, h => cases h; exact n6
  | 7, h => cases h; exact n7
  | 8, h => cases h; exact n8
  | 9, h => cases h; exact n9
  | 10, h => cases h; exact n10
  | j + 11, h => simp [errN] at h
theorem fin_law {l : PySem.W.OpenLaw} {w : World} {K : PySem.W.Frag} {h : Heap} {mg : Str → Option Value} {fa f CS dk c0 c1 c2 c3 c4 c5 c6 c7 c8 c9 c10 : Addr} {oc : Value} {od an : Option Addr} {kV doc pm cdv ct : Value} {osl : Array (Option Value)} (KX : K.In h) (G : h.Ns mainGlobals mg) (hfa : mg "law" = some (.ref fa)) (OT : LamX.OwnTab K fa h) (q0 : FnAt K "are_signs" (topS 16)) (q1 : FnAt K "is_table" (topS 17)) (q2 : FnAt K "need_table" (topS 18)) (q7 : FnAt K "_law_drawn" (topS 61)) (q8 : FnAt K "_law_roll" (topS 62)) (q13 : FnAt K "is_number" (topS 14)) (q26 : FnAt K "need_square" (topS 19)) (q27 : FnAt K "value_of" (topS 22)) (q28 : FnAt K "exchanges" (topS 26)) (q29 : FnAt K "turn_sign" (topS 27)) (q30 : FnAt K "changed" (topS 28)) (q31 : FnAt K "all_terms" (topS 29)) (q32 : FnAt K "need_all" (topS 30)) (q33 : FnAt K "terms" (topS 31)) (q34 : FnAt K "kind_of" (topS 32)) (q35 : FnAt K "kind" (topS 33)) (q67 : FnAt K "is_whole" (topS 15)) (q89 : FnAt K "need_always" (topS 35)) (q90 : FnAt K "need_right" (topS 36)) (q95 : FnAt K "solution_signs" (topS 41)) (q97 : FnAt K "need_column" (topS 21)) (q101 : FnAt K "inverse_signs" (topS 42)) (q104 : FnAt K "positive_cycle" (topS 54)) (q106 : FnAt K "need_row" (topS 20)) (q107 : FnAt K "need_sign" (topS 44)) (q118 : FnAt K "least_copy" (topS 48)) (q127 : FnAt K "parse_table" (topS 58)) (q129 : FnAt K "with_sign" (topS 45)) (q131 : FnAt K "_law_alone" (topS 65))
    (aL : PySem.W.nsIn K mainGlobals "law" = some (some (.ref f))) (lL : K.lookup f = some ⟨oc, od, .func (PySem.W.fnOf "law" "law" (defArgs sLaw) (defBody sLaw) (defScope sLaw) .none kV doc pm an cdv ct), osl⟩) (cL : PySem.W.codeIn K cdv "law" = true) (kL : PySem.W.keepIn K (.ref f) = true)
    (hcd : PySem.W.codeHdIn K (codeOf K f) (tabOf K (codeOf K f)) = true) (hnP : K.lookup (tabOf K (codeOf K f)) = none)
    (qC : FnAt K "_law_cell" sCell) (qR : FnAt K "_law_rounds" sRounds) (qM : FnAt K "_law_met" sMet) (hDk : PySem.W.nsIn K mainGlobals "Desk" = some (some (.ref dk))) (qI : MtAt K dk "__init__" sInit) (q901 : MtAt K dk "put" t901.st) (q903 : MtAt K dk "redo" t903.st) (z_len : PySem.W.nsIn K mainGlobals "len" = some none) (z_all : PySem.W.nsIn K mainGlobals "all" = some none) (z_any : PySem.W.nsIn K mainGlobals "any" = some none) (z_sum : PySem.W.nsIn K mainGlobals "sum" = some none) (z_min : PySem.W.nsIn K mainGlobals "min" = some none) (z_max : PySem.W.nsIn K mainGlobals "max" = some none) (z_sorted : PySem.W.nsIn K mainGlobals "sorted" = some none) (z_tuple : PySem.W.nsIn K mainGlobals "tuple" = some none) (z_list : PySem.W.nsIn K mainGlobals "list" = some none) (z_abs : PySem.W.nsIn K mainGlobals "abs" = some none) (z_int : PySem.W.nsIn K mainGlobals "int" = some none) (z_isinstance : PySem.W.nsIn K mainGlobals "isinstance" = some none) (z_str : PySem.W.nsIn K mainGlobals "str" = some none) (z_bool : PySem.W.nsIn K mainGlobals "bool" = some none) (z_range : PySem.W.nsIn K mainGlobals "range" = some none) (z_enumerate : PySem.W.nsIn K mainGlobals "enumerate" = some none) (z_zip : PySem.W.nsIn K mainGlobals "zip" = some none) (z_set : PySem.W.nsIn K mainGlobals "set" = some none) (zV : PySem.W.nsIn K mainGlobals "ValueError" = some none) (hS : PySem.W.nsIn K mainGlobals "SignError" = some (some (.ref CS))) (n0 : PySem.W.nsIn K mainGlobals "InvalidTable" = some (some (.ref c0))) (n1 : PySem.W.nsIn K mainGlobals "InvalidRight" = some (some (.ref c1))) (n2 : PySem.W.nsIn K mainGlobals "InvalidPlace" = some (some (.ref c2))) (n3 : PySem.W.nsIn K mainGlobals "InvalidSign" = some (some (.ref c3))) (n4 : PySem.W.nsIn K mainGlobals "InvalidText" = some (some (.ref c4))) (n5 : PySem.W.nsIn K mainGlobals "NotSquare" = some (some (.ref c5))) (n6 : PySem.W.nsIn K mainGlobals "NotInvertible" = some (some (.ref c6))) (n7 : PySem.W.nsIn K mainGlobals "NotNegative" = some (some (.ref c7))) (n8 : PySem.W.nsIn K mainGlobals "TooLarge" = some (some (.ref c8))) (n9 : PySem.W.nsIn K mainGlobals "Unchanged" = some (some (.ref c9))) (n10 : PySem.W.nsIn K mainGlobals "NothingToUndo" = some (some (.ref c10))) (hcB : clsB K CS [c0, c1, c2, c3, c4, c5, c6, c7, c8, c9, c10] = true) (dB : deskB K dk = true) :
    LamX.LawAtS l w K (L2N.CX l.prog w) 24 63 "script" mg fa h :=
  finM (k := 18) KX G hfa OT tab_ok tab_defs tab_bd (fin_at q0 q1 q2 q7 q8 q13 q26 q27 q28 q29 q30 q31 q32 q33 q34 q35 q67 q89 q90 q95 q97 q101 q104 q106 q107 q118 q127 q129 q131) tm_ok tm_defs tm_bd tm_nf (fin_mt q901 q903) hnt rfl aL lL cL kL hcd hnP qC qR qM qI bLaw bCell bRounds bMet bInit (fin_blt z_len z_all z_any z_sum z_min z_max z_sorted z_tuple z_list z_abs z_int z_isinstance z_str z_bool z_range z_enumerate z_zip z_set) zV hS (fin_nm n0 n1 n2 n3 n4 n5 n6 n7 n8 n9 n10) hcB hDk dB law_sc rfl rfl law_is law_ch cell_sc cell_is cell_len rounds_sc rounds_is met_sc met_is init_sc init_is lawS_ok
end SG
open PySem PySem.W PyProof.Rows
set_option maxHeartbeats 0 in
theorem PySem.Challenge.cw_signgrids_k21_errors_apart_holds : PySem.Challenge.rw_signgrids_k21_errors_apart.Holds := by
  w_on; o_law; k_head; (case hw => w_witness2)
  k_fill
  refine LamX.walk_ofOwn (l := PySem.Challenge.rw_signgrids_k21_errors_apart) (n := 63) (k := 24) (x := "script") (CX := fun w => L2N.CX PySem.Challenge.rw_signgrids_k21_errors_apart.prog w) rfl (by decide) rfl ⟨rfl, by decide, by decide⟩ (by decide +kernel) (fun w h Y => PySem.W.km_in_of Y) ?F (fun _ _ _ _ _ h => SG.cx_no h)
  case F =>
    intro w mg fa h Y KX G hmg OT
    refine' SG.fin_law KX G hmg OT ?q0 ?q1 ?q2 ?q7 ?q8 ?q13 ?q26 ?q27 ?q28 ?q29 ?q30 ?q31 ?q32 ?q33 ?q34 ?q35 ?q67 ?q89 ?q90 ?q95 ?q97 ?q101 ?q104 ?q106 ?q107 ?q118 ?q127 ?q129 ?q131 ?aL ?lL ?cL ?kL ?hcd ?hnP ?qC ?qR ?qM ?hDk ?qI ?q901 ?q903 ?z_len ?z_all ?z_any ?z_sum ?z_min ?z_max ?z_sorted ?z_tuple ?z_list ?z_abs ?z_int ?z_isinstance ?z_str ?z_bool ?z_range ?z_enumerate ?z_zip ?z_set ?zV ?hS ?n0 ?n1 ?n2 ?n3 ?n4 ?n5 ?n6 ?n7 ?n8 ?n9 ?n10 ?hcB ?dB
    (case q0 => refine' SG.at_mk ?a ?l ?c ?k; (case a => k_is); (case l => k_is); (case c => k_is); (case k => k_is))
    (case q1 => refine' SG.at_mk ?a ?l ?c ?k; (case a => k_is); (case l => k_is); (case c => k_is); (case k => k_is))
    (case q2 => refine' SG.at_mk ?a ?l ?c ?k; (case a => k_is); (case l => k_is); (case c => k_is); (case k => k_is))
    (case q7 => refine' SG.at_mk ?a ?l ?c ?k; (case a => k_is); (case l => k_is); (case c => k_is); (case k => k_is))
    (case q8 => refine' SG.at_mk ?a ?l ?c ?k; (case a => k_is); (case l => k_is); (case c => k_is); (case k => k_is))
    (case q13 => refine' SG.at_mk ?a ?l ?c ?k; (case a => k_is); (case l => k_is); (case c => k_is); (case k => k_is))
    (case q26 => refine' SG.at_mk ?a ?l ?c ?k; (case a => k_is); (case l => k_is); (case c => k_is); (case k => k_is))
    (case q27 => refine' SG.at_mk ?a ?l ?c ?k; (case a => k_is); (case l => k_is); (case c => k_is); (case k => k_is))
    (case q28 => refine' SG.at_mk ?a ?l ?c ?k; (case a => k_is); (case l => k_is); (case c => k_is); (case k => k_is))
    (case q29 => refine' SG.at_mk ?a ?l ?c ?k; (case a => k_is); (case l => k_is); (case c => k_is); (case k => k_is))
    (case q30 => refine' SG.at_mk ?a ?l ?c ?k; (case a => k_is); (case l => k_is); (case c => k_is); (case k => k_is))
    (case q31 => refine' SG.at_mk ?a ?l ?c ?k; (case a => k_is); (case l => k_is); (case c => k_is); (case k => k_is))
    (case q32 => refine' SG.at_mk ?a ?l ?c ?k; (case a => k_is); (case l => k_is); (case c => k_is); (case k => k_is))
    (case q33 => refine' SG.at_mk ?a ?l ?c ?k; (case a => k_is); (case l => k_is); (case c => k_is); (case k => k_is))
    (case q34 => refine' SG.at_mk ?a ?l ?c ?k; (case a => k_is); (case l => k_is); (case c => k_is); (case k => k_is))
    (case q35 => refine' SG.at_mk ?a ?l ?c ?k; (case a => k_is); (case l => k_is); (case c => k_is); (case k => k_is))
    (case q67 => refine' SG.at_mk ?a ?l ?c ?k; (case a => k_is); (case l => k_is); (case c => k_is); (case k => k_is))
    (case q89 => refine' SG.at_mk ?a ?l ?c ?k; (case a => k_is); (case l => k_is); (case c => k_is); (case k => k_is))
    (case q90 => refine' SG.at_mk ?a ?l ?c ?k; (case a => k_is); (case l => k_is); (case c => k_is); (case k => k_is))
    (case q95 => refine' SG.at_mk ?a ?l ?c ?k; (case a => k_is); (case l => k_is); (case c => k_is); (case k => k_is))
    (case q97 => refine' SG.at_mk ?a ?l ?c ?k; (case a => k_is); (case l => k_is); (case c => k_is); (case k => k_is))
    (case q101 => refine' SG.at_mk ?a ?l ?c ?k; (case a => k_is); (case l => k_is); (case c => k_is); (case k => k_is))
    (case q104 => refine' SG.at_mk ?a ?l ?c ?k; (case a => k_is); (case l => k_is); (case c => k_is); (case k => k_is))
    (case q106 => refine' SG.at_mk ?a ?l ?c ?k; (case a => k_is); (case l => k_is); (case c => k_is); (case k => k_is))
    (case q107 => refine' SG.at_mk ?a ?l ?c ?k; (case a => k_is); (case l => k_is); (case c => k_is); (case k => k_is))
    (case q118 => refine' SG.at_mk ?a ?l ?c ?k; (case a => k_is); (case l => k_is); (case c => k_is); (case k => k_is))
    (case q127 => refine' SG.at_mk ?a ?l ?c ?k; (case a => k_is); (case l => k_is); (case c => k_is); (case k => k_is))
    (case q129 => refine' SG.at_mk ?a ?l ?c ?k; (case a => k_is); (case l => k_is); (case c => k_is); (case k => k_is))
    (case q131 => refine' SG.at_mk ?a ?l ?c ?k; (case a => k_is); (case l => k_is); (case c => k_is); (case k => k_is))
    (case qC => refine' SG.at_mk ?a ?l ?c ?k; (case a => k_is); (case l => k_is); (case c => k_is); (case k => k_is))
    (case qR => refine' SG.at_mk ?a ?l ?c ?k; (case a => k_is); (case l => k_is); (case c => k_is); (case k => k_is))
    (case qM => refine' SG.at_mk ?a ?l ?c ?k; (case a => k_is); (case l => k_is); (case c => k_is); (case k => k_is))
    (case hDk => k_is)
    (case qI => refine' SG.mt_mk ?a ?l ?c ?k ?i; (case a => k_is); (case l => k_is); (case c => k_is); (case k => k_is); (case i => k_is))
    (case q901 => refine' SG.mt_mk ?a ?l ?c ?k ?i; (case a => k_is); (case l => k_is); (case c => k_is); (case k => k_is); (case i => k_is))
    (case q903 => refine' SG.mt_mk ?a ?l ?c ?k ?i; (case a => k_is); (case l => k_is); (case c => k_is); (case k => k_is); (case i => k_is))
    (case aL => k_is)
    (case lL => k_is)
    (case cL => k_is)
    (case kL => k_is)
    (case hcd => kernel_rfl)
    (case hnP => kernel_rfl)
    (case z_len => k_is)
    (case z_all => k_is)
    (case z_any => k_is)
    (case z_sum => k_is)
    (case z_min => k_is)
    (case z_max => k_is)
    (case z_sorted => k_is)
    (case z_tuple => k_is)
    (case z_list => k_is)
    (case z_abs => k_is)
    (case z_int => k_is)
    (case z_isinstance => k_is)
    (case z_str => k_is)
    (case z_bool => k_is)
    (case z_range => k_is)
    (case z_enumerate => k_is)
    (case z_zip => k_is)
    (case z_set => k_is)
    (case zV => k_is)
    (case hS => k_is)
    (case n0 => k_is)
    (case n1 => k_is)
    (case n2 => k_is)
    (case n3 => k_is)
    (case n4 => k_is)
    (case n5 => k_is)
    (case n6 => k_is)
    (case n7 => k_is)
    (case n8 => k_is)
    (case n9 => k_is)
    (case n10 => k_is)
    (case hcB => kernel_rfl)
    (case dB => kernel_rfl)
