import PyProof.Rows.All
import Wide.All
import OpenK.AllK
import Wide.FinOn
import PyProof.P3Statements
import PyProof.EqLayable
import KE.LtData
import KE.SortKeyed
import HandS.ForMost
import HandS.Deep
import HandS.TupAny
import HandS.TupMul
import HandS.IsInst
import HandS.SetFor
import HandS.WordsDict
import HandS.Conv
import KE.SortData
import KE.KTupSum
import HandS.Strs
import HandS.Iter
import KE.GoesEnum
import HandS.Words
import HandS.Defaults
import HandS.Head0
import HandS.Head1
import HandS.Head2
import HandS.HeadEnd
import HandS.HeadHook1
import HandS.HeadHook2
import HandS.TupSets
import KE.DataMinMax
import HandS.Style
import HandS.Star
import PySem.Challenge.RW_introducers_k36_whole_must_call
set_option Elab.async false
set_option autoImplicit false
set_option linter.all false
/-! A small evaluator of the part of Python in which the program and its laws are written: values are trees, a list (or dict) is held by one slot; nothing of the heap. -/
namespace Ev
open PySem
/-- a value of a slot or a temporary: told data, or a list, a dict that is held alone -/
inductive R where
  | val (p : PyData)
  | lst (rs : List R)
  | dct (kvs : List (PyData × R))
  deriving Inhabited
mutual
def fro : R → PyData
  | .val p => p
  | .lst rs => .list (froAll rs)
  | .dct kvs => .dict (froKvs kvs)
def froAll : List R → List PyData
  | [] => []
  | r :: rs => fro r :: froAll rs
def froKvs : List (PyData × R) → List (PyData × PyData)
  | [] => []
  | (k, r) :: rs => (k, fro r) :: froKvs rs
end
/-- what lies within becomes told data -/
def shal : R → R
  | .val p => .val p
  | .lst rs => .lst (rs.map fun r => .val (fro r))
  | .dct kvs => .dct (kvs.map fun e => (e.1, .val (fro e.2)))
/-- a slot: nothing known; a value; a value that is being walked -/
inductive Sl where
  | no
  | sl (r : R)
  | lk (r : R)
  deriving Inhabited
abbrev Env := List Sl
def gt : Env → Nat → Sl
  | [], _ => .no
  | s :: _, 0 => s
  | _ :: e, n + 1 => gt e n
def st : Env → Nat → Sl → Env
  | [], _, _ => []
  | _ :: e, 0, x => x :: e
  | s :: e, n + 1, x => s :: st e n x
/-- an operand: a temporary, or what a slot holds -/
inductive Opd where
  | tm (r : R)
  | vr (i : Nat)
inductive Fl where
  | nx | brk | cnt
  | ret (r : R)
/-! ### operations by values -/
inductive Bop where | add | sub | mul | fdiv | mod | pow
  deriving DecidableEq
inductive Cop where | eq | ne | lt | le | gt | ge | isin | notin | is | isnot
  deriving DecidableEq
inductive Bi where
  | len | sorted | tuple | list | sum | min | max | all | any | abs | int | str | sset | lset | min2 | max2 | values | items | sitems | lrange | trange
  deriving DecidableEq
inductive Mt where | count | index | get1 | get2 | join | split | replace
  deriving DecidableEq
inductive Ty where | int | bool | str | tuple | list | dict
  deriving DecidableEq
def big : Nat := 16777216
def vals (xs : List PyData) : R := .lst (xs.map .val)
def int (i : Int) : R := .val (.int i)
def bool (b : Bool) : R := .val (.bool b)
def near (i : Int) : Bool := decide (i.natAbs < 4611686018427387904)
def small (i : Int) : Bool := decide (i.natAbs < 18446744073709551616)
def binop : Bop → PyData → PyData → Option R
  | .add, .int i, .int j => some (.val (.int (i + j)))
  | .add, .list xs, .list ys => if xs.length + ys.length ≤ big then some (vals (xs ++ ys)) else none
  | .add, .tuple xs, .tuple ys => if xs.length + ys.length ≤ big then some (.val (.tuple (xs ++ ys))) else none
  | .add, .str a, .str b => if a.length + b.length ≤ big then some (.val (.str (a ++ b))) else none
  | .sub, .int i, .int j => some (.val (.int (i - j)))
  | .mul, .int i, .int j => if small i || small j then some (.val (.int (i * j))) else none
  | .mul, .list xs, .int k => if 0 ≤ k ∧ k ≤ 1000 ∧ xs.length ≤ 1000 then some (vals (List.replicate k.toNat xs).flatten) else none
  | .mul, .tuple xs, .int k => if 2 ≤ k ∧ k ≤ 1000 ∧ xs ≠ [] ∧ xs.length ≤ 1000 then some (.val (.tuple (List.replicate k.toNat xs).flatten)) else none
  | .fdiv, .int i, .int j => if 0 < j ∧ j < 1073741824 then some (.val (.int (i / j))) else none
  | .mod, .int i, .int j => if 0 < j then some (.val (.int (i % j))) else none
  | .pow, .int i, .int j => if 0 ≤ j ∧ j ≤ 1000000 ∧ i.natAbs < 18446744073709551616 then some (.val (.int (i ^ j.toNat))) else none
  | _, _, _ => none
/-- a key of a dict: a number or a text; or a tuple of such, nested -/
def flatKey : PyData → Bool
  | .int _ => true
  | .str _ => true
  | _ => false
mutual
def nestKey : Nat → PyData → Bool
  | _, .none => true
  | _, .bool _ => true
  | _, .int _ => true
  | _, .str _ => true
  | n + 1, .tuple ps => nestKeys n ps
  | _, _ => false
def nestKeys : Nat → List PyData → Bool
  | _, [] => true
  | n, p :: ps => nestKey n p && nestKeys n ps
end
def tupKey : PyData → Bool
  | .tuple ps => nestKeys 7 ps
  | _ => false
def kOk (ks : List PyData) (k : PyData) : Bool := flatKey k && ks.all flatKey
def eqp (p q : PyData) : Option Bool := if SeqAt.shaped p && SeqAt.shaped q then some (p.eqv q) else none
def inp (p : PyData) : PyData → Option Bool
  | .list xs => if SeqAt.shaped p && SeqAt.shaped (.list xs) then some (xs.any fun z => z.eqv p) else none
  | .tuple xs => if SeqAt.shaped p && SeqAt.shaped (.tuple xs) then some (xs.any fun z => z.eqv p) else none
  | .dict kvs => if kOk (kvs.map (·.1)) p then some (kvs.any fun e => e.1.eqv p) else none
  | _ => none
def isN : PyData → Bool
  | .none => true
  | _ => false
def cmpop : Cop → PyData → PyData → Option Bool
  | .eq, p, q => eqp p q
  | .ne, p, q => (eqp p q).map (!·)
  | .lt, .int i, .int j => some (decide (i < j))
  | .le, .int i, .int j => some (decide (i ≤ j))
  | .gt, .int i, .int j => some (decide (j < i))
  | .ge, .int i, .int j => some (decide (j ≤ i))
  | .isin, p, q => inp p q
  | .notin, p, q => (inp p q).map (!·)
  | .is, p, .none => some (isN p)
  | .isnot, p, .none => some (!isN p)
  | _, _, _ => none
/-- the place of an index in a row of n things -/
def ixOf (n : Nat) (i : Int) : Option Nat :=
  if 0 ≤ i then (if i.toNat < n then some i.toNat else none) else if -i ≤ n then some (n - (-i).toNat) else none
def dget (kvs : List (PyData × PyData)) (k : PyData) : Option PyData := (kvs.find? fun e => e.1.eqv k).map (·.2)
def keysOf (kvs : List (PyData × PyData)) : List PyData := kvs.map (·.1)
def ixop : PyData → PyData → Option PyData
  | .list xs, .int i => (ixOf xs.length i).bind fun j => xs[j]?
  | .tuple xs, .int i => (ixOf xs.length i).bind fun j => xs[j]?
  | .dict kvs, k => if kOk (keysOf kvs) k then dget kvs k else none
  | _, _ => none
def cutAt (n : Nat) (i : Int) : Nat := if 0 ≤ i then min i.toNat n else n - (-i).toNat
def cut (xs : List PyData) (lo hi : Option Int) : List PyData :=
  let a := match lo with | some i => cutAt xs.length i | none => 0
  let b := match hi with | some i => cutAt xs.length i | none => xs.length
  (xs.drop a).take (b - a)
def slop : PyData → Option Int → Option Int → Option R
  | .list xs, lo, hi => some (vals (cut xs lo hi))
  | .tuple xs, lo, hi => some (.val (.tuple (cut xs lo hi)))
  | _, _, _ => none
def revop : PyData → Option R
  | .list xs => some (vals xs.reverse)
  | .tuple xs => some (.val (.tuple xs.reverse))
  | _ => none
/-- what a walk over a value yields -/
def itemsOf : PyData → Option (List PyData)
  | .list xs => some xs
  | .tuple xs => some xs
  | .dict kvs => some (kvs.map (·.1))
  | _ => none
def rowOf : PyData → Option (List PyData)
  | .list xs => some xs
  | .tuple xs => some xs
  | _ => none
def allAlike (ds : List PyData) : Bool := ds.all fun x => ds.all fun y => PySem.W.alike x y
def le (x y : PyData) : Bool := !PySem.W.dataLt y x
/-- each once, by first place -/
def once : List PyData → List PyData → List PyData
  | _, [] => []
  | seen, d :: ds => if seen.any (·.eqv d) then once seen ds else d :: once (d :: seen) ds
def bestp (f : PyData → PyData → Bool) : PyData → List PyData → PyData
  | m, [] => m
  | m, d :: ds => bestp f (if f d m then d else m) ds
def intsOf : List PyData → Option (List Int)
  | [] => some []
  | .int i :: ds => (intsOf ds).map (i :: ·)
  | _ :: _ => none
def boolsOf : List PyData → Option (List Bool)
  | [] => some []
  | .bool b :: ds => (boolsOf ds).map (b :: ·)
  | _ :: _ => none
/-- what sorted serves: tuples, or no tuple at all -/
def sortOk (ds : List PyData) : Bool := ds.all (fun d => match d with | .tuple _ => true | _ => false) || ds.all (fun d => match d with | .tuple _ => false | .none => false | _ => true)
def sortp (ds : List PyData) : Option (List PyData) := if allAlike ds && sortOk ds && decide (ds.length ≤ big) && ds.all SeqAt.shaped then some (ds.mergeSort le) else none
/-- the first of the least by f, of data that are alike -/
def bestD (f : PyData → PyData → Bool) : List PyData → Option PyData
  | [] => none
  | d :: ds => if allAlike (d :: ds) && (d :: ds).all (fun x => !isN x) && (d :: ds).all SeqAt.shaped then some (ds.foldl (fun a y => if f y a then y else a) d) else none
/-- the numbers, each once, the least first -/
def insI (i : Int) : List Int → List Int
  | [] => [i]
  | j :: js => if i < j then i :: j :: js else if i = j then j :: js else j :: insI i js
def setI : List Int → List Int
  | [] => []
  | i :: is => insI i (setI is)
/-- tuples of numbers -/
def tupsOf : List PyData → Option (List (List Int))
  | [] => some []
  | .tuple xs :: ds => (intsOf xs).bind fun is => (tupsOf ds).map (is :: ·)
  | _ :: _ => none
def tupD (is : List Int) : PyData := .tuple (is.map .int)
/-- rows of numbers, each once, the least first -/
def insT (a : List Int) : List (List Int) → List (List Int)
  | [] => [a]
  | b :: bs => if a < b then a :: b :: bs else if a = b then b :: bs else b :: insT a bs
def setT : List (List Int) → List (List Int)
  | [] => []
  | a :: as => insT a (setT as)
/-- sorted(set(l)) -/
def setp (ds : List PyData) : Option (List PyData) := match intsOf ds with
  | some is => if is.length ≤ 4000 ∧ (setI is).length < 64 then some ((setI is).map .int) else none
  | none => (tupsOf ds).bind fun ls => if ls.length < 64 then some ((setT ls).map tupD) else none
def biop : Bi → List PyData → Option R
  | .len, [.list xs] => some (int xs.length)
  | .len, [.tuple xs] => some (int xs.length)
  | .len, [.dict kvs] => some (int kvs.length)
  | .len, [.str s] => if s.length ≤ big then some (int s.length) else none
  | .sorted, [.list ds] => (sortp ds).map vals
  | .sorted, [.tuple ds] => (sortp ds).map vals
  | .sset, [.tuple ds] => (intsOf ds).bind fun is => if is.length ≤ 4000 ∧ (setI is).length < 64 then some (vals ((setI is).map .int)) else none
  | .sset, [.list ds] => (setp ds).map vals
  | .lset, [.tuple ds] => (intsOf ds).bind fun is => if is.length ≤ 4000 ∧ (setI is).length < 64 then some (int (setI is).length) else none
  | .lset, [.list ds] => (setp ds).map fun es => int es.length
  | .lrange, [.int i] => if i ≤ 16777216 ∧ -16777216 ≤ i then some (vals ((List.range i.toNat).map fun (k : Nat) => .int k)) else none
  | .trange, [.int i] => if i ≤ 16777216 ∧ -16777216 ≤ i then some (.val (.tuple ((List.range i.toNat).map fun (k : Nat) => .int k))) else none
  | .tuple, [p] => (rowOf p).map fun ds => .val (.tuple ds)
  | .list, [.dict kvs] => if (kvs.map (·.1)).all flatKey then some (vals (kvs.map (·.1))) else none
  | .list, [p] => (rowOf p).map vals
  | .sum, [.list ds] => (intsOf ds).map fun is => int is.sum
  | .sum, [.tuple ds] => (intsOf ds).map fun is => int is.sum
  | .all, [.list ds] => (boolsOf ds).map fun bs => bool (bs.all id)
  | .any, [.list ds] => (boolsOf ds).map fun bs => bool (bs.any id)
  | .min, [.list ds] => match intsOf ds with
    | some is => is.min?.map int
    | none => (bestD (fun y a => PySem.W.dataLt y a) ds).map .val
  | .max, [.list ds] => match intsOf ds with
    | some is => is.max?.map int
    | none => (bestD (fun y a => PySem.W.dataLt a y) ds).map .val
  | .min, [.tuple ds] => (bestD (fun y a => PySem.W.dataLt y a) ds).map .val
  | .max, [.tuple ds] => (bestD (fun y a => PySem.W.dataLt a y) ds).map .val
  | .min2, [.int i, .int j] => some (int (if j < i then j else i))
  | .max2, [.int i, .int j] => some (int (if j > i then j else i))
  | .abs, [.int i] => some (int (if i < 0 then -i else i))
  | .int, [.int i] => some (int i)
  | .int, [.bool b] => some (int (if b then 1 else 0))
  | _, _ => none
def firstIx (ds : List PyData) (d : PyData) : Option Nat := ds.findIdx? fun z => z.eqv d
def mtop : Mt → List PyData → Option R
  | .count, [.list xs, .int k] => (intsOf xs).map fun is => int (is.count k)
  | .index, [.list xs, d] => if SeqAt.shaped (.list xs) && SeqAt.shaped d then (firstIx xs d).map fun (j : Nat) => int (j : Int) else none
  | .get1, [.dict kvs, k] => if kOk (keysOf kvs) k then some (.val ((dget kvs k).getD .none)) else none
  | .get2, [.dict kvs, k, d] => if kOk (keysOf kvs) k then some (.val ((dget kvs k).getD d)) else none
  | _, _ => none
def sameTop : PyData → PyData → Bool
  | .list _, .list _ => true
  | .dict _, .dict _ => true
  | _, _ => false
def augop : Bop → PyData → PyData → Option R
  | .add, .int i, .int j => some (int (i + j))
  | .sub, .int i, .int j => some (int (i - j))
  | _, _, _ => none
def isTy : Ty → PyData → Bool
  | .int, .int _ => true
  | .int, .bool _ => true
  | .bool, .bool _ => true
  | .str, .str _ => true
  | .tuple, .tuple _ => true
  | .list, .list _ => true
  | .dict, .dict _ => true
  | _, _ => false
/-! ### syntax -/
inductive MT where
  | nm (i : Nat)
  | tp (ts : List MT)
mutual
inductive ME where
  | var (i : Nat)
  | cst (p : PyData)
  | tup (es : List ME)
  | lst (es : List ME)
  | tupS (e : ME) (es : List ME)
  | lstS (e : ME) (es : List ME)
  | bin (o : Bop) (a b : ME)
  | cmp (o : Cop) (a b : ME)
  | cmp2 (o o' : Cop) (a b c : ME)
  | nt (a : ME)
  | an (a b : ME)
  | or (a b : ME)
  | ife (c a b : ME)
  | neg (a : ME)
  | ix (a b : ME)
  | sl (a : ME) (lo hi : Option ME)
  | rv (a : ME)
  | call (f : Nat) (es : List ME)
  | bi (o : Bi) (es : List ME)
  | mt (o : Mt) (a : ME) (es : List ME)
  | isi (a : ME) (ts : List Ty)
  | pop (i : Nat)
  | popAt (i : Nat) (k : ME)
  | lc (elt : ME) (tg : MT) (it : MI) (cond : Option ME) (own : List Nat)
  | lc2 (elt : ME) (tg : MT) (it : MI) (tg' : MT) (it' : MI) (cond : Option ME) (own own' : List Nat)
  | dc (k v : ME) (tg : MT) (it : MI) (own : List Nat)
  | dct (kvs : List (ME × ME))
  | dct1 (k v : ME)
  | key (a : ME) (x : Nat) (k : ME)
inductive MI where
  | rng (a : ME)
  | rng2 (a b : ME)
  | enum (a : ME)
  | zip (a b : ME)
  | items (a : ME)
  | vals (a : ME)
  | seq (a : ME)
end
inductive MS where
  | nop
  | asg (tg : MT) (e : ME)
  | par (is : List Nat) (es : List ME)
  | aug (i : Nat) (o : Bop) (e : ME)
  | six (i : Nat) (k v : ME)
  | six2 (i : Nat) (k k' v : ME)
  | aix (i : Nat) (k : ME) (o : Bop) (v : ME)
  | app (i : Nat) (e : ME)
  | app2 (i : Nat) (k e : ME)
  | ext (i : Nat) (e : ME)
  | rem (i : Nat) (e : ME)
  | grow (i x p : Nat)
  | exp (e : ME)
  | ret (e : ME)
  | retN
  | ite (c : ME) (a b : List MS)
  | wh (c : ME) (b : List MS)
  | for (tg : MT) (it : MI) (b : List MS)
  | brk
  | cnt
  | never
/-! ### evaluation -/
structure Orc where
  call : Nat → List R → Option (R × List (Option R))
  wh : (Env → Option (Bool × Env)) → (Env → Option (Fl × Env)) → Env → Option (Fl × Env)
/-- a name or a constant, its value -/
def smp : ME → Env → Option PyData
  | .var j, env => match gt env j with
    | .sl (.val p) => some p
    | _ => none
  | .cst p, _ => some p
  | _, _ => none
/-- an operand as told data; a slot's list gives its parts away -/
def view : Opd → Env → Option (PyData × Env)
  | .tm r, env => some (fro r, env)
  | .vr i, env => match gt env i with
    | .sl r => some (fro r, st env i (.sl (shal r)))
    | .lk r => some (fro r, env)
    | .no => none
/-- an operand handed on: a slot's own list moves -/
def own : Opd → Env → Option (R × Env)
  | .tm r, env => some (r, env)
  | .vr i, env => match gt env i with
    | .sl r => some (r, st env i .no)
    | _ => none
def views : List Opd → Env → Option (List PyData × Env)
  | [], env => some ([], env)
  | o :: os, env => (view o env).bind fun x => (views os x.2).bind fun y => some (x.1 :: y.1, y.2)
def owns : List Opd → Env → Option (List R × Env)
  | [], env => some ([], env)
  | o :: os, env => (own o env).bind fun x => (owns os x.2).bind fun y => some (x.1 :: y.1, y.2)
/-- behind a call the slots have their lists again -/
def back : List Opd → List (Option R) → Env → Env
  | .vr i :: os, r :: rs, env => back os rs (st env i (match r with | some r => .sl r | none => .no))
  | .tm _ :: os, _ :: rs, env => back os rs env
  | _, _, env => env
mutual
def bindT : MT → PyData → Env → Option Env
  | .nm i, p, env => match gt env i with
    | .lk _ => none
    | _ => some (st env i (.sl (.val p)))
  | .tp ts, .tuple ps, env => bindTs ts ps env
  | .tp _, _, _ => none
def bindTs : List MT → List PyData → Env → Option Env
  | [], [], env => some env
  | t :: ts, p :: ps, env => (bindT t p env).bind fun e => bindTs ts ps e
  | _, _, _ => none
end
def bindR : MT → R → Env → Option Env
  | .nm i, r, env => match gt env i with
    | .lk _ => none
    | _ => some (st env i (.sl r))
  | t, r, env => bindT t (fro r) env
def bindRs : List Nat → List R → Env → Option Env
  | [], [], env => some env
  | i :: is, r :: rs, env => (bindR (.nm i) r env).bind fun e => bindRs is rs e
  | _, _, _ => none
def wipe : Env → List Nat → Env
  | env, [] => env
  | env, i :: is => st (wipe env is) i .no
/-- the slots is have again what they had in old -/
def again (old : Env) : Env → List Nat → Env
  | env, [] => env
  | env, i :: is => st (again old env is) i (gt old i)
def unlock (i : Option Nat) (env : Env) : Env :=
  match i with
  | none => env
  | some i => match gt env i with
    | .lk r => st env i (.sl r)
    | _ => env
/-- a walk begins: what it yields, which slot is walked -/
def walk : Opd → (PyData → Option (List PyData)) → Env → Option (List PyData × Option Nat × Env)
  | .tm r, f, env => (f (fro r)).map fun ds => (ds, none, env)
  | .vr i, f, env => match gt env i with
    | .sl r => (f (fro r)).map fun ds => (ds, none, st env i (.sl (.val (fro r))))
    | _ => none
def rngOf (lo hi : Int) : List PyData := (List.range (hi - lo).toNat).map fun (i : Nat) => .int (lo + i)
def enumOf (n : Nat) : List PyData → List PyData
  | [] => []
  | d :: ds => .tuple [.int n, d] :: enumOf (n + 1) ds
def mapE (f : PyData → Env → Option (Option R × Env)) : List PyData → Env → Option (List R × Env)
  | [], env => some ([], env)
  | x :: xs, env => (f x env).bind fun y => (mapE f xs y.2).bind fun z => some (match y.1 with | some r => r :: z.1 | none => z.1, z.2)
def forL (f : PyData → Env → Option (Fl × Env)) : List PyData → Env → Option (Fl × Env)
  | [], env => some (.nx, env)
  | x :: xs, env => (f x env).bind fun y => match y.1 with
    | .nx => forL f xs y.2
    | .cnt => forL f xs y.2
    | .brk => some (.nx, y.2)
    | .ret r => some (.ret r, y.2)
def isOwn : Sl → Bool
  | .sl (.val _) => false
  | .sl _ => true
  | _ => false
def isI : PyData → Bool
  | .int _ => true
  | _ => false
def plainSl : Sl → Bool
  | .no => true
  | .sl (.val _) => true
  | _ => false
def asB : PyData → Option Bool
  | .bool b => some b
  | _ => none
def dputR (kvs : List (PyData × R)) (k : PyData) (r : R) : List (PyData × R) :=
  if kvs.any fun e => e.1.eqv k then kvs.map fun e => if e.1.eqv k then (e.1, r) else e else kvs ++ [(k, r)]
def mapEs (f : PyData → Env → Option (List R × Env)) : List PyData → Env → Option (List R × Env)
  | [], env => some ([], env)
  | x :: xs, env => (f x env).bind fun y => (mapEs f xs y.2).bind fun z => some (y.1 ++ z.1, z.2)
def keysE (f : PyData → Env → Option (PyData × Env)) : List PyData → Env → Option (List PyData × Env)
  | [], env => some ([], env)
  | x :: xs, env => (f x env).bind fun y => (keysE f xs y.2).bind fun z => some (y.1 :: z.1, z.2)
def mapK (f : PyData → Env → Option (PyData × R × Env)) : List (PyData × R) → List PyData → Env → Option (List (PyData × R) × Env)
  | acc, [], env => some (acc, env)
  | acc, x :: xs, env => (f x env).bind fun y => if kOk (acc.map (·.1)) y.1 then mapK f (dputR acc y.1 y.2.1) xs y.2.2 else none
mutual
def ev (O : Orc) : ME → Env → Option (Opd × Env)
  | .var i, env => match gt env i with
    | .sl (.val p) => some (.tm (.val p), env)
    | .sl _ => some (.vr i, env)
    | .lk _ => some (.vr i, env)
    | .no => none
  | .cst p, env => some (.tm (.val p), env)
  | .tup es, env => (evs O es env).bind fun x => (owns x.1 x.2).bind fun y => some (.tm (.val (.tuple (froAll y.1))), y.2)
  | .lst es, env => (evs O es env).bind fun x => (owns x.1 x.2).bind fun y => some (.tm (.lst y.1), y.2)
  | .tupS e es, env => (ev O e env).bind fun x => (view x.1 x.2).bind fun p => (rowOf p.1).bind fun ds =>
      (evs O es p.2).bind fun y => (owns y.1 y.2).bind fun z => if ds.length + z.1.length ≤ big then some (.tm (.val (.tuple (ds ++ froAll z.1))), z.2) else none
  | .lstS e es, env => (ev O e env).bind fun x => (view x.1 x.2).bind fun p => (rowOf p.1).bind fun ds =>
      (evs O es p.2).bind fun y => (owns y.1 y.2).bind fun z => if ds.length + z.1.length ≤ big then some (.tm (.lst (ds.map .val ++ z.1)), z.2) else none
  | .bin o a b, env => (ev O a env).bind fun x => (ev O b x.2).bind fun y => (view x.1 y.2).bind fun p => (view y.1 p.2).bind fun q =>
      (binop o p.1 q.1).bind fun r => some (.tm r, q.2)
  | .cmp o a b, env => (ev O a env).bind fun x => (ev O b x.2).bind fun y => (view x.1 y.2).bind fun p => (view y.1 p.2).bind fun q =>
      (cmpop o p.1 q.1).bind fun r => some (.tm (.val (.bool r)), q.2)
  | .cmp2 o o' a b c, env => (ev O a env).bind fun x => (ev O b x.2).bind fun y => (view x.1 y.2).bind fun p => (view y.1 p.2).bind fun q =>
      (cmpop o p.1 q.1).bind fun r => if !isI q.1 then none else if r then (ev O c q.2).bind fun z => (view z.1 z.2).bind fun u => (cmpop o' q.1 u.1).bind fun r' => some (.tm (.val (.bool r')), u.2)
        else some (.tm (.val (.bool false)), q.2)
  | .nt a, env => (ev O a env).bind fun x => (view x.1 x.2).bind fun p => (asB p.1).bind fun c => some (.tm (.val (.bool (!c))), p.2)
  | .an a b, env => (ev O a env).bind fun x => (view x.1 x.2).bind fun p => (asB p.1).bind fun c => if c then ev O b p.2 else some (.tm (.val (.bool false)), p.2)
  | .or a b, env => (ev O a env).bind fun x => (view x.1 x.2).bind fun p => (asB p.1).bind fun c => if c then some (.tm (.val (.bool true)), p.2) else ev O b p.2
  | .ife c a b, env => (ev O c env).bind fun x => (view x.1 x.2).bind fun p => (asB p.1).bind fun k => if k then ev O a p.2 else ev O b p.2
  | .neg a, env => (ev O a env).bind fun x => (view x.1 x.2).bind fun p => match p.1 with
    | .int i => some (.tm (.val (.int (-i))), p.2)
    | _ => none
  | .ix a b, env => (ev O a env).bind fun x => (ev O b x.2).bind fun y => (view x.1 y.2).bind fun p => (view y.1 p.2).bind fun q =>
      (ixop p.1 q.1).bind fun r => some (.tm (.val r), q.2)
  | .sl a lo hi, env => (ev O a env).bind fun x => (evO O lo x.2).bind fun y => (evO O hi y.2).bind fun z => (view x.1 z.2).bind fun p =>
      (slop p.1 y.1 z.1).bind fun r => some (.tm r, p.2)
  | .rv a, env => (ev O a env).bind fun x => (view x.1 x.2).bind fun p => (revop p.1).bind fun r => some (.tm r, p.2)
  | .call f es, env => (evs O es env).bind fun x => (owns x.1 x.2).bind fun y => (O.call f y.1).bind fun z => some (.tm z.1, back x.1 z.2 y.2)
  | .bi o es, env => (evs O es env).bind fun x => (views x.1 x.2).bind fun y => (biop o y.1).bind fun r => some (.tm r, y.2)
  | .mt o a es, env => (ev O a env).bind fun x => (view x.1 x.2).bind fun p0 => (evs O es x.2).bind fun y => (view x.1 y.2).bind fun p => (views y.1 p.2).bind fun q =>
      if sameTop p0.1 p.1 then (mtop o (p.1 :: q.1)).bind fun r => some (.tm r, q.2) else none
  | .isi a ts, env => (ev O a env).bind fun x => (view x.1 x.2).bind fun p => some (.tm (.val (.bool (ts.any fun t => isTy t p.1))), p.2)
  | .pop i, env => match gt env i with
    | .sl (.lst rs) => match rs.getLast? with
      | some (.val p) => some (.tm (.val p), st env i (.sl (.lst rs.dropLast)))
      | _ => none
    | _ => none
  | .popAt i k, env => if isOwn (gt env i) then (ev O k env).bind fun x => (view x.1 x.2).bind fun p => match p.1, gt p.2 i with
      | .int z, .sl (.lst rs) => (ixOf rs.length z).bind fun j => (rs[j]?).bind fun r => some (.tm r, st p.2 i (.sl (.lst (rs.eraseIdx j))))
      | _, _ => none
    else none
  | .lc elt tg it cond own', env => (evI O it env).bind fun x => if own'.all (fun i => plainSl (gt x.2.2 i)) then
      (mapE (fun d e => (bindT tg d e).bind fun e1 => (evC O cond e1).bind fun c => if c.1 then (ev O elt c.2).bind fun y => (own y.1 y.2).bind fun r => some (some r.1, wipe r.2 own') else some (none, wipe c.2 own')) x.1 (wipe x.2.2 own')).bind fun y =>
      if y.1.length ≤ big then some (.tm (.lst y.1), unlock x.2.1 (again x.2.2 y.2 own')) else none
      else none
  | .lc2 elt tg it tg' it' cond own1 own2, env => (evI O it env).bind fun x => if own1.all (fun i => plainSl (gt x.2.2 i)) then
      (mapEs (fun d e => (bindT tg d e).bind fun e1 => (evI O it' e1).bind fun u =>
        (mapE (fun d' e' => (bindT tg' d' e').bind fun e2 => (evC O cond e2).bind fun c => if c.1 then (ev O elt c.2).bind fun y => (own y.1 y.2).bind fun r => some (some r.1, wipe r.2 own2) else some (none, wipe c.2 own2)) u.1 (wipe u.2.2 own2)).bind fun y =>
          some (y.1, wipe y.2 own1)) x.1 (wipe x.2.2 own1)).bind fun y =>
      if y.1.length ≤ big then some (.tm (.lst y.1), again x.2.2 y.2 own1) else none
      else none
  | .dc k v tg it own', env => (evI O it env).bind fun x =>
      (mapK (fun d e => (bindT tg d e).bind fun e1 => (ev O k e1).bind fun a => (view a.1 a.2).bind fun p => (ev O v p.2).bind fun b => (own b.1 b.2).bind fun r => some (p.1, r.1, wipe r.2 own')) [] x.1 (wipe x.2.2 own')).bind fun y =>
      some (.tm (.dct y.1), unlock x.2.1 (again x.2.2 y.2 own'))
  | .dct kvs, env => (evP O [] kvs env).bind fun x => some (.tm (.dct x.1), x.2)
  | .dct1 k v, env => (smp k env).bind fun p => (smp v env).bind fun q => if flatKey p then some (.tm (.dct [(p, .val q)]), env) else none
  | .key a i k, env => (ev O a env).bind fun x => (view x.1 x.2).bind fun p => (itemsOf p.1).bind fun ds =>
      (keysE (fun d e => (bindT (.nm i) d e).bind fun e1 => (ev O k e1).bind fun y => (view y.1 y.2).bind fun q => some (q.1, wipe q.2 [i])) ds (wipe p.2 [i])).bind fun ks =>
      if allAlike ks.1 then some (.tm (vals ((ds.zip ks.1).mergeSort (fun u v => le u.2 v.2) |>.map (·.1))), again p.2 ks.2 [i]) else none
def evs (O : Orc) : List ME → Env → Option (List Opd × Env)
  | [], env => some ([], env)
  | e :: es, env => (ev O e env).bind fun x => (evs O es x.2).bind fun y => some (x.1 :: y.1, y.2)
def evO (O : Orc) : Option ME → Env → Option (Option Int × Env)
  | none, env => some (none, env)
  | some e, env => (ev O e env).bind fun x => (view x.1 x.2).bind fun p => match p.1 with
    | .int i => some (some i, p.2)
    | _ => none
def evC (O : Orc) : Option ME → Env → Option (Bool × Env)
  | none, env => some (true, env)
  | some e, env => (ev O e env).bind fun x => (view x.1 x.2).bind fun p => (asB p.1).bind fun c => some (c, p.2)
def evP (O : Orc) : List (PyData × R) → List (ME × ME) → Env → Option (List (PyData × R) × Env)
  | acc, [], env => some (acc, env)
  | acc, (k, v) :: es, env => (ev O k env).bind fun a => (view a.1 a.2).bind fun p => (ev O v p.2).bind fun b => (own b.1 b.2).bind fun r => if kOk (acc.map (·.1)) p.1 then evP O (dputR acc p.1 r.1) es r.2 else none
def evI (O : Orc) : MI → Env → Option (List PyData × Option Nat × Env)
  | .rng a, env => (ev O a env).bind fun x => (view x.1 x.2).bind fun p => match p.1 with
    | .int i => if near i then some (rngOf 0 i, none, p.2) else none
    | _ => none
  | .rng2 a b, env => (ev O a env).bind fun x => (ev O b x.2).bind fun y => (view x.1 y.2).bind fun p => (view y.1 p.2).bind fun q => match p.1, q.1 with
    | .int i, .int j => if near i && near j then some (rngOf i j, none, q.2) else none
    | _, _ => none
  | .enum a, env => (ev O a env).bind fun x => walk x.1 (fun p => (rowOf p).map (enumOf 0)) x.2
  | .zip a b, env => (ev O a env).bind fun x => (ev O b x.2).bind fun y => (view x.1 y.2).bind fun p => (view y.1 p.2).bind fun q =>
      (rowOf p.1).bind fun ds => (rowOf q.1).bind fun es => some ((ds.zip es).map fun u => .tuple [u.1, u.2], none, q.2)
  | .items a, env => (ev O a env).bind fun x => walk x.1 (fun p => match p with | .dict kvs => some (kvs.map fun e => .tuple [e.1, e.2]) | _ => none) x.2
  | .vals a, env => (ev O a env).bind fun x => walk x.1 (fun p => match p with | .dict kvs => some (kvs.map (·.2)) | _ => none) x.2
  | .seq a, env => (ev O a env).bind fun x => walk x.1 rowOf x.2
end
/-! ### statements -/
/-- x[k] = r of what a slot holds alone -/
def putAt : R → PyData → R → Option R
  | .lst rs, .int i, r => (ixOf rs.length i).bind fun j => some (.lst (rs.set j r))
  | .dct kvs, k, .val p => if kOk (kvs.map (·.1)) k && decide (kvs.length < big) then some (.dct (dputR kvs k (.val p))) else none
  | _, _, _ => none
def onAt (g : R → Option R) : R → PyData → Option R
  | .lst rs, .int i => (ixOf rs.length i).bind fun j => (rs[j]?).bind fun r => (g r).bind fun r' => some (.lst (rs.set j r'))
  | _, _ => none
def addTo (r : R) : R → Option R
  | .lst rs => if rs.length < big then some (.lst (rs ++ [r])) else none
  | _ => none
def extTo (us : List R) : R → Option R
  | .lst rs => if rs.length + us.length ≤ big then some (.lst (rs ++ us)) else none
  | _ => none
/-- each tuple of the list once more, with q behind it -/
def growTo (q : PyData) : R → Option R
  | .lst rs => if rs.length + rs.length ≤ big && rs.all (fun r => match r with | .val (.tuple ts) => decide (ts.length < 1000) | _ => false) then some (.lst (rs ++ rs.map fun r => match r with | .val (.tuple ts) => .val (.tuple (ts ++ [q])) | _ => r)) else none
  | _ => none
def remOf (d : PyData) : R → Option R
  | .lst rs => (intsOf (froAll rs)).bind fun is => match d with
    | .int k => (is.findIdx? (· == k)).bind fun j => some (.lst (rs.eraseIdx j))
    | _ => none
  | _ => none
def isLst : Sl → Bool
  | .sl (.lst _) => true
  | _ => false
/-- a slot's own value is changed -/
def chg (i : Nat) (g : R → Option R) (env : Env) : Option Env :=
  match gt env i with
  | .sl r => (g r).bind fun r' => some (st env i (.sl r'))
  | _ => none
mutual
def ex (O : Orc) : MS → Env → Option (Fl × Env)
  | .nop, env => some (.nx, env)
  | .asg tg e, env => (ev O e env).bind fun x => (own x.1 x.2).bind fun r => (bindR tg r.1 r.2).bind fun e' => some (.nx, e')
  | .par is es, env => (evs O es env).bind fun x => (owns x.1 x.2).bind fun r => (bindRs is r.1 r.2).bind fun e' => some (.nx, e')
  | .aug i o e, env => match gt env i with
    | .sl (.val p) => (ev O e env).bind fun x => (view x.1 x.2).bind fun q => (augop o p q.1).bind fun r => (bindR (.nm i) r q.2).bind fun e' => some (.nx, e')
    | _ => none
  | .six i k v, env => (ev O v env).bind fun x => (own x.1 x.2).bind fun r => if isOwn (gt r.2 i) then (ev O k r.2).bind fun y => (view y.1 y.2).bind fun q =>
      (chg i (fun u => putAt u q.1 r.1) q.2).bind fun e' => some (.nx, e') else none
  | .six2 i k k' v, env => (ev O v env).bind fun x => (own x.1 x.2).bind fun r => (smp k r.2).bind fun q => (smp k' r.2).bind fun q' =>
      (chg i (fun u => onAt (fun w => putAt w q' r.1) u q) r.2).bind fun e' => some (.nx, e')
  | .aix i k o v, env => (smp k env).bind fun q => (smp v env).bind fun p => (chg i (fun u => onAt (fun w => match w with | .val x => augop o x p | _ => none) u q) env).bind fun e' => some (.nx, e')
  | .app i e, env => if isLst (gt env i) then (ev O e env).bind fun x => (own x.1 x.2).bind fun r => (chg i (addTo r.1) r.2).bind fun e' => some (.nx, e') else none
  | .app2 i k e, env => (smp k env).bind fun q => (smp e env).bind fun p => (chg i (fun u => onAt (addTo (.val p)) u q) env).bind fun e' => some (.nx, e')
  | .ext i e, env => if isLst (gt env i) then (ev O e env).bind fun x => match x.1 with
      | .tm (.lst rs) => (chg i (extTo rs) x.2).bind fun e' => some (.nx, e')
      | _ => none
    else none
  | .grow i x p, env => match gt env p with
    | .sl (.val q) => if i != x && p != x && i != p && plainSl (gt env x) && decide (x < env.length) then (chg i (growTo q) env).bind fun e' => some (.nx, e') else none
    | _ => none
  | .rem i e, env => if isOwn (gt env i) then (ev O e env).bind fun x => (view x.1 x.2).bind fun p => (chg i (remOf p.1) p.2).bind fun e' => some (.nx, e') else none
  | .exp e, env => (ev O e env).bind fun x => some (.nx, x.2)
  | .ret e, env => (ev O e env).bind fun x => (own x.1 x.2).bind fun r => some (.ret r.1, r.2)
  | .retN, env => some (.ret (.val .none), env)
  | .ite c a b, env => (ev O c env).bind fun x => (view x.1 x.2).bind fun p => (asB p.1).bind fun k => if k then exs O a p.2 else exs O b p.2
  | .wh c b, env => O.wh (fun e => (ev O c e).bind fun x => (view x.1 x.2).bind fun p => (asB p.1).bind fun k => some (k, p.2)) (fun e => exs O b e) env
  | .for tg it b, env => (evI O it env).bind fun x => (forL (fun d e => (bindT tg d e).bind fun e1 => exs O b e1) x.1 x.2.2).bind fun y => some (y.1, unlock x.2.1 y.2)
  | .brk, env => some (.brk, env)
  | .cnt, env => some (.cnt, env)
  | .never, _ => none
def exs (O : Orc) : List MS → Env → Option (Fl × Env)
  | [], env => some (.nx, env)
  | s :: ss, env => (ex O s env).bind fun x => match x.1 with
    | .nx => exs O ss x.2
    | f => some (f, x.2)
end
/-! ### defs -/
structure Dfn where
  np : Nat
  ns : Nat
  body : List MS
mutual
def tgHas (i : Nat) : MT → Bool
  | .nm j => i == j
  | .tp ts => tgsHas i ts
def tgsHas (i : Nat) : List MT → Bool
  | [] => false
  | t :: ts => tgHas i t || tgsHas i ts
end
mutual
/-- the statement stores to the name -/
def asn (i : Nat) : MS → Bool
  | .asg tg _ => tgHas i tg
  | .par is _ => is.contains i
  | .aug j _ _ => i == j
  | .ite _ a b => asns i a || asns i b
  | .wh _ b => asns i b
  | .for tg _ b => tgHas i tg || asns i b
  | _ => false
def asns (i : Nat) : List MS → Bool
  | [] => false
  | s :: ss => asn i s || asns i ss
end
def isVal : R → Bool
  | .val _ => true
  | _ => false
/-- a list handed over is stored to no other name's place -/
def handOk (body : List MS) : Nat → List R → Bool
  | _, [] => true
  | i, r :: rs => (isVal r || !asns i body) && handOk body (i + 1) rs
def outsOf (env : Env) : Nat → List R → List (Option R)
  | _, [] => []
  | i, r :: rs => (if isVal r then none else match gt env i with | .sl r' => some r' | _ => none) :: outsOf env (i + 1) rs
def answer : Fl → Option R
  | .ret r => some r
  | .nx => some (.val .none)
  | _ => none
def enter (d : Dfn) (args : List R) : Env := args.map .sl ++ List.replicate (d.ns - d.np) .no
def callN (T : List Dfn) (wh : (Env → Option (Bool × Env)) → (Env → Option (Fl × Env)) → Env → Option (Fl × Env)) : Nat → Nat → List R → Option (R × List (Option R))
  | 0, _, _ => none
  | n + 1, f, args => (T[f]?).bind fun d => if args.length = d.np ∧ handOk d.body 0 args = true then
      (exs ⟨callN T wh n, wh⟩ d.body (enter d args)).bind fun x => (answer x.1).bind fun r => some (r, outsOf x.2 0 args) else none
/-! ### while, by turns -/
def turns (c : Env → Option (Bool × Env)) (b : Env → Option (Fl × Env)) : Nat → Env → Option (Fl × Env)
  | 0, _ => none
  | n + 1, env => (c env).bind fun x => if x.1 then (b x.2).bind fun y => match y.1 with
      | .nx => turns c b n y.2
      | .cnt => turns c b n y.2
      | .brk => some (.nx, y.2)
      | .ret r => some (.ret r, y.2)
    else some (.nx, x.2)
open Classical in
noncomputable def loop (c : Env → Option (Bool × Env)) (b : Env → Option (Fl × Env)) (env : Env) : Option (Fl × Env) :=
  if h : ∃ n, (turns c b n env).isSome = true then turns c b h.choose env else none
abbrev WhT := (Env → Option (Bool × Env)) → (Env → Option (Fl × Env)) → Env → Option (Fl × Env)
end Ev
set_option autoImplicit false
set_option linter.all false
set_option maxRecDepth 100000
/-! The evaluator's values over the abstract heap of the hand layer. -/
namespace Ev
open PySem L2
abbrev AP := Addr → Prop
/-- told nodes: Z holds the addresses that are never changed again -/
def NL (K : PySem.W.Frag) (H : Hp) (Z : AP) (a : Addr) (vs : List V) : Prop := (Z a ∧ Rd H a (.lst vs)) ∨ SqL K (fun _ => none) a vs
def NT (K : PySem.W.Frag) (H : Hp) (Z : AP) (a : Addr) (vs : List V) : Prop := (Z a ∧ Rd H a (.tup vs)) ∨ SqT K (fun _ => none) a vs
def DN (H : Hp) (a : Addr) (es : List (V × V)) : Prop := ∃ kvs : List (Key × V), H a = some (.dK kvs) ∧ es = kvs.map fun e => (kV e.1, e.2)
mutual
def Rp (K : PySem.W.Frag) (H : Hp) (Z : AP) : PyData → V → Prop
  | .none, v => v = .non
  | .bool b, v => v = .bl b
  | .int i, v => v = .int i
  | .str s, v => v = .str s
  | .list ds, v => ∃ a vs, v = .ref a ∧ NL K H Z a vs ∧ Rps K H Z ds vs
  | .tuple ds, v => ∃ a vs, v = .ref a ∧ NT K H Z a vs ∧ Rps K H Z ds vs
  | .dict kvs, v => ∃ a es, v = .ref a ∧ Z a ∧ DN H a es ∧ Rpk K H Z kvs es
def Rps (K : PySem.W.Frag) (H : Hp) (Z : AP) : List PyData → List V → Prop
  | [], vs => vs = []
  | d :: ds, vs => ∃ v r, vs = v :: r ∧ Rp K H Z d v ∧ Rps K H Z ds r
def Rpk (K : PySem.W.Frag) (H : Hp) (Z : AP) : List (PyData × PyData) → List (V × V) → Prop
  | [], es => es = []
  | (k, d) :: kvs, es => ∃ x y r, es = (x, y) :: r ∧ Rp K H Z k x ∧ Rp K H Z d y ∧ Rpk K H Z kvs r
end
mutual
def Rr (K : PySem.W.Frag) (H : Hp) (Z : AP) : R → V → List Addr → Prop
  | .val p, v, f => f = [] ∧ Rp K H Z p v
  | .lst rs, v, f => ∃ a vs g, v = .ref a ∧ H a = some (.lst vs) ∧ Rrs K H Z rs vs g ∧ f = a :: g
  | .dct kvs, v, f => ∃ a es g, v = .ref a ∧ DN H a es ∧ Rrk K H Z kvs es g ∧ f = a :: g
def Rrs (K : PySem.W.Frag) (H : Hp) (Z : AP) : List R → List V → List Addr → Prop
  | [], vs, f => vs = [] ∧ f = []
  | r :: rs, vs, f => ∃ v w g h, vs = v :: w ∧ Rr K H Z r v g ∧ Rrs K H Z rs w h ∧ f = g ++ h
def Rrk (K : PySem.W.Frag) (H : Hp) (Z : AP) : List (PyData × R) → List (V × V) → List Addr → Prop
  | [], es, f => es = [] ∧ f = []
  | (k, r) :: kvs, es, f => ∃ x y w g h, es = (x, y) :: w ∧ Rp K H Z k x ∧ Rr K H Z r y g ∧ Rrk K H Z kvs w h ∧ f = g ++ h
end
def Rs (K : PySem.W.Frag) (H : Hp) (Z : AP) : Sl → Option V → List Addr → Prop
  | .no, _, f => f = []
  | .sl r, x, f => ∃ v, x = some v ∧ Rr K H Z r v f
  | .lk r, x, f => ∃ v, x = some v ∧ Rr K H Z r v f ∧ f.tail = []
def RelE (K : PySem.W.Frag) (H : Hp) (Z : AP) : Env → St → List Addr → Prop
  | [], σ, f => σ = [] ∧ f = []
  | s :: e, σ, f => ∃ x τ g h, σ = x :: τ ∧ Rs K H Z s x g ∧ RelE K H Z e τ h ∧ f = g ++ h
section
variable {K : PySem.W.Frag} {H H' : Hp} {Z Z' : AP}
/-! ### what stays -/
theorem Rd.same {a : Addr} {u : HO} (h : Rd H a u) (k : ∀ o, H a = some o → H' a = some o) : Rd H' a u := by
  rcases h with h | ⟨o, h⟩
  · exact .inl (k _ h)
  · exact .inr ⟨o, k _ h⟩
theorem DN.same {a : Addr} {es : List (V × V)} (h : DN H a es) (k : ∀ o, H a = some o → H' a = some o) : DN H' a es := by
  obtain ⟨kvs, e, q⟩ := h
  exact ⟨kvs, k _ e, q⟩
theorem DN.some {a : Addr} {es : List (V × V)} (h : DN H a es) : H a ≠ none := by
  obtain ⟨kvs, e, q⟩ := h
  rw [e]; exact fun z => by cases z
mutual
theorem Rp.mono (kz : ∀ a o, Z a → H a = some o → H' a = some o) (zz : ∀ a, Z a → Z' a) : ∀ (p : PyData) (v : V), Rp K H Z p v → Rp K H' Z' p v
  | .none, _, h => h
  | .bool _, _, h => h
  | .int _, _, h => h
  | .str _, _, h => h
  | .list ds, _, ⟨a, vs, e, n, r⟩ => ⟨a, vs, e, by
      rcases n with ⟨z, n⟩ | n
      · exact .inl ⟨zz a z, Rd.same n fun o q => kz a o z q⟩
      · exact .inr n, Rps.mono kz zz ds vs r⟩
  | .tuple ds, _, ⟨a, vs, e, n, r⟩ => ⟨a, vs, e, by
      rcases n with ⟨z, n⟩ | n
      · exact .inl ⟨zz a z, Rd.same n fun o q => kz a o z q⟩
      · exact .inr n, Rps.mono kz zz ds vs r⟩
  | .dict kvs, _, ⟨a, es, e, z, n, r⟩ => ⟨a, es, e, zz a z, n.same fun o q => kz a o z q, Rpk.mono kz zz kvs es r⟩
theorem Rps.mono (kz : ∀ a o, Z a → H a = some o → H' a = some o) (zz : ∀ a, Z a → Z' a) : ∀ (ds : List PyData) (vs : List V), Rps K H Z ds vs → Rps K H' Z' ds vs
  | [], _, h => h
  | d :: ds, _, ⟨v, r, e, h1, h2⟩ => ⟨v, r, e, Rp.mono kz zz d v h1, Rps.mono kz zz ds r h2⟩
theorem Rpk.mono (kz : ∀ a o, Z a → H a = some o → H' a = some o) (zz : ∀ a, Z a → Z' a) : ∀ (kvs : List (PyData × PyData)) (es : List (V × V)), Rpk K H Z kvs es → Rpk K H' Z' kvs es
  | [], _, h => h
  | (k, d) :: kvs, _, ⟨x, y, r, e, h1, h2, h3⟩ => ⟨x, y, r, e, Rp.mono kz zz k x h1, Rp.mono kz zz d y h2, Rpk.mono kz zz kvs r h3⟩
end
mutual
theorem Rr.mono (kz : ∀ a o, Z a → H a = some o → H' a = some o) (zz : ∀ a, Z a → Z' a) : ∀ (r : R) (v : V) (f : List Addr), (∀ a ∈ f, ∀ o, H a = some o → H' a = some o) → Rr K H Z r v f → Rr K H' Z' r v f
  | .val p, v, f, _, ⟨e, h⟩ => ⟨e, Rp.mono kz zz p v h⟩
  | .lst rs, v, f, kf, ⟨a, vs, g, e, n, r, q⟩ => by
    subst q
    exact ⟨a, vs, g, e, kf a (by simp) _ n, Rrs.mono kz zz rs vs g (fun b hb => kf b (by simp [hb])) r, rfl⟩
  | .dct kvs, v, f, kf, ⟨a, es, g, e, n, r, q⟩ => by
    subst q
    exact ⟨a, es, g, e, n.same fun o q => kf a (by simp) o q, Rrk.mono kz zz kvs es g (fun b hb => kf b (by simp [hb])) r, rfl⟩
theorem Rrs.mono (kz : ∀ a o, Z a → H a = some o → H' a = some o) (zz : ∀ a, Z a → Z' a) : ∀ (rs : List R) (vs : List V) (f : List Addr), (∀ a ∈ f, ∀ o, H a = some o → H' a = some o) → Rrs K H Z rs vs f → Rrs K H' Z' rs vs f
  | [], _, _, _, h => h
  | r :: rs, _, f, kf, ⟨v, w, g, h, e, h1, h2, q⟩ => by
    subst q
    exact ⟨v, w, g, h, e, Rr.mono kz zz r v g (fun b hb => kf b (by simp [hb])) h1, Rrs.mono kz zz rs w h (fun b hb => kf b (by simp [hb])) h2, rfl⟩
theorem Rrk.mono (kz : ∀ a o, Z a → H a = some o → H' a = some o) (zz : ∀ a, Z a → Z' a) : ∀ (kvs : List (PyData × R)) (es : List (V × V)) (f : List Addr), (∀ a ∈ f, ∀ o, H a = some o → H' a = some o) → Rrk K H Z kvs es f → Rrk K H' Z' kvs es f
  | [], _, _, _, h => h
  | (k, r) :: kvs, _, f, kf, ⟨x, y, w, g, h, e, h0, h1, h2, q⟩ => by
    subst q
    exact ⟨x, y, w, g, h, e, Rp.mono kz zz k x h0, Rr.mono kz zz r y g (fun b hb => kf b (by simp [hb])) h1, Rrk.mono kz zz kvs w h (fun b hb => kf b (by simp [hb])) h2, rfl⟩
end
theorem Rs.mono (kz : ∀ a o, Z a → H a = some o → H' a = some o) (zz : ∀ a, Z a → Z' a) {s : Sl} {x : Option V} {f : List Addr} (kf : ∀ a ∈ f, ∀ o, H a = some o → H' a = some o) (h : Rs K H Z s x f) : Rs K H' Z' s x f := by
  cases s with
  | no => exact h
  | sl r => obtain ⟨v, e, q⟩ := h; exact ⟨v, e, Rr.mono kz zz r v f kf q⟩
  | lk r => obtain ⟨v, e, q, t⟩ := h; exact ⟨v, e, Rr.mono kz zz r v f kf q, t⟩
theorem RelE.mono (kz : ∀ a o, Z a → H a = some o → H' a = some o) (zz : ∀ a, Z a → Z' a) : ∀ (e : Env) (σ : St) (f : List Addr), (∀ a ∈ f, ∀ o, H a = some o → H' a = some o) → RelE K H Z e σ f → RelE K H' Z' e σ f
  | [], _, _, _, h => h
  | s :: e, _, f, kf, ⟨x, τ, g, h, q, h1, h2, z⟩ => by
    subst z
    exact ⟨x, τ, g, h, q, Rs.mono kz zz (fun b hb => kf b (by simp [hb])) h1, RelE.mono kz zz e τ h (fun b hb => kf b (by simp [hb])) h2, rfl⟩
/-! ### what is owned stands -/
mutual
theorem Rr.trk : ∀ (r : R) (v : V) (f : List Addr), Rr K H Z r v f → ∀ a ∈ f, H a ≠ none
  | .val p, v, f, ⟨e, h⟩, a, ha => by subst e; cases ha
  | .lst rs, v, f, ⟨a, vs, g, e, n, r, q⟩, b, hb => by
    subst q
    rcases List.mem_cons.mp hb with rfl | hb
    · rw [n]; exact fun z => by cases z
    · exact Rrs.trk rs vs g r b hb
  | .dct kvs, v, f, ⟨a, es, g, e, n, r, q⟩, b, hb => by
    subst q
    rcases List.mem_cons.mp hb with rfl | hb
    · exact n.some
    · exact Rrk.trk kvs es g r b hb
theorem Rrs.trk : ∀ (rs : List R) (vs : List V) (f : List Addr), Rrs K H Z rs vs f → ∀ a ∈ f, H a ≠ none
  | [], _, _, ⟨_, e⟩, a, ha => by subst e; cases ha
  | r :: rs, _, f, ⟨v, w, g, h, e, h1, h2, q⟩, a, ha => by
    subst q
    rcases List.mem_append.mp ha with ha | ha
    · exact Rr.trk r v g h1 a ha
    · exact Rrs.trk rs w h h2 a ha
theorem Rrk.trk : ∀ (kvs : List (PyData × R)) (es : List (V × V)) (f : List Addr), Rrk K H Z kvs es f → ∀ a ∈ f, H a ≠ none
  | [], _, _, ⟨_, e⟩, a, ha => by subst e; cases ha
  | (k, r) :: kvs, _, f, ⟨x, y, w, g, h, e, h0, h1, h2, q⟩, a, ha => by
    subst q
    rcases List.mem_append.mp ha with ha | ha
    · exact Rr.trk r y g h1 a ha
    · exact Rrk.trk kvs w h h2 a ha
end
theorem Rs.trk {s : Sl} {x : Option V} {f : List Addr} (h : Rs K H Z s x f) : ∀ a ∈ f, H a ≠ none := by
  cases s with
  | no => intro a ha; rw [show f = [] from h] at ha; cases ha
  | sl r => obtain ⟨v, e, q⟩ := h; exact Rr.trk r v f q
  | lk r => obtain ⟨v, e, q, t⟩ := h; exact Rr.trk r v f q
theorem RelE.trk : ∀ (e : Env) (σ : St) (f : List Addr), RelE K H Z e σ f → ∀ a ∈ f, H a ≠ none
  | [], _, _, ⟨_, q⟩, a, ha => by subst q; cases ha
  | s :: e, _, f, ⟨x, τ, g, h, q, h1, h2, z⟩, a, ha => by
    subst z
    rcases List.mem_append.mp ha with ha | ha
    · exact h1.trk a ha
    · exact RelE.trk e τ h h2 a ha
/-! ### freezing -/
mutual
theorem Rr.fro (zz : ∀ a, Z a → Z' a) : ∀ (r : R) (v : V) (f : List Addr), (∀ a ∈ f, Z' a) → Rr K H Z r v f → Rp K H Z' (fro r) v
  | .val p, v, f, _, ⟨e, h⟩ => Rp.mono (fun _ _ _ q => q) zz p v h
  | .lst rs, v, f, kf, ⟨a, vs, g, e, n, r, q⟩ => by
    subst q
    exact ⟨a, vs, e, .inl ⟨kf a (by simp), .inl n⟩, Rrs.fro zz rs vs g (fun b hb => kf b (by simp [hb])) r⟩
  | .dct kvs, v, f, kf, ⟨a, es, g, e, n, r, q⟩ => by
    subst q
    exact ⟨a, es, e, kf a (by simp), n, Rrk.fro zz kvs es g (fun b hb => kf b (by simp [hb])) r⟩
theorem Rrs.fro (zz : ∀ a, Z a → Z' a) : ∀ (rs : List R) (vs : List V) (f : List Addr), (∀ a ∈ f, Z' a) → Rrs K H Z rs vs f → Rps K H Z' (froAll rs) vs
  | [], _, _, _, ⟨e, _⟩ => e
  | r :: rs, _, f, kf, ⟨v, w, g, h, e, h1, h2, q⟩ => by
    subst q
    exact ⟨v, w, e, Rr.fro zz r v g (fun b hb => kf b (by simp [hb])) h1, Rrs.fro zz rs w h (fun b hb => kf b (by simp [hb])) h2⟩
theorem Rrk.fro (zz : ∀ a, Z a → Z' a) : ∀ (kvs : List (PyData × R)) (es : List (V × V)) (f : List Addr), (∀ a ∈ f, Z' a) → Rrk K H Z kvs es f → Rpk K H Z' (froKvs kvs) es
  | [], _, _, _, ⟨e, _⟩ => e
  | (k, r) :: kvs, _, f, kf, ⟨x, y, w, g, h, e, h0, h1, h2, q⟩ => by
    subst q
    exact ⟨x, y, w, e, Rp.mono (fun _ _ _ q => q) zz k x h0, Rr.fro zz r y g (fun b hb => kf b (by simp [hb])) h1, Rrk.fro zz kvs w h (fun b hb => kf b (by simp [hb])) h2⟩
end
/-- told items in a list of one's own -/
theorem Rps.own : ∀ (ds : List PyData) (vs : List V), Rps K H Z ds vs → Rrs K H Z (ds.map .val) vs []
  | [], _, h => ⟨h, rfl⟩
  | d :: ds, _, ⟨v, r, e, h1, h2⟩ => ⟨v, r, [], [], e, ⟨rfl, h1⟩, Rps.own ds r h2, rfl⟩
theorem Rrs.shal (zz : ∀ a, Z a → Z' a) : ∀ (rs : List R) (vs : List V) (f : List Addr), (∀ a ∈ f, Z' a) → Rrs K H Z rs vs f → Rrs K H Z' (rs.map fun r => .val (Ev.fro r)) vs []
  | [], _, _, _, ⟨e, _⟩ => ⟨e, rfl⟩
  | r :: rs, _, f, kf, ⟨v, w, g, h, e, h1, h2, q⟩ => by
    subst q
    exact ⟨v, w, [], [], e, ⟨rfl, Rr.fro zz r v g (fun b hb => kf b (by simp [hb])) h1⟩, Rrs.shal zz rs w h (fun b hb => kf b (by simp [hb])) h2, rfl⟩
theorem Rrk.shal (zz : ∀ a, Z a → Z' a) : ∀ (kvs : List (PyData × R)) (es : List (V × V)) (f : List Addr), (∀ a ∈ f, Z' a) → Rrk K H Z kvs es f → Rrk K H Z' (kvs.map fun e => (e.1, .val (Ev.fro e.2))) es []
  | [], _, _, _, ⟨e, _⟩ => ⟨e, rfl⟩
  | (k, r) :: kvs, _, f, kf, ⟨x, y, w, g, h, e, h0, h1, h2, q⟩ => by
    subst q
    exact ⟨x, y, w, [], [], e, Rp.mono (fun _ _ _ q => q) zz k x h0, ⟨rfl, Rr.fro zz r y g (fun b hb => kf b (by simp [hb])) h1⟩, Rrk.shal zz kvs w h (fun b hb => kf b (by simp [hb])) h2, rfl⟩
/-! ### an operand at its use -/
/-- as told data, but for the top, which may be owned -/
def Vw (K : PySem.W.Frag) (H : Hp) (Z : AP) : PyData → V → Prop
  | .list ds, v => ∃ a vs, v = .ref a ∧ SqL K H a vs ∧ Rps K H Z ds vs
  | .dict kvs, v => ∃ a es, v = .ref a ∧ DN H a es ∧ Rpk K H Z kvs es
  | p, v => Rp K H Z p v
theorem NL.sq {a : Addr} {vs : List V} (h : NL K H Z a vs) : SqL K H a vs := by
  rcases h with h | h
  · exact .inl h.2
  · rcases h with h | h
    · rcases h with h | ⟨o, h⟩ <;> cases h
    · exact .inr h
theorem SqL.same {a : Addr} {vs : List V} (h : SqL K H a vs) (k : ∀ o, H a = some o → H' a = some o) : SqL K H' a vs := h.imp (fun n => Rd.same n k) id
theorem Rp.vw {p : PyData} {v : V} (h : Rp K H Z p v) : Vw K H Z p v := by
  cases p with
  | list ds => obtain ⟨a, vs, e, n, r⟩ := h; exact ⟨a, vs, e, n.sq, r⟩
  | dict kvs => obtain ⟨a, es, e, z, n, r⟩ := h; exact ⟨a, es, e, n, r⟩
  | none => exact h
  | bool _ => exact h
  | int _ => exact h
  | str _ => exact h
  | tuple _ => exact h
theorem Vw.mono (kz : ∀ a o, H a = some o → H' a = some o) (zz : ∀ a, Z a → Z' a) {p : PyData} {v : V} (h : Vw K H Z p v) : Vw K H' Z' p v := by
  cases p with
  | list ds => obtain ⟨a, vs, e, n, r⟩ := h; exact ⟨a, vs, e, SqL.same n fun o q => kz a o q, Rps.mono (fun b o _ q => kz b o q) zz ds vs r⟩
  | dict kvs => obtain ⟨a, es, e, n, r⟩ := h; exact ⟨a, es, e, n.same fun o q => kz a o q, Rpk.mono (fun b o _ q => kz b o q) zz kvs es r⟩
  | none => exact h
  | bool _ => exact h
  | int _ => exact h
  | str _ => exact h
  | tuple ds => exact Rp.mono (fun b o _ q => kz b o q) zz (.tuple ds) v h
/-- an owned value, its parts given away: what it is at its use, what it is from then on -/
theorem Rr.view {r : R} {v : V} {f : List Addr} (h : Rr K H Z r v f) (zz : ∀ a, Z a → Z' a) (zf : ∀ a ∈ f.tail, Z' a) : Vw K H Z' (Ev.fro r) v ∧ Rr K H Z' (Ev.shal r) v (f.take 1) := by
  cases r with
  | val p => obtain ⟨e, h⟩ := h; subst e; exact ⟨(Rp.mono (fun _ _ _ q => q) zz p v h).vw, rfl, Rp.mono (fun _ _ _ q => q) zz p v h⟩
  | lst rs =>
    obtain ⟨a, vs, g, e, n, r, q⟩ := h
    subst q
    exact ⟨⟨a, vs, e, .inl (.inl n), Rrs.fro zz rs vs g zf r⟩, a, vs, [], e, n, Rrs.shal zz rs vs g zf r, rfl⟩
  | dct kvs =>
    obtain ⟨a, es, g, e, n, r, q⟩ := h
    subst q
    exact ⟨⟨a, es, e, n, Rrk.fro zz kvs es g zf r⟩, a, es, [], e, n, Rrk.shal zz kvs es g zf r, rfl⟩
end
end Ev
set_option autoImplicit false
set_option linter.all false
set_option maxRecDepth 100000
/-! How states follow one another. -/
namespace Ev
open PySem L2
theorem nd_split {f1 t f2 h : List Addr} {a b : Addr} (nd : (f1 ++ (b :: t ++ f2) ++ h).Nodup) (hb : a ∈ t) (ha : a ∈ f1 ++ b :: f2 ++ h) : False := by
  obtain ⟨n1, n2, n3⟩ := List.nodup_append.mp nd
  obtain ⟨m1, m2, m3⟩ := List.nodup_append.mp n1
  obtain ⟨k1, k2, k3⟩ := List.nodup_append.mp m2
  obtain ⟨j1, j2⟩ := List.nodup_cons.mp k1
  have hbt : a ∈ b :: t ++ f2 := List.mem_append_left _ (List.mem_cons_of_mem _ hb)
  rcases List.mem_append.mp ha with ha | ha
  · rcases List.mem_append.mp ha with ha | ha
    · exact m3 a ha a hbt rfl
    · rcases List.mem_cons.mp ha with e | ha
      · exact j1 (e ▸ hb)
      · exact k3 a (List.mem_cons_of_mem _ hb) a ha rfl
  · exact n3 a (List.mem_append_right _ hbt) a ha rfl
structure Ok (H : Hp) (Z : AP) (f : List Addr) : Prop where
  nd : f.Nodup
  sep : ∀ a ∈ f, ¬ Z a
  trk : ∀ a, Z a → H a ≠ none
structure Tr (H : Hp) (Z : AP) (f : List Addr) (H' : Hp) (Z' : AP) (h : List Addr) : Prop where
  zle : ∀ a, Z a → Z' a
  zin : ∀ a, Z' a → Z a ∨ a ∈ f ∨ H a = none
  frm : ∀ a o, H a = some o → a ∉ f → H' a = some o
  sub : ∀ a ∈ h, a ∈ f ∨ H a = none
section
variable {K : PySem.W.Frag} {H H1 H2 H' : Hp} {Z Z1 Z2 Z' : AP} {σ : St} {f f1 f2 g g1 g2 h : List Addr}
theorem Ok.left (o : Ok H Z (f ++ g)) : Ok H Z f := ⟨(List.nodup_append.mp o.nd).1, fun a ha => o.sep a (List.mem_append_left _ ha), o.trk⟩
theorem Ok.right (o : Ok H Z (f ++ g)) : Ok H Z g := ⟨(List.nodup_append.mp o.nd).2.1, fun a ha => o.sep a (List.mem_append_right _ ha), o.trk⟩
theorem Ok.apart (o : Ok H Z (f ++ g)) {a : Addr} (ha : a ∈ f) (hb : a ∈ g) : False := (List.nodup_append.mp o.nd).2.2 a ha a hb rfl
theorem Ok.perm (o : Ok H Z f) (p : f.Perm g) : Ok H Z g := ⟨p.nodup_iff.mp o.nd, fun a ha => o.sep a (p.mem_iff.mpr ha), o.trk⟩
theorem Ok.subl (o : Ok H Z f) (p : g.Sublist f) : Ok H Z g := ⟨o.nd.sublist p, fun a ha => o.sep a (p.subset ha), o.trk⟩
theorem Ok.mk3 (o : Ok H Z f) (n : g.Nodup) (s : ∀ a ∈ g, ¬ Z a) (d : ∀ a ∈ f, a ∈ g → False) : Ok H Z (f ++ g) :=
  ⟨List.nodup_append.mpr ⟨o.nd, n, fun a ha b hb e => d a ha (e ▸ hb)⟩, fun a ha => (List.mem_append.mp ha).elim (o.sep a) (s a), o.trk⟩
theorem Tr.refl : Tr H Z f H Z f := ⟨fun _ h => h, fun _ h => .inl h, fun _ _ e _ => e, fun _ h => .inl h⟩
theorem Tr.weak (t : Tr H Z f H' Z' h) (s : ∀ a ∈ g, a ∈ h) : Tr H Z f H' Z' g := ⟨t.zle, t.zin, t.frm, fun a ha => t.sub a (s a ha)⟩
theorem Tr.none_of (t : Tr H Z f H' Z' h) {a : Addr} (e : H' a = none) : a ∈ f ∨ H a = none := by
  by_cases ha : a ∈ f
  · exact .inl ha
  · refine .inr ?_
    cases q : H a with
    | none => rfl
    | some o => rw [t.frm a o q ha] at e; cases e
theorem Tr.trans (t : Tr H Z f H1 Z1 (f1 ++ g1)) (u : Tr H1 Z1 f1 H2 Z2 h) : Tr H Z f H2 Z2 (h ++ g1) where
  zle := fun a h => u.zle a (t.zle a h)
  zin := fun a ha => by
    rcases u.zin a ha with q | q | q
    · exact t.zin a q
    · exact .inr (t.sub a (List.mem_append_left _ q))
    · exact .inr (t.none_of q)
  frm := fun a o e n => u.frm a o (t.frm a o e n) fun q => by
    rcases t.sub a (List.mem_append_left _ q) with z | z
    · exact n z
    · rw [e] at z; cases z
  sub := fun a ha => by
    rcases List.mem_append.mp ha with q | q
    · rcases u.sub a q with z | z
      · exact t.sub a (List.mem_append_left _ z)
      · exact t.none_of z
    · exact t.sub a (List.mem_append_right _ q)
/-- behind an expression: the slots have f', the temporaries g -/
structure Post (K : PySem.W.Frag) (σ : St) (H : Hp) (Z : AP) (f : List Addr) (env' : Env) (H' : Hp) (Z' : AP) (f' g : List Addr) : Prop where
  rel : RelE K H' Z' env' σ f'
  ok : Ok H' Z' (f' ++ g)
  tr : Tr H Z f H' Z' (f' ++ g)
variable {env env1 env2 env' : Env}
theorem Post.refl (r : RelE K H Z env σ f) (o : Ok H Z f) : Post K σ H Z f env H Z f [] := ⟨r, by rw [List.append_nil]; exact o, by rw [List.append_nil]; exact Tr.refl⟩
theorem Post.drop (p : Post K σ H Z f env1 H1 Z1 f1 (g ++ g1)) : Post K σ H Z f env1 H1 Z1 f1 g := by
  refine ⟨p.rel, ?_, p.tr.weak fun a ha => ?_⟩
  · have q := p.ok
    rw [← List.append_assoc] at q
    exact q.left
  · rw [← List.append_assoc]; exact List.mem_append_left _ ha
/-- what stands apart of the second step is carried over -/
theorem Tr.same (u : Tr H1 Z1 f1 H2 Z2 h) (o : Ok H1 Z1 (f1 ++ g1)) {a : Addr} (ha : a ∈ g1) {x : HO} (e : H1 a = some x) : H2 a = some x :=
  u.frm a x e fun q => o.apart q ha
theorem Tr.zsame (u : Tr H1 Z1 f1 H2 Z2 h) (o : Ok H1 Z1 f1) {a : Addr} (ha : Z1 a) {x : HO} (e : H1 a = some x) : H2 a = some x :=
  u.frm a x e fun q => o.sep a q ha
theorem Tr.rr (u : Tr H1 Z1 f1 H2 Z2 h) (o : Ok H1 Z1 (f1 ++ g1)) {r : R} {v : V} (q : Rr K H1 Z1 r v g1) : Rr K H2 Z2 r v g1 :=
  Rr.mono (fun a x z e => u.zsame o.left z e) u.zle r v g1 (fun a ha x e => u.same o ha e) q
theorem Tr.rp (u : Tr H1 Z1 f1 H2 Z2 h) (o : Ok H1 Z1 f1) {p : PyData} {v : V} (q : Rp K H1 Z1 p v) : Rp K H2 Z2 p v :=
  Rp.mono (fun a x z e => u.zsame o z e) u.zle p v q
theorem Post.perm (p : Post K σ H Z f env1 H1 Z1 f1 g) (q : g.Perm g1) : Post K σ H Z f env1 H1 Z1 f1 g1 :=
  ⟨p.rel, p.ok.perm (List.Perm.append_left _ q), p.tr.weak fun a ha => ((List.Perm.append_left f1 q).mem_iff).mpr ha⟩
theorem Post.seq (p : Post K σ H Z f env1 H1 Z1 f1 g1) (q : Post K σ H1 Z1 f1 env2 H2 Z2 f2 g2) (t : ∀ a ∈ g1, H1 a ≠ none) : Post K σ H Z f env2 H2 Z2 f2 (g1 ++ g2) := by
  refine Post.perm (g := g2 ++ g1) ⟨q.rel, ?_, ?_⟩ List.perm_append_comm
  · rw [← List.append_assoc]
    refine q.ok.mk3 p.ok.right.nd (fun a ha z => ?_) fun a ha hb => ?_
    · rcases q.tr.zin a z with e | e | e
      · exact p.ok.sep a (List.mem_append_right _ ha) e
      · exact p.ok.apart e ha
      · exact t a ha e
    · rcases q.tr.sub a ha with e | e
      · exact p.ok.apart e hb
      · exact t a hb e
  · rw [← List.append_assoc]
    exact p.tr.trans q.tr
/-! ### slots -/
theorem gt_of_lt : ∀ {e : Env} {i : Nat}, gt e i ≠ .no → i < e.length
  | [], _, h => absurd rfl h
  | _ :: _, 0, _ => Nat.succ_pos _
  | _ :: e, i + 1, h => Nat.succ_lt_succ (gt_of_lt (e := e) (i := i) h)
theorem RelE.len : ∀ {e : Env} {σ : St} {f : List Addr}, RelE K H Z e σ f → e.length = σ.length
  | [], _, _, ⟨h, _⟩ => by rw [h]; rfl
  | _ :: e, _, _, ⟨x, τ, g, h, q, _, h2, _⟩ => by rw [q]; exact congrArg (· + 1) (RelE.len h2)
theorem RelE.focus : ∀ {e : Env} {σ : St} {f : List Addr} {i : Nat}, RelE K H Z e σ f → gt e i ≠ .no →
    ∃ x f1 g f2, σ[i]? = some x ∧ Rs K H Z (gt e i) x g ∧ f = f1 ++ (g ++ f2) ∧ ∀ (H' : Hp) (Z' : AP), (∀ a o, Z a → H a = some o → H' a = some o) → (∀ a, Z a → Z' a) → (∀ a, a ∈ f1 ∨ a ∈ f2 → ∀ o, H a = some o → H' a = some o) →
      ∀ s' x' g', Rs K H' Z' s' x' g' → RelE K H' Z' (st e i s') (σ.set i x') (f1 ++ (g' ++ f2))
  | [], _, _, _, _, h => absurd rfl h
  | s :: e, _, _, 0, ⟨x, τ, g, h, q, h1, h2, z⟩, _ => by
    subst q; subst z
    exact ⟨x, [], g, h, rfl, h1, rfl, fun H' Z' kz zz kf s' x' g' r => ⟨x', τ, g', h, rfl, r, RelE.mono kz zz e τ h (fun a ha => kf a (.inr ha)) h2, rfl⟩⟩
  | s :: e, _, _, i + 1, ⟨x, τ, g, h, q, h1, h2, z⟩, hn => by
    subst q; subst z
    obtain ⟨y, a1, b, a2, e1, e2, e3, e4⟩ := RelE.focus (i := i) h2 hn
    subst e3
    refine ⟨y, g ++ a1, b, a2, by simpa using e1, e2, by simp, fun H' Z' kz zz kf s' x' g' r => ⟨x, τ.set i x', g, a1 ++ (g' ++ a2), rfl, Rs.mono kz zz (fun a ha => kf a (.inl (List.mem_append_left _ ha))) h1, ?_, by simp⟩⟩
    exact e4 H' Z' kz zz (fun a ha => kf a (ha.imp (List.mem_append_right _) id)) s' x' g' r
/-- .. in the same heap -/
theorem RelE.focus0 {e : Env} {f : List Addr} {i : Nat} (hE : RelE K H Z e σ f) (hn : gt e i ≠ .no) :
    ∃ x f1 g f2, σ[i]? = some x ∧ Rs K H Z (gt e i) x g ∧ f = f1 ++ (g ++ f2) ∧ ∀ (Z' : AP), (∀ a, Z a → Z' a) → ∀ s' x' g', Rs K H Z' s' x' g' → RelE K H Z' (st e i s') (σ.set i x') (f1 ++ (g' ++ f2)) := by
  obtain ⟨x, f1, g, f2, e1, e2, e3, e4⟩ := hE.focus hn
  exact ⟨x, f1, g, f2, e1, e2, e3, fun Z' zz => e4 H Z' (fun _ _ _ e => e) zz fun _ _ _ e => e⟩
theorem set_same : ∀ {σ : St} {i : Nat} {x : Option V}, σ[i]? = some x → σ.set i x = σ
  | [], _, _, _ => rfl
  | _ :: _, 0, _, h => by simp at h; simp [h]
  | _ :: σ, i + 1, _, h => by simp at h; simp [set_same h]
/-- a slot is stored to -/
theorem RelE.put : ∀ {e : Env} {σ : St} {f : List Addr} (i : Nat) {s' : Sl} {x' : Option V} {g' : List Addr}, RelE K H Z e σ f → Rs K H Z s' x' g' →
    ∃ f', RelE K H Z (st e i s') (σ.set i x') f' ∧ (∀ a ∈ f', a ∈ f ∨ a ∈ g') ∧ ((f ++ g').Nodup → f'.Nodup)
  | [], _, _, _, _, _, _, ⟨h, q⟩, _ => by
    subst h; subst q
    exact ⟨[], ⟨rfl, rfl⟩, (fun a ha => absurd ha List.not_mem_nil), fun _ => List.nodup_nil⟩
  | s :: e, _, _, 0, s', x', g', ⟨x, τ, g, h, q, h1, h2, z⟩, r => by
    subst q; subst z
    refine ⟨g' ++ h, ⟨x', τ, g', h, rfl, r, h2, rfl⟩, fun a ha => ?_, fun n => ?_⟩
    · rcases List.mem_append.mp ha with e | e
      · exact .inr e
      · exact .inl (List.mem_append_right _ e)
    · rw [List.append_assoc] at n
      exact (List.perm_append_comm.nodup_iff).mp (List.nodup_append.mp n).2.1
  | s :: e, _, _, i + 1, s', x', g', ⟨x, τ, g, h, q, h1, h2, z⟩, r => by
    subst q; subst z
    obtain ⟨h', e1, e2, e3⟩ := RelE.put i h2 r
    refine ⟨g ++ h', ⟨x, τ.set i x', g, h', rfl, h1, e1, rfl⟩, fun a ha => ?_, fun n => ?_⟩
    · rcases List.mem_append.mp ha with e | e
      · exact .inl (List.mem_append_left _ e)
      · rcases e2 a e with q | q
        · exact .inl (List.mem_append_right _ q)
        · exact .inr q
    · rw [List.append_assoc] at n
      obtain ⟨n1, n2, n3⟩ := List.nodup_append.mp n
      refine List.nodup_append.mpr ⟨n1, e3 n2, fun a ha b hb q => ?_⟩
      rcases e2 b hb with z | z
      · exact n3 a ha b (List.mem_append_left _ z) q
      · exact n3 a ha b (List.mem_append_right _ z) q
/-! ### operands -/
def RO (K : PySem.W.Frag) (H : Hp) (Z : AP) (σ : St) : Opd → V → List Addr → Prop
  | .tm r, v, g => Rr K H Z r v g
  | .vr i, v, g => σ[i]? = some (some v) ∧ g = []
theorem RO.trk {o : Opd} {v : V} (q : RO K H Z σ o v g) : ∀ a ∈ g, H a ≠ none := by
  cases o with
  | tm r => exact Rr.trk r v g q
  | vr i => intro a ha; rw [q.2] at ha; cases ha
theorem Tr.ro (u : Tr H1 Z1 f1 H2 Z2 h) (o : Ok H1 Z1 (f1 ++ g1)) {x : Opd} {v : V} (q : RO K H1 Z1 σ x v g1) : RO K H2 Z2 σ x v g1 := by
  cases x with
  | tm r => exact u.rr o q
  | vr i => exact q
def ZU (Z : AP) (g : List Addr) : AP := fun a => Z a ∨ a ∈ g
/-- an operand is used -/
theorem view_ok {o : Opd} {v : V} {p : PyData} (hE : RelE K H Z env σ f) (hO : RO K H Z σ o v g) (ok : Ok H Z (f ++ (g ++ h))) (he : view o env = some (p, env')) :
    ∃ Z' f', RelE K H Z' env' σ f' ∧ Vw K H Z' p v ∧ Ok H Z' (f' ++ h) ∧ (∀ a, Z a → Z' a) ∧ (∀ a, Z' a → Z a ∨ a ∈ f ∨ a ∈ g) ∧ (∀ a ∈ f', a ∈ f) := by
  have kz : ∀ (a : Addr) (x : HO), Z a → H a = some x → H a = some x := fun _ _ _ e => e
  cases o with
  | tm r =>
    simp only [view, Option.some.injEq, Prod.mk.injEq] at he
    obtain ⟨rfl, rfl⟩ := he
    have zz : ∀ a, Z a → ZU Z g a := fun a h => .inl h
    refine ⟨ZU Z g, f, RelE.mono kz zz env σ f (fun _ _ _ e => e) hE, (Rr.fro zz r v g (fun a ha => .inr ha) hO).vw, ?_, zz, fun a z => z.imp id .inr, fun a ha => ha⟩
    have ok' := ok
    rw [← List.append_assoc] at ok'
    refine ⟨?_, fun a ha z => ?_, fun a z => z.elim (ok.trk a) (Rr.trk r v g hO a)⟩
    · exact (ok.subl (List.Sublist.append (List.Sublist.refl f) (List.sublist_append_right g h))).nd
    · rcases z with z | z
      · refine ok.sep a ?_ z
        rcases List.mem_append.mp ha with q | q
        · exact List.mem_append_left _ q
        · exact List.mem_append_right _ (List.mem_append_right _ q)
      · rcases List.mem_append.mp ha with q | q
        · exact ok.apart q (List.mem_append_left _ z)
        · exact (ok.right).apart z q
  | vr i =>
    obtain ⟨hv, rfl⟩ := hO
    rw [List.nil_append] at ok
    simp only [view] at he
    split at he
    · rename_i r hg
      simp only [Option.some.injEq, Prod.mk.injEq] at he
      obtain ⟨rfl, rfl⟩ := he
      obtain ⟨x, f1, g0, f2, e1, e2, e3, e4⟩ := hE.focus0 (i := i) (by rw [hg]; exact fun z => by cases z)
      rw [hg] at e2
      obtain ⟨v', rfl, hr⟩ := e2
      rw [hv] at e1
      obtain rfl : v = v' := Option.some.inj (Option.some.inj e1)
      have zz : ∀ a, Z a → ZU Z g0.tail a := fun a h => .inl h
      subst e3
      obtain ⟨V1, V2⟩ := Rr.view hr zz (fun a ha => .inr ha)
      have V3 := e4 _ zz (.sl (shal r)) (some v) _ ⟨v, rfl, V2⟩
      rw [set_same hv] at V3
      have tl : ∀ a ∈ g0.tail, a ∈ g0 := fun a ha => List.mem_of_mem_tail ha
      have sb : (f1 ++ (g0.take 1 ++ f2) ++ h).Sublist (f1 ++ (g0 ++ f2) ++ h) :=
        List.Sublist.append (List.Sublist.append (List.Sublist.refl _) (List.Sublist.append (List.take_sublist _ _) (List.Sublist.refl _))) (List.Sublist.refl _)
      have nt : ∀ a ∈ f1 ++ (g0.take 1 ++ f2) ++ h, a ∉ g0.tail := fun a ha hb => by
        have nd := ok.nd
        cases g0 with
        | nil => cases hb
        | cons b t =>
          have hb' : a ∈ t := hb
          have ha' : a ∈ f1 ++ (b :: f2) ++ h := by simpa using ha
          exact nd_split nd hb' ha'
      refine ⟨ZU Z g0.tail, f1 ++ (g0.take 1 ++ f2), V3, V1, ⟨ok.nd.sublist sb, fun a ha z => ?_, fun a z => z.elim (ok.trk a) fun q => Rr.trk r v g0 hr a (tl a q)⟩, zz, fun a z => z.imp id fun q => ?_, fun a ha => ?_⟩
      · rcases z with z | z
        · exact ok.sep a (sb.subset ha) z
        · exact nt a ha z
      · exact .inl (List.mem_append_right _ (List.mem_append_left _ (tl a q)))
      · rcases List.mem_append.mp ha with q | q
        · exact List.mem_append_left _ q
        · rcases List.mem_append.mp q with q | q
          · exact List.mem_append_right _ (List.mem_append_left _ (List.mem_of_mem_take q))
          · exact List.mem_append_right _ (List.mem_append_right _ q)
    · rename_i r hg
      simp only [Option.some.injEq, Prod.mk.injEq] at he
      obtain ⟨rfl, rfl⟩ := he
      obtain ⟨x, f1, g0, f2, e1, e2, e3, e4⟩ := hE.focus0 (i := i) (by rw [hg]; exact fun z => by cases z)
      rw [hg] at e2
      obtain ⟨v', rfl, hr, ht⟩ := e2
      rw [hv] at e1
      obtain rfl : v = v' := Option.some.inj (Option.some.inj e1)
      obtain ⟨V1, _⟩ := Rr.view hr (fun a h => h) (fun a ha => by rw [ht] at ha; cases ha)
      exact ⟨Z, f, hE, V1, ok, fun a h => h, fun a h => .inl h, fun a h => h⟩
    · cases he
/-- an operand is handed on -/
theorem own_ok {o : Opd} {v : V} {r : R} (hE : RelE K H Z env σ f) (hO : RO K H Z σ o v g) (ok : Ok H Z (f ++ (g ++ h))) (he : own o env = some (r, env')) :
    ∃ f' g', RelE K H Z env' σ f' ∧ Rr K H Z r v g' ∧ Ok H Z (f' ++ (g' ++ h)) ∧ (∀ a ∈ f', a ∈ f) ∧ (∀ a ∈ g', a ∈ f ∨ a ∈ g) := by
  cases o with
  | tm r' =>
    simp only [own, Option.some.injEq, Prod.mk.injEq] at he
    obtain ⟨rfl, rfl⟩ := he
    exact ⟨f, g, hE, hO, ok, fun a h => h, fun a h => .inr h⟩
  | vr i =>
    obtain ⟨hv, rfl⟩ := hO
    rw [List.nil_append] at ok
    simp only [own] at he
    split at he
    · rename_i r' hg
      simp only [Option.some.injEq, Prod.mk.injEq] at he
      obtain ⟨rfl, rfl⟩ := he
      obtain ⟨x, f1, g0, f2, e1, e2, e3, e4⟩ := hE.focus0 (i := i) (by rw [hg]; exact fun z => by cases z)
      rw [hg] at e2
      obtain ⟨v', rfl, hr⟩ := e2
      rw [hv] at e1
      obtain rfl : v = v' := Option.some.inj (Option.some.inj e1)
      subst e3
      have V3 := e4 Z (fun _ h => h) .no (some v) [] rfl
      rw [set_same hv] at V3
      refine ⟨f1 ++ ([] ++ f2), g0, V3, hr, ok.perm ?_, fun a ha => ?_, fun a ha => .inl (List.mem_append_right _ (List.mem_append_left _ ha))⟩
      · simp only [List.nil_append, List.append_assoc]
        refine List.Perm.append_left f1 ?_
        rw [← List.append_assoc, ← List.append_assoc]
        exact List.Perm.append_right h List.perm_append_comm
      · rcases List.mem_append.mp ha with q | q
        · exact List.mem_append_left _ q
        · exact List.mem_append_right _ (List.mem_append_right _ q)
    · cases he
def ROs (K : PySem.W.Frag) (H : Hp) (Z : AP) (σ : St) : List Opd → List V → List Addr → Prop
  | [], vs, g => vs = [] ∧ g = []
  | o :: os, vs, g => ∃ v w g1 g2, vs = v :: w ∧ RO K H Z σ o v g1 ∧ ROs K H Z σ os w g2 ∧ g = g1 ++ g2
def Vws (K : PySem.W.Frag) (H : Hp) (Z : AP) : List PyData → List V → Prop
  | [], vs => vs = []
  | p :: ps, vs => ∃ v w, vs = v :: w ∧ Vw K H Z p v ∧ Vws K H Z ps w
theorem ROs.trk : ∀ {os : List Opd} {vs : List V} {g : List Addr}, ROs K H Z σ os vs g → ∀ a ∈ g, H a ≠ none
  | [], _, _, ⟨_, e⟩, a, ha => by subst e; cases ha
  | o :: os, _, _, ⟨v, w, g1, g2, _, h1, h2, e⟩, a, ha => by
    subst e
    rcases List.mem_append.mp ha with q | q
    · exact h1.trk a q
    · exact ROs.trk h2 a q
theorem RO.mono (kz : ∀ a o, Z a → H a = some o → H' a = some o) (zz : ∀ a, Z a → Z' a) {o : Opd} {v : V} (kf : ∀ a ∈ g, ∀ o, H a = some o → H' a = some o) (q : RO K H Z σ o v g) : RO K H' Z' σ o v g := by
  cases o with
  | tm r => exact Rr.mono kz zz r v g kf q
  | vr i => exact q
theorem ROs.mono (kz : ∀ a o, Z a → H a = some o → H' a = some o) (zz : ∀ a, Z a → Z' a) : ∀ {os : List Opd} {vs : List V} {g : List Addr}, (∀ a ∈ g, ∀ o, H a = some o → H' a = some o) → ROs K H Z σ os vs g → ROs K H' Z' σ os vs g
  | [], _, _, _, h => h
  | o :: os, _, _, kf, ⟨v, w, g1, g2, e, h1, h2, q⟩ => by
    subst q
    exact ⟨v, w, g1, g2, e, h1.mono kz zz (fun a ha => kf a (List.mem_append_left _ ha)), ROs.mono kz zz (fun a ha => kf a (List.mem_append_right _ ha)) h2, rfl⟩
theorem Tr.ros (u : Tr H1 Z1 f1 H2 Z2 h) (o : Ok H1 Z1 (f1 ++ g1)) {os : List Opd} {vs : List V} (q : ROs K H1 Z1 σ os vs g1) : ROs K H2 Z2 σ os vs g1 :=
  q.mono (fun a x z e => u.zsame o.left z e) u.zle (fun a ha x e => u.same o ha e)
theorem Vws.mono (kz : ∀ a o, H a = some o → H' a = some o) (zz : ∀ a, Z a → Z' a) : ∀ {ps : List PyData} {vs : List V}, Vws K H Z ps vs → Vws K H' Z' ps vs
  | [], _, h => h
  | p :: ps, _, ⟨v, w, e, h1, h2⟩ => ⟨v, w, e, h1.mono kz zz, Vws.mono kz zz h2⟩
/-! ### steps behind an expression -/
theorem Post.vw {o : Opd} {v : V} {p : PyData} (P : Post K σ H Z f env1 H1 Z1 f1 (g ++ h)) (hO : RO K H1 Z1 σ o v g) (he : view o env1 = some (p, env')) :
    ∃ Z' f', Post K σ H Z f env' H1 Z' f' h ∧ Vw K H1 Z' p v ∧ (∀ a, Z1 a → Z' a) := by
  obtain ⟨Z', f', e1, e2, e3, e4, e5, e6⟩ := view_ok P.rel hO P.ok he
  refine ⟨Z', f', ⟨e1, e3, fun a z => e4 a (P.tr.zle a z), fun a z => ?_, P.tr.frm, fun a ha => ?_⟩, e2, e4⟩
  · rcases e5 a z with q | q | q
    · exact P.tr.zin a q
    · exact .inr (P.tr.sub a (List.mem_append_left _ q))
    · exact .inr (P.tr.sub a (List.mem_append_right _ (List.mem_append_left _ q)))
  · rcases List.mem_append.mp ha with q | q
    · exact P.tr.sub a (List.mem_append_left _ (e6 a q))
    · exact P.tr.sub a (List.mem_append_right _ (List.mem_append_right _ q))
theorem Post.own {o : Opd} {v : V} {r : R} (P : Post K σ H Z f env1 H1 Z1 f1 (g ++ h)) (hO : RO K H1 Z1 σ o v g) (he : own o env1 = some (r, env')) :
    ∃ f' g', Post K σ H Z f env' H1 Z1 f' (g' ++ h) ∧ Rr K H1 Z1 r v g' := by
  obtain ⟨f', g', e1, e2, e3, e4, e5⟩ := own_ok P.rel hO P.ok he
  refine ⟨f', g', ⟨e1, e3, P.tr.zle, P.tr.zin, P.tr.frm, fun a ha => ?_⟩, e2⟩
  rcases List.mem_append.mp ha with q | q
  · exact P.tr.sub a (List.mem_append_left _ (e4 a q))
  · rcases List.mem_append.mp q with q | q
    · rcases e5 a q with q | q
      · exact P.tr.sub a (List.mem_append_left _ q)
      · exact P.tr.sub a (List.mem_append_right _ (List.mem_append_left _ q))
    · exact P.tr.sub a (List.mem_append_right _ (List.mem_append_right _ q))
theorem Post.vws : ∀ {os : List Opd} {vs : List V} {ps : List PyData} {env1 env' : Env} {Z1 : AP} {f1 g : List Addr}, Post K σ H Z f env1 H1 Z1 f1 (g ++ h) → ROs K H1 Z1 σ os vs g → views os env1 = some (ps, env') →
    ∃ Z' f', Post K σ H Z f env' H1 Z' f' h ∧ Vws K H1 Z' ps vs ∧ (∀ a, Z1 a → Z' a)
  | [], _, _, _, _, Z1, f1, _, P, ⟨e1, e2⟩, he => by
    simp only [views, Option.some.injEq, Prod.mk.injEq] at he
    obtain ⟨rfl, rfl⟩ := he
    subst e2
    exact ⟨Z1, f1, P, e1, fun _ h => h⟩
  | o :: os, _, _, _, _, Z1, f1, _, P, ⟨v, w, g1, g2, e, h1, h2, q⟩, he => by
    subst q
    simp only [views, Option.bind_eq_some_iff, Option.some.injEq, Prod.mk.injEq] at he
    obtain ⟨x, hx, y, hy, rfl, rfl⟩ := he
    rw [List.append_assoc] at P
    obtain ⟨Z2, f2, P2, v2, z2⟩ := P.vw h1 (show view o _ = some (x.1, x.2) from hx)
    have h2' := h2.mono (fun _ _ _ e => e) z2 (fun _ _ _ e => e)
    obtain ⟨Z3, f3, P3, v3, z3⟩ := Post.vws P2 h2' (show views os _ = some (y.1, y.2) from hy)
    exact ⟨Z3, f3, P3, ⟨v, w, e, v2.mono (fun _ _ e => e) z3, v3⟩, fun a z => z3 a (z2 a z)⟩
theorem Post.owns : ∀ {os : List Opd} {vs : List V} {rs : List R} {env1 env' : Env} {f1 g h : List Addr}, Post K σ H Z f env1 H1 Z1 f1 (g ++ h) → ROs K H1 Z1 σ os vs g → Ev.owns os env1 = some (rs, env') →
    ∃ f' g', Post K σ H Z f env' H1 Z1 f' (g' ++ h) ∧ Rrs K H1 Z1 rs vs g'
  | [], _, _, _, _, f1, _, _, P, ⟨e1, e2⟩, he => by
    simp only [Ev.owns, Option.some.injEq, Prod.mk.injEq] at he
    obtain ⟨rfl, rfl⟩ := he
    subst e2
    exact ⟨f1, [], P, e1, rfl⟩
  | o :: os, _, _, _, _, f1, _, h, P, ⟨v, w, g1, g2, e, h1, h2, q⟩, he => by
    subst q
    simp only [Ev.owns, Option.bind_eq_some_iff, Option.some.injEq, Prod.mk.injEq] at he
    obtain ⟨x, hx, y, hy, rfl, rfl⟩ := he
    rw [List.append_assoc] at P
    obtain ⟨f2, k, P2, r2⟩ := P.own h1 (show Ev.own o _ = some (x.1, x.2) from hx)
    have P2' := P2.perm (g1 := g2 ++ (k ++ h)) (by rw [← List.append_assoc, ← List.append_assoc]; exact List.Perm.append_right h List.perm_append_comm)
    obtain ⟨f3, k3, P3, r3⟩ := Post.owns P2' h2 (show Ev.owns os _ = some (y.1, y.2) from hy)
    refine ⟨f3, k ++ k3, P3.perm ?_, v, w, k, k3, e, r2, r3, rfl⟩
    rw [← List.append_assoc]
    exact List.Perm.append_right h List.perm_append_comm
/-- a new value, over what stood -/
structure New (K : PySem.W.Frag) (H : Hp) (Z : AP) (r : R) (v : V) (H' : Hp) (Z' : AP) (g : List Addr) : Prop where
  same : ∀ a o, H a = some o → H' a = some o
  zle : ∀ a, Z a → Z' a
  zin : ∀ a, Z' a → Z a ∨ H a = none
  rep : Rr K H' Z' r v g
  ok : Ok H' Z' g
  fresh : ∀ a ∈ g, H a = none
theorem Post.new {r : R} {v : V} (P : Post K σ H Z f env1 H1 Z1 f1 []) (N : New K H1 Z1 r v H2 Z2 g) : Post K σ H Z f env1 H2 Z2 f1 g := by
  have P1 := P.ok
  rw [List.append_nil] at P1
  have t1 := P.rel.trk
  refine ⟨RelE.mono (fun a o _ e => N.same a o e) N.zle _ _ _ (fun a _ o e => N.same a o e) P.rel, ?_, fun a z => N.zle a (P.tr.zle a z), fun a z => ?_, fun a o e n => N.same a o (P.tr.frm a o e n), fun a ha => ?_⟩
  · refine Ok.mk3 ⟨P1.nd, fun a ha z => ?_, N.ok.trk⟩ N.ok.nd N.ok.sep fun a ha hb => t1 a ha (N.fresh a hb)
    rcases N.zin a z with q | q
    · exact P1.sep a ha q
    · exact t1 a ha q
  · rcases N.zin a z with q | q
    · exact P.tr.zin a q
    · exact .inr (P.tr.none_of q)
  · rcases List.mem_append.mp ha with q | q
    · exact P.tr.sub a (List.mem_append_left _ q)
    · exact P.tr.none_of (N.fresh a q)
end
end Ev
set_option autoImplicit false
set_option linter.all false
set_option maxRecDepth 100000
/-! Operations by values. -/
namespace PySem
open Sem (wp)
theorem ev_mulW (l : Addr) (items : Array Value) (n : Nat) (dd : Option Addr) (sl : Array (Option Value)) (x : Int) (u : Tok) (hc0 : ¬(!Builtin.List.listFitsIndex x) = true) (hc1 : ¬items.size * x.toNat > (2 ^ 63 - 1) / 8) (hc2 : ¬Builtin.List.listTooLong (items.size * x.toNat) = true) :
    Meets (Builtin.«list.__mul__» ⟨[.ref l, .int x u], []⟩) (fun _ R s => s.heap.get? l = some { cls := .type "list", dict := dd, data := .seq items n, slots := sl } ∧ R (.ok (.ret (Value.ref s.heap.objs.size))) { s with heap := s.heap.push { cls := Value.type "list", data := Data.seq (List.foldl (fun x1 x2 => x1 ++ x2) #[] (List.replicate (if items.isEmpty = true then 0 else x.toNat) items)) }, toks := s.toks }) :=
  .of_wp fun prog w A R s h => by
    obtain ⟨hp, g, d, tk, os⟩ := s
    obtain ⟨hl, h⟩ := h
    have fit := AutoListH.joined_fits hc2
    wp_walk using AutoSeq1.wpAny_loadPart' hl
    refine wpAny_ite_false (decide_eq_false (Nat.not_lt.mpr fit)) ?_
    wp_walk using AutoSeq1.wpAny_loadPart' hl
    exact ⟨_, rfl, h⟩
theorem ev_rmulW (a : Int) (t : Tok) (l : Addr) (items : Array Value) (n : Nat) (dd : Option Addr) (sl : Array (Option Value)) :
    Meets (Builtin.«int.__rmul__» ⟨[.int a t, .ref l], []⟩) (fun _ R s => s.heap.get? l = some { cls := .type "list", dict := dd, data := .seq items n, slots := sl } ∧ R (.ok (.ret Value.notImplemented)) s) :=
  .of_wp fun prog w A R s h => by
    obtain ⟨hp, g, d, tk, os⟩ := s
    obtain ⟨hl, h⟩ := h
    wp_walk using AutoSeq1.wpAny_loadPart' hl
    exact ⟨_, rfl, h⟩
end PySem
namespace Ev
open PySem L2 PyProof.Rows
theorem big_eq : big = sizeLine := rfl
section
variable {K : PySem.W.Frag} {H H' : Hp} {Z Z' : AP}
/-! ### new values -/
def Stood (H : Hp) (Z : AP) : Prop := ∀ a, Z a → H a ≠ none
theorem New.of {p : PyData} {v : V} (hz : Stood H Z) (h : Rp K H Z p v) : New K H Z (.val p) v H Z [] :=
  ⟨fun _ _ e => e, fun _ h => h, fun _ h => .inl h, ⟨rfl, h⟩, ⟨List.nodup_nil, (fun _ h => absurd h List.not_mem_nil), hz⟩, fun _ h => absurd h List.not_mem_nil⟩
theorem upd_keep {a p : Addr} {o u : HO} (hp : H p = none) (e : H a = some o) : upd H p u a = some o := by
  rw [upd_ne (ne_of_none e hp)]; exact e
theorem New.tup {ds : List PyData} {vs : List V} {p : Addr} (hz : Stood H Z) (hp : H p = none) (h : Rps K H Z ds vs) : New K H Z (.val (.tuple ds)) (.ref p) (upd H p (.tup vs)) (ZU Z [p]) [] := by
  refine ⟨fun a o e => upd_keep hp e, fun _ h => .inl h, fun a h => h.imp id fun q => by rw [List.mem_singleton.mp q]; exact hp, ⟨rfl, p, vs, rfl, .inl ⟨.inr (by simp), .inl upd_same⟩, Rps.mono (fun a o _ e => upd_keep hp e) (fun a z => .inl z) ds vs h⟩,
    ⟨List.nodup_nil, (fun _ h => absurd h List.not_mem_nil), fun a z => ?_⟩, fun _ h => absurd h List.not_mem_nil⟩
  rcases z with z | z
  · cases e : H a with
    | none => exact absurd e (hz a z)
    | some o => rw [upd_keep hp e]; exact fun q => by cases q
  · rw [List.mem_singleton.mp z, upd_same]; exact fun q => by cases q
theorem New.lst {ds : List PyData} {vs : List V} {p : Addr} (hz : Stood H Z) (hp : H p = none) (h : Rps K H Z ds vs) : New K H Z (vals ds) (.ref p) (upd H p (.lst vs)) Z [p] := by
  refine ⟨fun a o e => upd_keep hp e, fun _ h => h, fun a h => .inl h, ⟨p, vs, [], rfl, upd_same, Rps.own ds vs (Rps.mono (fun a o _ e => upd_keep hp e) (fun a z => z) ds vs h), rfl⟩,
    ⟨by simp, fun a ha z => ?_, fun a z => ?_⟩, fun a ha => by rw [List.mem_singleton.mp ha]; exact hp⟩
  · rw [List.mem_singleton.mp ha] at z; exact hz p z hp
  · cases e : H a with
    | none => exact absurd e (hz a z)
    | some o => rw [upd_keep hp e]; exact fun q => by cases q
/-! ### what is known of a view -/
theorem Rps.len : ∀ {ds : List PyData} {vs : List V}, Rps K H Z ds vs → vs.length = ds.length
  | [], _, h => by rw [show _ = [] from h]; rfl
  | d :: ds, _, ⟨v, r, e, h1, h2⟩ => by rw [e]; exact congrArg (· + 1) (Rps.len h2)
theorem Rps.append : ∀ {ds es : List PyData} {vs us : List V}, Rps K H Z ds vs → Rps K H Z es us → Rps K H Z (ds ++ es) (vs ++ us)
  | [], _, _, _, h, h' => by rw [show _ = [] from h]; exact h'
  | d :: ds, _, _, _, ⟨v, r, e, h1, h2⟩, h' => by rw [e]; exact ⟨v, r ++ _, rfl, h1, Rps.append h2 h'⟩
theorem Rps.get : ∀ {ds : List PyData} {vs : List V} {j : Nat} {d : PyData}, Rps K H Z ds vs → ds[j]? = some d → ∃ v, vs[j]? = some v ∧ Rp K H Z d v
  | [], _, _, _, h, e => by simp at e
  | d :: ds, _, 0, _, ⟨v, r, e, h1, h2⟩, q => by simp at q; subst q; subst e; exact ⟨v, rfl, h1⟩
  | d :: ds, _, j + 1, _, ⟨v, r, e, h1, h2⟩, q => by subst e; exact Rps.get (j := j) h2 (by simpa using q)
theorem Rps.drop : ∀ {ds : List PyData} {vs : List V} (n : Nat), Rps K H Z ds vs → Rps K H Z (ds.drop n) (vs.drop n)
  | _, _, 0, h => h
  | [], _, n + 1, h => by rw [show _ = [] from h]; exact rfl
  | d :: ds, _, n + 1, ⟨v, r, e, h1, h2⟩ => by subst e; exact Rps.drop n h2
theorem Rps.take : ∀ {ds : List PyData} {vs : List V} (n : Nat), Rps K H Z ds vs → Rps K H Z (ds.take n) (vs.take n)
  | _, _, 0, h => rfl
  | [], _, n + 1, h => by rw [show _ = [] from h]; exact rfl
  | d :: ds, _, n + 1, ⟨v, r, e, h1, h2⟩ => by subst e; exact ⟨v, _, rfl, h1, Rps.take n h2⟩
theorem NT.sq {a : Addr} {vs : List V} (h : NT K H Z a vs) : SqT K H a vs := by
  rcases h with h | h
  · exact .inl h.2
  · rcases h with h | h
    · rcases h with h | ⟨o, h⟩ <;> cases h
    · exact .inr h
theorem Rd.sqL {a : Addr} {vs : List V} (h : Rd H a (.lst vs)) : SqL K H a vs := .inl h
mutual
theorem Rp.dp : ∀ (p : PyData) (v : V), p.canLay0 = true → Rp K H Z p v → Dp K H v p
  | .none, _, _, h => by rw [show _ = V.non from h]; exact .non
  | .bool b, _, _, h => by rw [show _ = V.bl b from h]; exact .bl b
  | .int i, _, _, h => by rw [show _ = V.int i from h]; exact .int i
  | .str x, _, _, h => by rw [show _ = V.str x from h]; exact .str x
  | .list ds, _, c, ⟨a, vs, e, n, r⟩ => by subst e; exact .lst n.sq (Rps.dp ds vs (by simpa only [PyData.canLay0] using c) r)
  | .tuple ds, _, c, ⟨a, vs, e, n, r⟩ => by subst e; exact .tup n.sq (Rps.dp ds vs (by simpa only [PyData.canLay0] using c) r)
  | .dict _, _, c, _ => by simp [PyData.canLay0] at c
theorem Rps.dp : ∀ (ds : List PyData) (vs : List V), PyData.canLayAll0 ds = true → Rps K H Z ds vs → DpAll K H vs ds
  | [], _, _, h => by rw [show _ = [] from h]; exact .nil
  | d :: ds, _, c, ⟨v, r, e, h1, h2⟩ => by
    subst e
    have c' : d.canLay0 = true ∧ PyData.canLayAll0 ds = true := by simpa only [PyData.canLayAll0, Bool.and_eq_true] using c
    exact .cons (Rp.dp d v c'.1 h1) (Rps.dp ds r c'.2 h2)
end
theorem Vw.dp {p : PyData} {v : V} (c : SeqAt.shaped p = true) (h : Vw K H Z p v) : Dp K H v p := by
  have c := SeqAt.canLay_of_shaped c
  cases p with
  | list ds => obtain ⟨a, vs, e, n, r⟩ := h; subst e; exact .lst n (Rps.dp ds vs (by simpa only [PyData.canLay0] using c) r)
  | dict _ => simp [PyData.canLay0] at c
  | none => exact Rp.dp (Z := Z) _ v c h
  | bool _ => exact Rp.dp (Z := Z) _ v c h
  | int _ => exact Rp.dp (Z := Z) _ v c h
  | str _ => exact Rp.dp (Z := Z) _ v c h
  | tuple _ => exact Rp.dp (Z := Z) _ v c h
end
/-! ### readings by values -/
def rV (K : PySem.W.Frag) (op : PyData → PyData → Option R) : R2 := fun x y H Q => ∃ Z p q r, Stood H Z ∧ Vw K H Z p x ∧ Vw K H Z q y ∧ op p q = some r ∧ ∀ v H' Z' g, New K H Z r v H' Z' g → Q v H'
def rVs (K : PySem.W.Frag) (op : List PyData → Option R) : List V → Hp → VK → Prop := fun xs H Q => ∃ Z ps r, Stood H Z ∧ Vws K H Z ps xs ∧ op ps = some r ∧ ∀ v H' Z' g, New K H Z r v H' Z' g → Q v H'
section
variable {X : Cx}
theorem OpR.imp {f : Value → Value → Sem Value} {r r' : R2} (h : OpR X f r) (k : ∀ x y H Q, r' x y H Q → r x y H Q) : OpR X f r' :=
  fun pins s σ H x y v u Q I rx ry q => h pins s σ H x y v u Q I rx ry (k x y H Q q)
theorem CallR.imp {f : Value} {r r' : List V → Hp → VK → Prop} (h : CallR X f r) (k : ∀ xs H Q, r' xs H Q → r xs H Q) : CallR X f r' :=
  fun pins s σ H xs us Q I rx q => h pins s σ H xs us Q I rx (k xs H Q q)
/-- by cases of what is asked -/
theorem OpR.either {f : Value → Value → Sem Value} {r : R2} (h : ∀ x y H Q, r x y H Q → ∃ r', OpR X f r' ∧ r' x y H Q) : OpR X f r := fun pins s σ H x y v u Q I rx ry q => by
  obtain ⟨r', h1, h2⟩ := h x y H Q q
  exact h1 pins s σ H x y v u Q I rx ry h2
theorem CallR.either {f : Value} {r : List V → Hp → VK → Prop} (h : ∀ xs H Q, r xs H Q → ∃ r', CallR X f r' ∧ r' xs H Q) : CallR X f r := fun pins s σ H xs us Q I rx q => by
  obtain ⟨r', h1, h2⟩ := h xs H Q q
  exact h1 pins s σ H xs us Q I rx h2
/-- lists together, both to be read -/
theorem op_catR : OpR X (binaryOp .Add) (fun x y H Q => ∃ l b xs zs, x = .ref l ∧ y = .ref b ∧ SqL X.K H l xs ∧ SqL X.K H b zs ∧ xs.length + zs.length ≤ sizeLine ∧ ∀ p, H p = none → Q (.ref p) (upd H p (.lst (xs ++ zs)))) := by
  intro pins s σ H x y v u Q I rx ry h
  obtain ⟨l, b, xs, zs, rfl, rfl, hH, hB, hz, q⟩ := h
  cases rx
  cases ry
  obtain ⟨its, r, p1, n1⟩ := I.list hH
  obtain ⟨its2, r2, p2, n2⟩ := I.list hB
  have hl := r.length
  have hl2 := r2.length
  obtain ⟨⟨cls, dd, data, sl⟩, ho, hc, n, hd⟩ := p1.isList
  obtain ⟨⟨cls2, dd2, data2, sl2⟩, ho2, hc2, m, hd2⟩ := p2.isList
  simp only at hc hd hc2 hd2
  subst hc hd hc2 hd2
  have fits : its.toArray.size + its2.toArray.size ≤ sizeLine := by rw [List.size_toArray, List.size_toArray]; omega
  refine concat_meets ⟨_, ho, rfl⟩ ⟨_, ho2, rfl⟩ noFill_list_add seq_list_add F.slot_list_add F.entry_list_add (F.args_list_add_2 _ _) (PyProof.Rows.list_addW l b its.toArray its2.toArray n m dd dd2 sl sl2 fits) ⟨ho, ho2, ?_⟩
  have ea : its.toArray ++ its2.toArray = (its ++ its2).toArray := by simp
  rw [ea]
  exact ⟨.ref _, _, I.lnew (t' := s.toks) (r.append r2) (by rw [List.length_append]; omega), rfl, q _ I.fresh⟩
theorem small_of {i : Int} (h : small i = true) : -(2 ^ 64) < i ∧ i < 2 ^ 64 := by
  simp only [small, decide_eq_true_eq] at h
  omega
/-- a list to be read, so often -/
theorem op_repR : OpR X (binaryOp .Mult) (fun x y H Q => ∃ l k xs, x = .ref l ∧ y = .int k ∧ SqL X.K H l xs ∧ 0 ≤ k ∧ k ≤ 1000 ∧ xs.length ≤ 1000 ∧ ∀ p, H p = none → Q (.ref p) (upd H p (.lst (List.replicate k.toNat xs).flatten))) := by
  intro pins s σ H x y v u Q I rx ry h
  obtain ⟨l, k, xs, rfl, rfl, hR, k0, k1, kx, q⟩ := h
  cases rx
  obtain ⟨tk, rfl⟩ := ry
  obtain ⟨its, rv, p1, _⟩ := I.list hR
  obtain ⟨⟨cls, dd, data, sl⟩, eo, hcl, ep, hd⟩ := p1.isList
  simp only at hcl hd
  subst hcl hd
  have le1 : its.length = xs.length := rv.length.symm
  have sz : its.toArray.size = xs.length := by rw [List.size_toArray, le1]
  have few : xs.length * k.toNat ≤ 1000 * 1000 := Nat.mul_le_mul kx (by omega)
  have inline' : its.toArray.size * k.toNat ≤ sizeLine := by
    rw [sz, sizeLine_eq]; omega
  have c1 : ¬ (!Builtin.List.listFitsIndex k) = true := by
    rw [fitsIndex_both (by omega) (by omega)]; exact Bool.false_ne_true
  have c2 : ¬ its.toArray.size * k.toNat > (2 ^ 63 - 1) / 8 := by
    have w : (sizeLine : Nat) ≤ (2 ^ 63 - 1) / 8 := by decide
    omega
  have c3 : ¬ Builtin.List.listTooLong (its.toArray.size * k.toNat) = true := by
    rw [notLongL inline']; exact Bool.false_ne_true
  have same : List.foldl (fun a b => a ++ b) #[] (List.replicate (if its.toArray.isEmpty = true then 0 else k.toNat) its.toArray) = (List.replicate k.toNat its).flatten.toArray := by
    have gen : ∀ m : Nat, List.foldl (fun a b => a ++ b) #[] (List.replicate m its.toArray) = (List.replicate m its).flatten.toArray := fun m => size_rep its m
    rw [gen]
    cases its with
    | nil => simp
    | cons a r' => simp
  have inner := call_meets (prog := X.prog) (w := X.w) F.slot_list_mul (show s.TypeIs (.ref l) "list" from ⟨_, eo, rfl⟩) F.entry_list_mul (F.args_list_mul_2 _ _) (ev_mulW l its.toArray ep dd sl k tk c1 c2 c3) (A := X.A) (E := X.xe) (Q := EP X pins σ Q) (s := s) ⟨eo, by
    rw [same]
    exact ⟨.ref _, _, I.lnew (t' := s.toks) (rv.rep k.toNat) (by rw [PyProof.Rows.lm_len_rep_flat, Nat.mul_comm, sizeLine_eq]; omega), rfl, q _ I.fresh⟩⟩
  have road := call_meets (prog := X.prog) (w := X.w) (A := X.A) (E := X.xe) (s := s) F.slot_int_rmul (typeIs_int s k tk) F.entry_int_rmul (F.args_int_rmul_2 _ _) (ev_rmulW k tk l its.toArray ep dd sl)
    (Q := fun z s' => z = .notImplemented ∧ s'.TypeIs (.ref l) "list" ∧ wpAny (model X.prog X.w) X.A (call (.builtin "list.__mul__") [.ref l, .int k tk]) (EP X pins σ Q) X.xe s')
    ⟨eo, rfl, ⟨_, eo, rfl⟩, inner⟩
  exact wpAny_binaryOp_repeat_ref (T := "list") (U := "int") (by decide) ⟨_, eo, rfl⟩ (fun s' => typeIs_int s' k tk)
    noFill_list_mul F.fills_int_mul F.slot_int_rmul repeat_list F.slot_int_index.lookup road
/-- the operators -/
def bopOf : Bop → Operator
  | .add => .Add | .sub => .Sub | .mul => .Mult | .fdiv => .FloorDiv | .mod => .Mod | .pow => .Pow
theorem Rps.flat {K : PySem.W.Frag} {H : Hp} {Z : AP} {ds : List PyData} {vs : List V} (h : Rps K H Z ds vs) : ∀ n : Nat, Rps K H Z (List.replicate n ds).flatten (List.replicate n vs).flatten
  | 0 => rfl
  | n + 1 => by
    rw [List.replicate_succ, List.replicate_succ, List.flatten_cons, List.flatten_cons]
    exact h.append (Rps.flat h n)
theorem or_bin (o : Bop) : OpR X (binaryOp (bopOf o)) (rV X.K (binop o)) := by
  refine OpR.either fun x y H Q ⟨Z, p, q, r, hz, hp, hq, hr, k⟩ => ?_
  cases o
  · cases p <;> cases q <;> simp only [binop, reduceCtorEq, Option.some.injEq] at hr
    case int i j =>
      subst hr
      exact ⟨_, op_add, i, j, hp, hq, k _ _ _ _ (New.of hz rfl)⟩
    case str a b =>
      split at hr
      · rename_i hl
        obtain rfl := Option.some.inj hr
        exact ⟨_, op_add_str, a, b, hp, hq, hl, k _ _ _ _ (New.of hz rfl)⟩
      · cases hr
    case list ds es =>
      split at hr
      · rename_i hl
        obtain rfl := Option.some.inj hr
        obtain ⟨a, vs, e, n, w⟩ := hp
        obtain ⟨b, us, e', n', w'⟩ := hq
        exact ⟨_, op_catR, a, b, vs, us, e, e', n, n', by rw [w.len, w'.len]; exact hl, fun p' hp' => k _ _ _ _ (New.lst hz hp' (w.append w'))⟩
      · cases hr
    case tuple ds es =>
      split at hr
      · rename_i hl
        obtain rfl := Option.some.inj hr
        have hp0 : Rp X.K H Z (.tuple ds) x := hp
        have hq0 : Rp X.K H Z (.tuple es) y := hq
        obtain ⟨a, vs, e, n, w⟩ := hp
        obtain ⟨b, us, e', n', w'⟩ := hq
        refine ⟨_, op_catA, a, b, vs, us, e, e', n.sq, n'.sq, by rw [w.len, w'.len]; exact hl, fun z => ?_, fun z z' => ?_, fun z z' p' hp' => k _ _ _ _ (New.tup hz hp' (w.append w'))⟩
        · have q1 := w.len
          rw [z] at q1
          have q2 : ds = [] := List.eq_nil_of_length_eq_zero q1.symm
          subst q2
          rw [← e']
          exact k _ _ _ _ (New.of hz hq0)
        · have q1 := w'.len
          rw [z'] at q1
          have q2 : es = [] := List.eq_nil_of_length_eq_zero q1.symm
          subst q2
          rw [← e, List.append_nil] at *
          exact k _ _ _ _ (New.of hz hp0)
      · cases hr
  · cases p <;> cases q <;> simp only [binop, reduceCtorEq, Option.some.injEq] at hr
    case int i j =>
      subst hr
      exact ⟨_, op_sub, i, j, hp, hq, k _ _ _ _ (New.of hz rfl)⟩
  · cases p <;> cases q <;> simp only [binop, reduceCtorEq, Option.some.injEq] at hr
    case mul.int.int i j =>
      split at hr
      · rename_i hl
        obtain rfl := Option.some.inj hr
        refine ⟨_, op_mul, i, j, hp, hq, ?_, k _ _ _ _ (New.of hz rfl)⟩
        rcases Bool.or_eq_true _ _ |>.mp hl with h | h
        · exact .inl (small_of h)
        · exact .inr (small_of h)
      · cases hr
    case mul.list.int ds j =>
      split at hr
      · rename_i hl
        obtain rfl := Option.some.inj hr
        obtain ⟨a, vs, e, n, w⟩ := hp
        exact ⟨_, op_repR, a, j, vs, e, hq, n, hl.1, hl.2.1, by rw [w.len]; exact hl.2.2, fun p' hp' => k _ _ _ _ (New.lst hz hp' (w.flat _))⟩
      · cases hr
    case mul.tuple.int ds j =>
      split at hr
      · rename_i hl
        obtain rfl := Option.some.inj hr
        obtain ⟨a, vs, e, n, w⟩ := hp
        refine ⟨_, op_repT, a, j, vs, e, hq, n.sq, ?_, ?_, hl.2.1, by rw [w.len]; exact hl.2.2.2, fun p' hp' => k _ _ _ _ (New.tup hz hp' (w.flat _))⟩
        · intro z
          have q1 := w.len
          rw [z] at q1
          exact hl.2.2.1 (List.eq_nil_of_length_eq_zero q1.symm)
        · exact hl.1
      · cases hr
  · cases p <;> cases q <;> simp only [binop, reduceCtorEq, Option.some.injEq] at hr
    case int i j =>
      split at hr
      · rename_i hl
        obtain rfl := Option.some.inj hr
        exact ⟨_, op_fdiv, i, j, hp, hq, hl, k _ _ _ _ (New.of hz rfl)⟩
      · cases hr
  · cases p <;> cases q <;> simp only [binop, reduceCtorEq, Option.some.injEq] at hr
    case int i j =>
      split at hr
      · rename_i hl
        obtain rfl := Option.some.inj hr
        exact ⟨_, op_mod, i, j, hp, hq, hl, k _ _ _ _ (New.of hz rfl)⟩
      · cases hr
  · cases p <;> cases q <;> simp only [binop, reduceCtorEq, Option.some.injEq] at hr
    case int i j =>
      split at hr
      · rename_i hl
        obtain rfl := Option.some.inj hr
        exact ⟨_, op_pow, i, j, hp, hq, ⟨hl.1, hl.2.1, hl.2.2⟩, k _ _ _ _ (New.of hz rfl)⟩
      · cases hr
/-! ### comparisons -/
def copOf : Cop → CmpOp
  | .eq => .Eq | .ne => .NotEq | .lt => .Lt | .le => .LtE | .gt => .Gt | .ge => .GtE | .isin => .In | .notin => .NotIn | .is => .Is | .isnot => .IsNot
theorem room_in {d : PyData} {A : Around} {m : Nat} (sd : SeqAt.shaped d = true) (hu : A.units + 65 < cLine) : A.units + 1 + min m d.depth < cLine := by
  have h1 := SeqAt.depth_of_shaped sd
  have h2 : min m d.depth ≤ d.depth := Nat.min_le_right _ _
  omega
theorem op_inT (hu : X.A.units + 65 < cLine) : OpR X (compareOp .In) (fun x y H Q => ∃ d ds, Dp X.K H x d ∧ Dp X.K H y (.tuple ds) ∧ SeqAt.shaped d = true ∧ SeqAt.shaped (.tuple ds) = true ∧ Q (.bl (ds.any fun z => z.eqv d)) H) := by
  intro pins s σ H x y v u Q I rx ry h
  obtain ⟨d, ds, hd, he, sd, se, q⟩ := h
  obtain ⟨as, r1⟩ := Dp.reads I d x v hd rx
  obtain ⟨bs, r2⟩ := Dp.reads I (.tuple ds) y u he ry
  exact SeqAt.in_tuple_reads r2 r1 (SeqAt.canLay_of_shaped se) (SeqAt.canLay_of_shaped sd) (room_in sd hu) ⟨.bl _, H, I, rfl, q⟩
theorem op_notInT (hu : X.A.units + 65 < cLine) : OpR X (compareOp .NotIn) (fun x y H Q => ∃ d ds, Dp X.K H x d ∧ Dp X.K H y (.tuple ds) ∧ SeqAt.shaped d = true ∧ SeqAt.shaped (.tuple ds) = true ∧ Q (.bl (!ds.any fun z => z.eqv d)) H) := by
  intro pins s σ H x y v u Q I rx ry h
  obtain ⟨d, ds, hd, he, sd, se, q⟩ := h
  obtain ⟨as, r1⟩ := Dp.reads I d x v hd rx
  obtain ⟨bs, r2⟩ := Dp.reads I (.tuple ds) y u he ry
  exact SeqAt.notIn_tuple_reads r2 r1 (SeqAt.canLay_of_shaped se) (SeqAt.canLay_of_shaped sd) (room_in sd hu) ⟨.bl _, H, I, rfl, q⟩
/-! a dict's keys -/
def kP : Key → PyData
  | .inl i => .int i
  | .inr x => .str x
theorem kP_eqv (a b : Key) : (kP a).eqv (kP b) = decide (a = b) := by
  cases a with
  | inl a => cases b with
    | inl b => simp only [kP, PyData.eqv]; rw [key_ll]
    | inr b => simp [kP, PyData.eqv, key_lr]
  | inr a => cases b with
    | inl b => simp [kP, PyData.eqv, key_rl]
    | inr b => simp only [kP, PyData.eqv]; rw [key_rr]; simp only [Bool.beq_eq_decide_eq]
theorem flat_key {K : PySem.W.Frag} {H : Hp} {Z : AP} {p : PyData} {k : Key} (h : Rp K H Z p (kV k)) : flatKey p = true → p = kP k := by
  intro f
  cases p with
  | int i => cases k with
    | inl j => rw [V.int.inj (show kV (.inl j) = V.int i from h)]; rfl
    | inr j => exact nomatch (show kV (.inr j) = V.int i from h)
  | str i => cases k with
    | inl j => exact nomatch (show kV (.inl j) = V.str i from h)
    | inr j => rw [V.str.inj (show kV (.inr j) = V.str i from h)]; rfl
  | none => cases f
  | bool _ => cases f
  | list _ => cases f
  | tuple _ => cases f
  | dict _ => cases f
theorem flat_of {K : PySem.W.Frag} {H : Hp} {Z : AP} {p : PyData} {y : V} (h : Rp K H Z p y) (f : flatKey p = true) : ∃ k, y = kV k ∧ p = kP k := by
  cases p with
  | int i => exact ⟨.inl i, h, rfl⟩
  | str i => exact ⟨.inr i, h, rfl⟩
  | none => cases f
  | bool _ => cases f
  | list _ => cases f
  | tuple _ => cases f
  | dict _ => cases f
/-- the entries as the evaluator and as the layer have them -/
theorem rpk_flat {K : PySem.W.Frag} {H : Hp} {Z : AP} : ∀ {kvs : List (PyData × PyData)} {ks : List (Key × V)}, Rpk K H Z kvs (ks.map fun e => (kV e.1, e.2)) → (kvs.map (·.1)).all flatKey = true →
    Paired (fun (a : PyData × PyData) (b : Key × V) => a.1 = kP b.1 ∧ Rp K H Z a.2 b.2) kvs ks
  | [], [], _, _ => .nil
  | [], _ :: _, h, _ => by simp [Rpk] at h
  | (k, d) :: kvs, [], h, _ => by
    obtain ⟨x, y, r, e, _⟩ := h
    simp at e
  | (k, d) :: kvs, (j, v) :: ks, ⟨x, y, r, e, h1, h2, h3⟩, f => by
    simp only [List.map_cons, List.cons.injEq, Prod.mk.injEq] at e
    obtain ⟨⟨rfl, rfl⟩, rfl⟩ := e
    simp only [List.map_cons, List.all_cons, Bool.and_eq_true] at f
    exact .cons ⟨flat_key h1 f.1, h2⟩ (rpk_flat h3 f.2)
theorem kOk_flat {ks : List PyData} {k : Key} (h : kOk ks (kP k) = true) : ks.all flatKey = true := by
  cases k <;> simpa [kOk, kP, flatKey] using h
theorem paired_find {K : PySem.W.Frag} {H : Hp} {Z : AP} (k : Key) : ∀ {kvs : List (PyData × PyData)} {ks : List (Key × V)}, Paired (fun (a : PyData × PyData) (b : Key × V) => a.1 = kP b.1 ∧ Rp K H Z a.2 b.2) kvs ks →
    (dget kvs (kP k) = none ∧ valV ks k = none) ∨ ∃ d v, dget kvs (kP k) = some d ∧ valV ks k = some v ∧ Rp K H Z d v
  | _, _, .nil => .inl ⟨rfl, rfl⟩
  | (p, d) :: kvs, (j, v) :: ks, .cons ⟨e, r⟩ t => by
    have e' : p = kP j := e
    subst e'
    by_cases hk : j = k
    · subst hk
      refine .inr ⟨d, v, ?_, valV_pos rfl, r⟩
      simp [dget, List.find?_cons, kP_eqv]
    · rcases paired_find k t with ⟨h1, h2⟩ | ⟨d', v', h1, h2, h3⟩
      · refine .inl ⟨?_, by rw [valV_neg hk]; exact h2⟩
        simpa [dget, List.find?_cons, kP_eqv, hk] using h1
      · refine .inr ⟨d', v', ?_, by rw [valV_neg hk]; exact h2, h3⟩
        simpa [dget, List.find?_cons, kP_eqv, hk] using h1
theorem dget_some (kvs : List (PyData × PyData)) (k : PyData) : (kvs.any fun e => e.1.eqv k) = (dget kvs k).isSome := by
  induction kvs with
  | nil => rfl
  | cons e kvs ih =>
    cases h : e.1.eqv k
    · simpa [dget, List.find?_cons, h] using ih
    · simp [dget, List.find?_cons, h]
theorem op_inK (hu : X.A.units + 1 < cLine) : OpR X (compareOp .In) (fun x y H Q => ∃ a ks k, x = kV k ∧ y = .ref a ∧ H a = some (.dK ks) ∧ Q (.bl (valV ks k).isSome) H) := by
  intro pins s σ H x y v u Q I rx ry h
  obtain ⟨a, ks, k, rfl, rfl, e, q⟩ := h
  cases ry
  exact d_in hu I (DGet.k e) rx fun s3 I3 => ⟨.bl _, H, I3, rfl, q⟩
theorem op_notInK (hu : X.A.units + 1 < cLine) : OpR X (compareOp .NotIn) (fun x y H Q => ∃ a ks k, x = kV k ∧ y = .ref a ∧ H a = some (.dK ks) ∧ Q (.bl (!(valV ks k).isSome)) H) := by
  intro pins s σ H x y v u Q I rx ry h
  obtain ⟨a, ks, k, rfl, rfl, e, q⟩ := h
  cases ry
  exact d_notIn hu I (DGet.k e) rx fun s3 I3 => ⟨.bl _, H, I3, rfl, q⟩
/-- a key and a dict by values -/
theorem vw_key {K : PySem.W.Frag} {H : Hp} {Z : AP} {p : PyData} {v : V} (f : flatKey p = true) (h : Vw K H Z p v) : ∃ k, v = kV k ∧ p = kP k := by
  cases p with
  | int i => exact ⟨.inl i, h, rfl⟩
  | str i => exact ⟨.inr i, h, rfl⟩
  | none => cases f
  | bool _ => cases f
  | list _ => cases f
  | tuple _ => cases f
  | dict _ => cases f
theorem or_cmp (o : Cop) (hu : X.A.units + 65 < cLine) : OpR X (compareOp (copOf o)) (rV X.K (fun p q => (cmpop o p q).map fun b => .val (.bool b))) := by
  refine OpR.either fun x y H Q ⟨Z, p, q, r, hz, hp, hq, hr, k⟩ => ?_
  obtain ⟨b, hb, rfl⟩ := Option.map_eq_some_iff.mp hr
  have K1 := k _ _ _ _ (New.of (p := .bool b) (v := .bl b) hz rfl)
  have isI : ∀ {c : Bool}, inp p q = some c → (∃ ds, q = .list ds ∧ SeqAt.shaped p = true ∧ SeqAt.shaped (.list ds) = true ∧ c = ds.any fun z => z.eqv p) ∨ (∃ ds, q = .tuple ds ∧ SeqAt.shaped p = true ∧ SeqAt.shaped (.tuple ds) = true ∧ c = ds.any fun z => z.eqv p) ∨
      ∃ kvs, q = .dict kvs ∧ kOk (kvs.map (·.1)) p = true ∧ c = kvs.any fun e => e.1.eqv p := by
    intro c h
    cases q <;> simp only [inp, reduceCtorEq] at h
    case list ds =>
      split at h
      · rename_i s; rw [Bool.and_eq_true] at s
        exact .inl ⟨ds, rfl, s.1, s.2, (Option.some.inj h).symm⟩
      · cases h
    case tuple ds =>
      split at h
      · rename_i s; rw [Bool.and_eq_true] at s
        exact .inr (.inl ⟨ds, rfl, s.1, s.2, (Option.some.inj h).symm⟩)
      · cases h
    case dict kvs =>
      split at h
      · rename_i s
        exact .inr (.inr ⟨kvs, rfl, s, (Option.some.inj h).symm⟩)
      · cases h
  have dic : ∀ {kvs : List (PyData × PyData)}, q = .dict kvs → kOk (kvs.map (·.1)) p = true → ∃ a ks k, x = kV k ∧ y = .ref a ∧ H a = some (.dK ks) ∧ (kvs.any fun e => e.1.eqv p) = (valV ks k).isSome := by
    intro kvs e h
    subst e
    obtain ⟨a, es, e, ⟨ks, n, q'⟩, w⟩ := hq
    subst q'
    obtain ⟨f1, f2⟩ : flatKey p = true ∧ (kvs.map (·.1)).all flatKey = true := by simpa only [kOk, Bool.and_eq_true] using h
    obtain ⟨k, e1, e2⟩ := vw_key f1 hp
    subst e2
    refine ⟨a, ks, k, e1, e, n, ?_⟩
    rw [dget_some]
    rcases paired_find k (rpk_flat w f2) with ⟨h1, h2⟩ | ⟨d', v', h1, h2, h3⟩
    · rw [h1, h2]; rfl
    · rw [h1, h2]; rfl
  cases o
  case eq =>
    simp only [cmpop, eqp] at hb
    split at hb
    · rename_i s; rw [Bool.and_eq_true] at s
      refine ⟨_, op_eqD (by omega), p, q, hp.dp s.1, hq.dp s.2, s.1, s.2, ?_⟩
      rw [Option.some.inj hb]; exact K1
    · cases hb
  case ne =>
    simp only [cmpop, eqp] at hb
    split at hb
    · rename_i s; rw [Bool.and_eq_true] at s
      refine ⟨_, op_neD (by omega), p, q, hp.dp s.1, hq.dp s.2, s.1, s.2, ?_⟩
      rw [show (!p.eqv q) = b from Option.some.inj hb]; exact K1
    · cases hb
  case lt =>
    cases p <;> cases q <;> simp only [cmpop, reduceCtorEq, Option.some.injEq] at hb
    subst hb
    exact ⟨_, op_lt, _, _, hp, hq, K1⟩
  case le =>
    cases p <;> cases q <;> simp only [cmpop, reduceCtorEq, Option.some.injEq] at hb
    subst hb
    exact ⟨_, op_le, _, _, hp, hq, K1⟩
  case gt =>
    cases p <;> cases q <;> simp only [cmpop, reduceCtorEq, Option.some.injEq] at hb
    subst hb
    exact ⟨_, op_gt, _, _, hp, hq, K1⟩
  case ge =>
    cases p <;> cases q <;> simp only [cmpop, reduceCtorEq, Option.some.injEq] at hb
    subst hb
    exact ⟨_, op_ge, _, _, hp, hq, K1⟩
  case isin =>
    rcases isI hb with ⟨ds, e, s1, s2, e2⟩ | ⟨ds, e, s1, s2, e2⟩ | ⟨kvs, e, h, e2⟩
    · subst e; subst e2; exact ⟨_, op_inD hu, p, ds, hp.dp s1, hq.dp s2, s1, s2, K1⟩
    · subst e; subst e2; exact ⟨_, op_inT hu, p, ds, hp.dp s1, hq.dp s2, s1, s2, K1⟩
    · obtain ⟨a, ks, k', h1, h2, h3, h4⟩ := dic e h
      rw [e2, h4] at K1
      exact ⟨_, op_inK (by omega), a, ks, k', h1, h2, h3, K1⟩
  case notin =>
    simp only [cmpop] at hb
    obtain ⟨c, hc, rfl⟩ := Option.map_eq_some_iff.mp hb
    rcases isI hc with ⟨ds, e, s1, s2, e2⟩ | ⟨ds, e, s1, s2, e2⟩ | ⟨kvs, e, h, e2⟩
    · subst e; subst e2; exact ⟨_, op_notInD hu, p, ds, hp.dp s1, hq.dp s2, s1, s2, K1⟩
    · subst e; subst e2; exact ⟨_, op_notInT hu, p, ds, hp.dp s1, hq.dp s2, s1, s2, K1⟩
    · obtain ⟨a, ks, k', h1, h2, h3, h4⟩ := dic e h
      rw [e2, h4] at K1
      exact ⟨_, op_notInK (by omega), a, ks, k', h1, h2, h3, K1⟩
  case is =>
    cases q <;> simp only [cmpop, reduceCtorEq, Option.some.injEq] at hb
    subst hb
    refine ⟨_, op_isN, hq, ?_⟩
    have e : decide (x = V.non) = isN p := by
      cases p with
      | none => rw [show x = V.non from hp]; rfl
      | bool _ => rw [show x = V.bl _ from hp]; rfl
      | int _ => rw [show x = V.int _ from hp]; rfl
      | str _ => rw [show x = V.str _ from hp]; rfl
      | list _ => obtain ⟨a, _, e, _⟩ := hp; rw [e]; rfl
      | tuple _ => obtain ⟨a, _, e, _⟩ := hp; rw [e]; rfl
      | dict _ => obtain ⟨a, _, e, _⟩ := hp; rw [e]; rfl
    rw [e]; exact K1
  case isnot =>
    cases q <;> simp only [cmpop, reduceCtorEq, Option.some.injEq] at hb
    subst hb
    refine ⟨_, op_notN, hq, ?_⟩
    have e : decide (x = V.non) = isN p := by
      cases p with
      | none => rw [show x = V.non from hp]; rfl
      | bool _ => rw [show x = V.bl _ from hp]; rfl
      | int _ => rw [show x = V.int _ from hp]; rfl
      | str _ => rw [show x = V.str _ from hp]; rfl
      | list _ => obtain ⟨a, _, e, _⟩ := hp; rw [e]; rfl
      | tuple _ => obtain ⟨a, _, e, _⟩ := hp; rw [e]; rfl
      | dict _ => obtain ⟨a, _, e, _⟩ := hp; rw [e]; rfl
    rw [e]; exact K1
end
end Ev
set_option autoImplicit false
set_option linter.all false
set_option maxRecDepth 100000
/-! Expressions: the evaluator's answer is the model's. -/
namespace Ev
open PySem L2 PyProof.Rows
/-! ### readings -/
def tEv (K : PySem.W.Frag) (O : Orc) (m : ME) : TE := fun σ H Q => ∃ env Z f o env', RelE K H Z env σ f ∧ Ok H Z f ∧ ev O m env = some (o, env') ∧ ∀ v H' Z' f' g, Post K σ H Z f env' H' Z' f' g → RO K H' Z' σ o v g → Q v H'
def tAs (K : PySem.W.Frag) (O : Orc) (ms : List ME) : TA := fun σ H Q => ∃ env Z f os env', RelE K H Z env σ f ∧ Ok H Z f ∧ evs O ms env = some (os, env') ∧ ∀ vs H' Z' f' g, Post K σ H Z f env' H' Z' f' g → ROs K H' Z' σ os vs g → Q vs H'
def evB (O : Orc) (m : ME) (env : Env) : Option (Bool × Env) := (ev O m env).bind fun x => (view x.1 x.2).bind fun p => (asB p.1).bind fun c => some (c, p.2)
def tTs (K : PySem.W.Frag) (O : Orc) (m : ME) : TT := fun σ H Q => ∃ env Z f b env', RelE K H Z env σ f ∧ Ok H Z f ∧ evB O m env = some (b, env') ∧ ∀ H' Z' f', Post K σ H Z f env' H' Z' f' [] → Q b H'
theorem PE.imp {X : Cx} {e : Expr} {t t' : TE} (h : PE X e t) (k : ∀ σ H Q, t' σ H Q → t σ H Q) : PE X e t' := ⟨fun pins s σ H Q I q => h.run pins s σ H Q I (k σ H Q q)⟩
theorem PT.imp {X : Cx} {e : Expr} {t t' : TT} (h : PT X e t) (k : ∀ σ H Q, t' σ H Q → t σ H Q) : PT X e t' := ⟨fun pins s σ H Q I q => h.run pins s σ H Q I (k σ H Q q)⟩
theorem PW.imp {X : Cx} {e : Expr} {t t' : TT} (h : PW X e t) (k : ∀ σ H Q, t' σ H Q → t σ H Q) : PW X e t' := ⟨fun wh pins s σ H Q I q => h.run wh pins s σ H Q I (k σ H Q q)⟩
theorem PA.imp {X : Cx} {es : List Expr} {t t' : TA} (h : PA X es t) (k : ∀ σ H Q, t' σ H Q → t σ H Q) : PA X es t' := ⟨fun pos pins s σ H Q I q => h.run pos pins s σ H Q I (k σ H Q q)⟩
section
variable {K : PySem.W.Frag} {O : Orc} {H H1 H' : Hp} {Z Z1 Z' : AP} {σ : L2.St} {env env1 env' : Env} {f f1 g g' h : List Addr}
/-! ### more steps -/
theorem Post.freeze (P : Post K σ H Z f env1 H1 Z1 f1 (g ++ h)) (t : ∀ a ∈ g, H1 a ≠ none) : Post K σ H Z f env1 H1 (ZU Z1 g) f1 h := by
  have sb : (f1 ++ h).Sublist (f1 ++ (g ++ h)) := List.Sublist.append (List.Sublist.refl _) (List.sublist_append_right _ _)
  refine ⟨RelE.mono (fun _ _ _ e => e) (fun a z => .inl z) _ _ _ (fun _ _ _ e => e) P.rel, ⟨P.ok.nd.sublist sb, fun a ha z => ?_, fun a z => z.elim (P.ok.trk a) (t a)⟩, fun a z => .inl (P.tr.zle a z), fun a z => ?_, P.tr.frm, fun a ha => P.tr.sub a (sb.subset ha)⟩
  · rcases z with z | z
    · exact P.ok.sep a (sb.subset ha) z
    · rcases List.mem_append.mp ha with q | q
      · exact P.ok.apart q (List.mem_append_left _ z)
      · exact P.ok.right.apart z q
  · rcases z with z | z
    · exact P.tr.zin a z
    · exact .inr (P.tr.sub a (List.mem_append_right _ (List.mem_append_left _ z)))
theorem Rrs.len : ∀ {rs : List R} {vs : List V} {f : List Addr}, Rrs K H Z rs vs f → vs.length = rs.length
  | [], _, _, ⟨e, _⟩ => by rw [e]; rfl
  | r :: rs, _, _, ⟨v, w, g, h, e, h1, h2, q⟩ => by rw [e]; exact congrArg (· + 1) (Rrs.len h2)
theorem ROs.len : ∀ {os : List Opd} {vs : List V} {g : List Addr}, ROs K H Z σ os vs g → vs.length = os.length
  | [], _, _, ⟨e, _⟩ => by rw [e]; rfl
  | o :: os, _, _, ⟨v, w, g1, g2, e, h1, h2, q⟩ => by rw [e]; exact congrArg (· + 1) (ROs.len h2)
theorem evs_len : ∀ {ms : List ME} {env env' : Env} {os : List Opd}, evs O ms env = some (os, env') → os.length = ms.length
  | [], env, env', os, h => by simp only [evs, Option.some.injEq, Prod.mk.injEq] at h; rw [← h.1]; rfl
  | m :: ms, env, env', os, h => by
    simp only [evs, Option.bind_eq_some_iff, Option.some.injEq, Prod.mk.injEq] at h
    obtain ⟨x, _, y, hy, e, _⟩ := h
    rw [← e]
    exact congrArg (· + 1) (evs_len (show evs O ms x.2 = some (y.1, y.2) from hy))
/-- a new tuple of what was handed on -/
theorem Post.mkT {rs : List R} {vs : List V} {p : Addr} (P : Post K σ H Z f env1 H1 Z1 f1 g) (r : Rrs K H1 Z1 rs vs g) (hp : H1 p = none) :
    ∃ Z', Post K σ H Z f env1 (upd H1 p (.tup vs)) Z' f1 [] ∧ Rr K (upd H1 p (.tup vs)) Z' (.val (.tuple (froAll rs))) (.ref p) [] := by
  have P0 := Post.freeze (h := []) (g := g) (by rw [List.append_nil]; exact P) (Rrs.trk _ _ _ r)
  have rp := Rrs.fro (Z' := ZU Z1 g) (fun a z => .inl z) rs vs g (fun a ha => .inr ha) r
  have N := New.tup P0.ok.trk hp rp
  exact ⟨_, P0.new N, N.rep⟩
/-- a new list of what was handed on -/
theorem Post.mkL {rs : List R} {vs : List V} {p : Addr} (P : Post K σ H Z f env1 H1 Z1 f1 g) (r : Rrs K H1 Z1 rs vs g) (hp : H1 p = none) :
    Post K σ H Z f env1 (upd H1 p (.lst vs)) Z1 f1 (p :: g) ∧ Rr K (upd H1 p (.lst vs)) Z1 (.lst rs) (.ref p) (p :: g) := by
  have keep : ∀ a o, H1 a = some o → upd H1 p (.lst vs) a = some o := fun a o e => upd_keep hp e
  have tg := Rrs.trk _ _ _ r
  have tf := P.rel.trk
  refine ⟨⟨RelE.mono (fun a o _ e => keep a o e) (fun _ z => z) _ _ _ (fun a _ o e => keep a o e) P.rel, ?_, P.tr.zle, P.tr.zin, fun a o e n => keep a o (P.tr.frm a o e n), fun a ha => ?_⟩,
    p, vs, g, rfl, upd_same, Rrs.mono (fun a o _ e => keep a o e) (fun _ z => z) _ _ _ (fun a _ o e => keep a o e) r, rfl⟩
  · have nd := P.ok.nd
    refine ⟨(List.perm_middle.nodup_iff).mpr (List.nodup_cons.mpr ⟨fun q => ?_, nd⟩), fun a ha z => ?_, fun a z => ?_⟩
    · rcases List.mem_append.mp q with q | q
      · exact tf p q hp
      · exact tg p q hp
    · rcases List.mem_append.mp ha with q | q
      · exact P.ok.sep a (List.mem_append_left _ q) z
      · rcases List.mem_cons.mp q with q | q
        · rw [q] at z; exact P.ok.trk p z hp
        · exact P.ok.sep a (List.mem_append_right _ q) z
    · cases e : H1 a with
      | none => exact absurd e (P.ok.trk a z)
      | some o => rw [keep a o e]; exact fun q => by cases q
  · rcases List.mem_append.mp ha with q | q
    · exact P.tr.sub a (List.mem_append_left _ q)
    · rcases List.mem_cons.mp q with q | q
      · rw [q]; exact P.tr.none_of hp
      · exact P.tr.sub a (List.mem_append_right _ q)
/-! ### two operands -/
theorem two {op : PyData → PyData → Option R} {a b : ME} {Q : VK} {x y : Opd × Env} {p q : PyData × Env} {r : R} (hE : RelE K H Z env σ f) (ok : Ok H Z f) (hx : ev O a env = some x) (hy : ev O b x.2 = some y) (hp : view x.1 y.2 = some p) (hq : view y.1 p.2 = some q)
    (hr : op p.1 q.1 = some r) (k : ∀ v H' Z' f' g, Post K σ H Z f q.2 H' Z' f' g → Rr K H' Z' r v g → Q v H') : tOp (rV K op) (tEv K O a) (tEv K O b) σ H Q := by
  refine ⟨env, Z, f, x.1, x.2, hE, ok, hx, fun v1 H1 Z1 f1 g1 P1 o1 => ⟨x.2, Z1, f1, y.1, y.2, P1.rel, P1.ok.left, hy, fun v2 H2 Z2 f2 g2 P2 o2 => ?_⟩⟩
  have P := P1.seq P2 o1.trk
  have o1' := P2.tr.ro P1.ok o1
  obtain ⟨Z3, f3, P3, w1, z3⟩ := P.vw o1' (show view x.1 y.2 = some (p.1, p.2) from hp)
  have o2' := o2.mono (fun _ _ _ e => e) z3 (fun _ _ _ e => e)
  obtain ⟨Z4, f4, P4, w2, z4⟩ := Post.vw (h := []) (by rw [List.append_nil]; exact P3) o2' (show view y.1 p.2 = some (q.1, q.2) from hq)
  exact ⟨Z4, p.1, q.1, r, P4.ok.trk, w1.mono (fun _ _ e => e) z4, w2, hr, fun v H' Z' g N => k v H' Z' f4 g (P4.new N) N.rep⟩
/-- a test on an expression's own value -/
theorem evB_of {m : ME} {b : Bool} (h : evB O m env = some (b, env')) : ∃ x, ev O m env = some x ∧ view x.1 x.2 = some (.bool b, env') := by
  simp only [evB, Option.bind_eq_some_iff, Option.some.injEq, Prod.mk.injEq] at h
  obtain ⟨x, hx, p, hp, c, hc, e1, e2⟩ := h
  subst e1; subst e2
  refine ⟨x, hx, ?_⟩
  rw [hp]
  obtain ⟨p1, p2⟩ := p
  cases p1 <;> simp only [asB, Option.some.injEq, reduceCtorEq] at hc
  rw [hc]
theorem to_tB {m : ME} {Q : Bool → Hp → Prop} (h : tTs K O m σ H Q) : tB (tEv K O m) σ H Q := by
  obtain ⟨env, Z, f, b, env', hE, ok, hb, k⟩ := h
  obtain ⟨x, hx, hv⟩ := evB_of hb
  refine ⟨env, Z, f, x.1, x.2, hE, ok, hx, fun v H' Z' f' g P o => ?_⟩
  obtain ⟨Z2, f2, P2, w, _⟩ := Post.vw (h := []) (by rw [List.append_nil]; exact P) o hv
  exact ⟨b, w, k _ _ _ P2⟩
/-- .. then more -/
theorem tst {m : ME} {b : Bool} {Q : Bool → Hp → Prop} (hE : RelE K H Z env σ f) (ok : Ok H Z f) (hb : evB O m env = some (b, env')) (k : ∀ H' Z' f', Post K σ H Z f env' H' Z' f' [] → Q b H') : tTs K O m σ H Q := ⟨env, Z, f, b, env', hE, ok, hb, k⟩
theorem tsv {m : ME} {b : Bool} {Q : VK} {x : Opd × Env} {p : PyData × Env} (hE : RelE K H Z env σ f) (ok : Ok H Z f) (hx : ev O m env = some x) (hp : view x.1 x.2 = some p) (hb : asB p.1 = some b) (k : ∀ H' Z' f', Post K σ H Z f p.2 H' Z' f' [] → Q (.bl b) H') : tEv K O m σ H Q := by
  refine ⟨env, Z, f, x.1, x.2, hE, ok, hx, fun v H' Z' f' g P o => ?_⟩
  obtain ⟨Z2, f2, P2, w, _⟩ := Post.vw (h := []) (by rw [List.append_nil]; exact P) o (show view x.1 x.2 = some (p.1, p.2) from hp)
  obtain ⟨p1, p2⟩ := p
  cases p1 <;> simp only [asB, Option.some.injEq, reduceCtorEq] at hb
  subst hb
  rw [show v = V.bl _ from w]
  exact k _ _ _ P2
theorem Post.nil_seq {env2 : Env} {H2 : Hp} {Z2 : AP} {f2 g2 : List Addr} (P : Post K σ H Z f env1 H1 Z1 f1 []) (P2 : Post K σ H1 Z1 f1 env2 H2 Z2 f2 g2) : Post K σ H Z f env2 H2 Z2 f2 g2 := by
  have q := P.seq P2 (fun a ha => absurd ha List.not_mem_nil)
  rwa [List.nil_append] at q
theorem Post.ok0 (P : Post K σ H Z f env1 H1 Z1 f1 []) : Ok H1 Z1 f1 := by
  have q := P.ok
  rwa [List.append_nil] at q
/-- the value in the test's place -/
theorem evB_val {m : ME} {b : Bool} (h : ev O m env = some (.tm (.val (.bool b)), env')) : evB O m env = some (b, env') := by
  simp only [evB, h, Option.bind_some, view, fro, asB]
end
section
variable {X : Cx} {O : Orc} {pos : Pos}
/-! ### constructs, one by one -/
theorem s_var {i : Nat} {x : Str} (hN : X.N[i]? = some x) (hv : Vis X.env.scope x) (hd : (x == ("__debug__" : Str)) = false) (hcd : (x == ("__classdict__" : Str)) = false) : PE X (.Name x pos) (tEv X.K O (.var i)) := by
  refine PE.imp (pe_var hN hv hd hcd) fun σ H Q ⟨env, Z, f, o, env', hE, ok, he, k⟩ => ?_
  simp only [ev] at he
  have own : ∀ {s : Sl}, gt env i = s → s ≠ .no → ∃ v, σ[i]? = some (some v) ∧ ∃ g, Rs X.K H Z s (some v) g := fun {s} hs hn => by
    obtain ⟨y, f1, g0, f2, e1, e2, e3, e4⟩ := hE.focus0 (i := i) (by rw [hs]; exact hn)
    rw [hs] at e2
    cases s with
    | no => exact absurd rfl hn
    | sl r => obtain ⟨v, rfl, q⟩ := e2; exact ⟨v, e1, g0, v, rfl, q⟩
    | lk r => obtain ⟨v, rfl, q⟩ := e2; exact ⟨v, e1, g0, v, rfl, q⟩
  split at he
  · rename_i p hg
    simp only [Option.some.injEq, Prod.mk.injEq] at he
    obtain ⟨rfl, rfl⟩ := he
    obtain ⟨v, e1, g, v', e2, q⟩ := own hg (fun z => by cases z)
    obtain rfl := Option.some.inj e2
    obtain ⟨rfl, q⟩ := q
    exact ⟨v, e1, k v H Z f [] (.refl hE ok) ⟨rfl, q⟩⟩
  · rename_i r hn hg
    simp only [Option.some.injEq, Prod.mk.injEq] at he
    obtain ⟨rfl, rfl⟩ := he
    obtain ⟨v, e1, _⟩ := own hg (fun z => by cases z)
    exact ⟨v, e1, k v H Z f [] (.refl hE ok) ⟨e1, rfl⟩⟩
  · rename_i r hg
    simp only [Option.some.injEq, Prod.mk.injEq] at he
    obtain ⟨rfl, rfl⟩ := he
    obtain ⟨v, e1, _⟩ := own hg (fun z => by cases z)
    exact ⟨v, e1, k v H Z f [] (.refl hE ok) ⟨e1, rfl⟩⟩
  · cases he
theorem s_cst {e : Expr} {p : PyData} {v : V} (h : PE X e (tC v)) (hv : ∀ H Z, Rp X.K H Z p v) : PE X e (tEv X.K O (.cst p)) := by
  refine PE.imp h fun σ H Q ⟨env, Z, f, o, env', hE, ok, he, k⟩ => ?_
  simp only [ev, Option.some.injEq, Prod.mk.injEq] at he
  obtain ⟨rfl, rfl⟩ := he
  exact k v H Z f [] (.refl hE ok) ⟨rfl, hv H Z⟩
theorem s_nil : PA X [] (tAs X.K O []) := by
  refine PA.imp pa_nil fun σ H Q ⟨env, Z, f, os, env', hE, ok, he, k⟩ => ?_
  simp only [evs, Option.some.injEq, Prod.mk.injEq] at he
  obtain ⟨rfl, rfl⟩ := he
  exact k [] H Z f [] (.refl hE ok) ⟨rfl, rfl⟩
def noStar : Expr → Bool
  | .Starred _ _ => false
  | _ => true
theorem star_each {e : Expr} (h : noStar e = true) (es : List Expr) (env : PySem.Env) : starEach (e :: es) env = (false, eval e env) :: starEach es env := by
  cases e <;> first | rfl | cases h
theorem s_cons {e : Expr} {es : List Expr} {m : ME} {ms : List ME} (hs : noStar e = true) (h : PE X e (tEv X.K O m)) (hr : PA X es (tAs X.K O ms)) : PA X (e :: es) (tAs X.K O (m :: ms)) := by
  refine PA.imp (pa_cons h hr (star_each hs es _)) fun σ H Q ⟨env, Z, f, os, env', hE, ok, he, k⟩ => ?_
  simp only [evs, Option.bind_eq_some_iff, Option.some.injEq, Prod.mk.injEq] at he
  obtain ⟨x, hx, y, hy, rfl, rfl⟩ := he
  refine ⟨env, Z, f, x.1, x.2, hE, ok, hx, fun v1 H1 Z1 f1 g1 P1 o1 => ⟨x.2, Z1, f1, y.1, y.2, P1.rel, P1.ok.left, hy, fun vs H2 Z2 f2 g2 P2 o2 => ?_⟩⟩
  exact k (v1 :: vs) H2 Z2 f2 (g1 ++ g2) (P1.seq P2 o1.trk) ⟨v1, vs, g1, g2, rfl, P2.tr.ro P1.ok o1, o2, rfl⟩
theorem s_bin {a b : Expr} {ma mb : ME} (o : Bop) (ha : PE X a (tEv X.K O ma)) (hb : PE X b (tEv X.K O mb)) : PE X (.BinOp a (bopOf o) b pos) (tEv X.K O (.bin o ma mb)) := by
  refine PE.imp (pe_op (or_bin o) ha hb) fun σ H Q ⟨env, Z, f, o', env', hE, ok, he, k⟩ => ?_
  simp only [ev, Option.bind_eq_some_iff, Option.some.injEq, Prod.mk.injEq] at he
  obtain ⟨x, hx, y, hy, p, hp, q, hq, r, hr, rfl, rfl⟩ := he
  exact two hE ok hx hy hp hq hr k
theorem s_cmp {a b : Expr} {ma mb : ME} (o : Cop) (hu : X.A.units + 65 < cLine) (hm : behindInMarks (copOf o) b = false) (ha : PE X a (tEv X.K O ma)) (hb : PE X b (tEv X.K O mb)) : PE X (.Compare a [copOf o] [b] pos) (tEv X.K O (.cmp o ma mb)) := by
  refine PE.imp (pe_cmpR (or_cmp o hu) ha hb hm) fun σ H Q ⟨env, Z, f, o', env', hE, ok, he, k⟩ => ?_
  simp only [ev, Option.bind_eq_some_iff, Option.some.injEq, Prod.mk.injEq] at he
  obtain ⟨x, hx, y, hy, p, hp, q, hq, r, hr, rfl, rfl⟩ := he
  exact two (op := fun p q => (cmpop o p q).map fun b => .val (.bool b)) hE ok hx hy hp hq (r := .val (.bool r)) (by rw [hr]; rfl) k
theorem t_cmp {a b : Expr} {ma mb : ME} (o : Cop) (hu : X.A.units + 65 < cLine) (hm : behindInMarks (copOf o) b = false) (ha : PE X a (tEv X.K O ma)) (hb : PE X b (tEv X.K O mb)) : PT X (.Compare a [copOf o] [b] pos) (tTs X.K O (.cmp o ma mb)) := by
  refine PT.imp (pt_cmpR (or_cmp o hu) ha hb hm) fun σ H Q ⟨env, Z, f, b', env', hE, ok, he, k⟩ => ?_
  obtain ⟨z, hz, hv⟩ := evB_of he
  simp only [ev, Option.bind_eq_some_iff, Option.some.injEq] at hz
  obtain ⟨x, hx, y, hy, p, hp, q, hq, r, hr, rfl⟩ := hz
  simp only [view, fro, Option.some.injEq, Prod.mk.injEq, PyData.bool.injEq] at hv
  obtain ⟨rfl, rfl⟩ := hv
  refine two (op := fun p q => (cmpop o p q).map fun b => .val (.bool b)) (Q := fun x H1 => ∃ c, x = .bl c ∧ Q c H1) hE ok hx hy hp hq (r := .val (.bool r)) (by rw [hr]; rfl) fun v H' Z' f' g P o1 => ?_
  obtain ⟨rfl, e⟩ := o1
  exact ⟨r, e, k _ _ _ P⟩
theorem s_not {a : Expr} {m : ME} (h : PE X a (tEv X.K O m)) : PE X (.UnaryOp .Not a pos) (tEv X.K O (.nt m)) := by
  refine PE.imp (pe_not h) fun σ H Q ⟨env, Z, f, o', env', hE, ok, he, k⟩ => ?_
  simp only [ev, Option.bind_eq_some_iff, Option.some.injEq, Prod.mk.injEq] at he
  obtain ⟨x, hx, p, hp, c, hc, rfl, rfl⟩ := he
  exact tsv (Q := fun x H1 => ∃ c, x = .bl c ∧ Q (.bl (!c)) H1) hE ok hx hp hc fun H' Z' f' P => ⟨c, rfl, k _ _ _ _ _ P ⟨rfl, rfl⟩⟩
theorem t_not {a : Expr} {m : ME} (h : PT X a (tTs X.K O m)) : PT X (.UnaryOp .Not a pos) (tTs X.K O (.nt m)) := by
  refine PT.imp (pt_not h) fun σ H Q ⟨env, Z, f, b', env', hE, ok, he, k⟩ => ?_
  obtain ⟨z, hz, hv⟩ := evB_of he
  simp only [ev, Option.bind_eq_some_iff, Option.some.injEq] at hz
  obtain ⟨x, hx, p, hp, c, hc, rfl⟩ := hz
  simp only [view, fro, Option.some.injEq, Prod.mk.injEq, PyData.bool.injEq] at hv
  obtain ⟨rfl, rfl⟩ := hv
  refine tst (b := c) (env' := p.2) (Q := fun c H1 => Q (!c) H1) hE ok ?_ fun H' Z' f' P => k _ _ _ P
  simp only [evB, hx, hp, hc, Option.bind_some]
theorem s_and {a : Expr} {es : List Expr} {b : Expr} {ma mb : ME} (ha : PE X a (tEv X.K O ma)) (hb : PE X (.BoolOp .And (b :: es) pos) (tEv X.K O mb)) : PE X (.BoolOp .And (a :: b :: es) pos) (tEv X.K O (.an ma mb)) := by
  refine PE.imp (pe_and ha hb) fun σ H Q ⟨env, Z, f, o', env', hE, ok, he, k⟩ => ?_
  simp only [ev, Option.bind_eq_some_iff] at he
  obtain ⟨x, hx, p, hp, c, hc, he⟩ := he
  refine tsv (Q := fun x H1 => ∃ c, x = .bl c ∧ if c = true then tEv X.K O mb σ H1 Q else Q (.bl false) H1) hE ok hx hp hc fun H' Z' f' P => ⟨c, rfl, ?_⟩
  cases c with
  | true => exact iteT ⟨p.2, Z', f', o', env', P.rel, P.ok0, by simpa using he, fun v H2 Z2 f2 g2 P2 o2 => k v H2 Z2 f2 g2 (P.nil_seq P2) o2⟩
  | false =>
    simp only [Bool.false_eq_true, if_false, Option.some.injEq, Prod.mk.injEq] at he
    obtain ⟨rfl, rfl⟩ := he
    exact iteF (k _ _ _ _ _ P ⟨rfl, rfl⟩)
theorem s_or {a : Expr} {es : List Expr} {b : Expr} {ma mb : ME} (ha : PE X a (tEv X.K O ma)) (hb : PE X (.BoolOp .Or (b :: es) pos) (tEv X.K O mb)) : PE X (.BoolOp .Or (a :: b :: es) pos) (tEv X.K O (.or ma mb)) := by
  refine PE.imp (pe_or ha hb) fun σ H Q ⟨env, Z, f, o', env', hE, ok, he, k⟩ => ?_
  simp only [ev, Option.bind_eq_some_iff] at he
  obtain ⟨x, hx, p, hp, c, hc, he⟩ := he
  refine tsv (Q := fun x H1 => ∃ c, x = .bl c ∧ if c = true then Q (.bl true) H1 else tEv X.K O mb σ H1 Q) hE ok hx hp hc fun H' Z' f' P => ⟨c, rfl, ?_⟩
  cases c with
  | false => exact iteF ⟨p.2, Z', f', o', env', P.rel, P.ok0, by simpa using he, fun v H2 Z2 f2 g2 P2 o2 => k v H2 Z2 f2 g2 (P.nil_seq P2) o2⟩
  | true =>
    simp only [if_true, Option.some.injEq, Prod.mk.injEq] at he
    obtain ⟨rfl, rfl⟩ := he
    exact iteT (k _ _ _ _ _ P ⟨rfl, rfl⟩)
theorem tst_then {m m' : ME} {c : Bool} {x : Opd × Env} {p : PyData × Env} {K : PySem.W.Frag} {H : Hp} {Z : AP} {σ : L2.St} {f : List Addr} {env env' : Env} {b : Bool} {Q : Bool → Hp → Prop} (hE : RelE K H Z env σ f) (ok : Ok H Z f) (hx : ev O m env = some x) (hp : view x.1 x.2 = some p) (hc : asB p.1 = some c)
    (k : ∀ H' Z' f', Post K σ H Z f p.2 H' Z' f' [] → Q c H') : tTs K O m σ H Q :=
  tst (b := c) (env' := p.2) hE ok (by simp only [evB, hx, hp, hc, Option.bind_some]) k
theorem w_and {a : Expr} {es : List Expr} {b : Expr} {ma mb : ME} (ha : PT X a (tTs X.K O ma)) (hb : PW X (.BoolOp .And (b :: es) pos) (tTs X.K O mb)) : PW X (.BoolOp .And (a :: b :: es) pos) (tTs X.K O (.an ma mb)) := by
  refine PW.imp (pw_and ha hb) fun σ H Q ⟨env, Z, f, b', env', hE, ok, he, k⟩ => ?_
  obtain ⟨z, hz, hv⟩ := evB_of he
  simp only [ev, Option.bind_eq_some_iff] at hz
  obtain ⟨x, hx, p, hp, c, hc, hz⟩ := hz
  refine tst_then (m' := mb) (env' := env') (b := b') (Q := fun c H1 => if c = true then tTs X.K O mb σ H1 Q else Q false H1) hE ok hx hp hc fun H' Z' f' P => ?_
  cases c with
  | true => exact iteT (tst (b := b') (env' := env') P.rel P.ok0 (by have q : ev O mb p.2 = some z := by simpa using hz
                                                                     simp only [evB, q, hv, asB, Option.bind_some]) fun H2 Z2 f2 P2 => k H2 Z2 f2 (P.nil_seq P2))
  | false =>
    simp only [Bool.false_eq_true, if_false, Option.some.injEq] at hz
    subst hz
    simp only [view, fro, Option.some.injEq, Prod.mk.injEq, PyData.bool.injEq] at hv
    obtain ⟨rfl, rfl⟩ := hv
    exact iteF (k _ _ _ P)
theorem w_or {a : Expr} {es : List Expr} {b : Expr} {ma mb : ME} (ha : PT X a (tTs X.K O ma)) (hb : PW X (.BoolOp .Or (b :: es) pos) (tTs X.K O mb)) : PW X (.BoolOp .Or (a :: b :: es) pos) (tTs X.K O (.or ma mb)) := by
  refine PW.imp (pw_or ha hb) fun σ H Q ⟨env, Z, f, b', env', hE, ok, he, k⟩ => ?_
  obtain ⟨z, hz, hv⟩ := evB_of he
  simp only [ev, Option.bind_eq_some_iff] at hz
  obtain ⟨x, hx, p, hp, c, hc, hz⟩ := hz
  refine tst_then (m' := mb) (env' := env') (b := b') (Q := fun c H1 => if c = true then Q true H1 else tTs X.K O mb σ H1 Q) hE ok hx hp hc fun H' Z' f' P => ?_
  cases c with
  | false => exact iteF (tst (b := b') (env' := env') P.rel P.ok0 (by have q : ev O mb p.2 = some z := by simpa using hz
                                                                      simp only [evB, q, hv, asB, Option.bind_some]) fun H2 Z2 f2 P2 => k H2 Z2 f2 (P.nil_seq P2))
  | true =>
    simp only [if_true, Option.some.injEq] at hz
    subst hz
    simp only [view, fro, Option.some.injEq, Prod.mk.injEq, PyData.bool.injEq] at hv
    obtain ⟨rfl, rfl⟩ := hv
    exact iteT (k _ _ _ P)
theorem s_ife {c a b : Expr} {mc ma mb : ME} (hc : PT X c (tTs X.K O mc)) (ha : PE X a (tEv X.K O ma)) (hb : PE X b (tEv X.K O mb)) : PE X (.IfExp c a b pos) (tEv X.K O (.ife mc ma mb)) := by
  refine PE.imp (pe_ifExp hc ha hb) fun σ H Q ⟨env, Z, f, o', env', hE, ok, he, k⟩ => ?_
  simp only [ev, Option.bind_eq_some_iff] at he
  obtain ⟨x, hx, p, hp, c, hc, he⟩ := he
  refine tst_then (m' := mb) (env' := env') (b := c) (Q := fun c H1 => if c = true then tEv X.K O ma σ H1 Q else tEv X.K O mb σ H1 Q) hE ok hx hp hc fun H' Z' f' P => ?_
  cases c with
  | true => exact iteT ⟨p.2, Z', f', o', env', P.rel, P.ok0, by simpa using he, fun v H2 Z2 f2 g2 P2 o2 => k v H2 Z2 f2 g2 (P.nil_seq P2) o2⟩
  | false => exact iteF ⟨p.2, Z', f', o', env', P.rel, P.ok0, by simpa using he, fun v H2 Z2 f2 g2 P2 o2 => k v H2 Z2 f2 g2 (P.nil_seq P2) o2⟩
theorem s_neg {a : Expr} {m : ME} (h : PE X a (tEv X.K O m)) : PE X (.UnaryOp .USub a pos) (tEv X.K O (.neg m)) := by
  refine PE.imp (pe_un un_neg h) fun σ H Q ⟨env, Z, f, o', env', hE, ok, he, k⟩ => ?_
  simp only [ev, Option.bind_eq_some_iff] at he
  obtain ⟨x, hx, p, hp, he⟩ := he
  refine ⟨env, Z, f, x.1, x.2, hE, ok, hx, fun v H' Z' f' g P o => ?_⟩
  obtain ⟨Z2, f2, P2, w, _⟩ := Post.vw (h := []) (by rw [List.append_nil]; exact P) o (show view x.1 x.2 = some (p.1, p.2) from hp)
  obtain ⟨p1, p2⟩ := p
  cases p1 <;> simp only [Option.some.injEq, Prod.mk.injEq, reduceCtorEq] at he
  obtain ⟨rfl, rfl⟩ := he
  exact ⟨_, w, k _ _ _ _ _ P2 ⟨rfl, rfl⟩⟩
theorem s_tup {es : List Expr} {ms : List ME} {k0 : Nat} (hl : ms.length ≤ 1000) (h : PA X es (tAs X.K O ms)) : PE X (.Tuple es k0 pos) (tEv X.K O (.tup ms)) := by
  refine PE.imp (pe_tup h) fun σ H Q ⟨env, Z, f, o', env', hE, ok, he, k⟩ => ?_
  simp only [ev, Option.bind_eq_some_iff, Option.some.injEq, Prod.mk.injEq] at he
  obtain ⟨x, hx, y, hy, rfl, rfl⟩ := he
  refine ⟨env, Z, f, x.1, x.2, hE, ok, hx, fun vs H1 Z1 f1 g1 P1 o1 => ⟨?_, fun p hp => ?_⟩⟩
  · rw [o1.len, evs_len hx]; exact Nat.le_of_lt (small1000 hl)
  · obtain ⟨f2, g2, P2, r2⟩ := Post.owns (h := []) (by rw [List.append_nil]; exact P1) o1 (show Ev.owns x.1 x.2 = some (y.1, y.2) from hy)
    rw [List.append_nil] at P2
    obtain ⟨Z3, P3, r3⟩ := P2.mkT r2 hp
    exact k _ _ _ _ _ P3 r3
theorem s_lst {es : List Expr} {ms : List ME} (hl : ms.length ≤ 1000) (h : PA X es (tAs X.K O ms)) : PE X (.List es pos) (tEv X.K O (.lst ms)) := by
  refine PE.imp (pe_lst h) fun σ H Q ⟨env, Z, f, o', env', hE, ok, he, k⟩ => ?_
  simp only [ev, Option.bind_eq_some_iff, Option.some.injEq, Prod.mk.injEq] at he
  obtain ⟨x, hx, y, hy, rfl, rfl⟩ := he
  refine ⟨env, Z, f, x.1, x.2, hE, ok, hx, fun vs H1 Z1 f1 g1 P1 o1 => ⟨?_, fun p hp => ?_⟩⟩
  · rw [o1.len, evs_len hx]; exact Nat.le_of_lt (small1000 hl)
  · obtain ⟨f2, g2, P2, r2⟩ := Post.owns (h := []) (by rw [List.append_nil]; exact P1) o1 (show Ev.owns x.1 x.2 = some (y.1, y.2) from hy)
    rw [List.append_nil] at P2
    obtain ⟨P3, r3⟩ := P2.mkL r2 hp
    exact k _ _ _ _ _ P3 r3
end
end Ev
set_option autoImplicit false
set_option linter.all false
set_option maxRecDepth 100000
/-! Builtins by values, calls of builtins, subscripts, slices. -/
namespace Ev
open PySem L2 PyProof.Rows
section
variable {K : PySem.W.Frag} {H H' : Hp} {Z Z' : AP}
theorem Vws.one {p : PyData} {xs : List V} (h : Vws K H Z [p] xs) : ∃ v, xs = [v] ∧ Vw K H Z p v := by
  obtain ⟨v, w, e, h1, h2⟩ := h
  rw [show w = [] from h2] at e
  exact ⟨v, e, h1⟩
theorem Vws.two {p q : PyData} {xs : List V} (h : Vws K H Z [p, q] xs) : ∃ v w, xs = [v, w] ∧ Vw K H Z p v ∧ Vw K H Z q w := by
  obtain ⟨v, w, e, h1, h2⟩ := h
  obtain ⟨u, e2, h3⟩ := Vws.one h2
  rw [e2] at e
  exact ⟨v, u, e, h1, h3⟩
theorem ints_vs : ∀ {ds : List PyData} {vs : List V} {is : List Int}, Rps K H Z ds vs → intsOf ds = some is → vs = is.map V.int
  | [], _, is, h, e => by
    simp only [intsOf, Option.some.injEq] at e
    subst e; exact h
  | d :: ds, _, is, ⟨v, r, q, h1, h2⟩, e => by
    cases d <;> simp only [intsOf, reduceCtorEq, Option.map_eq_some_iff] at e
    obtain ⟨js, e1, e2⟩ := e
    subst e2
    rw [q, show v = V.int _ from h1, ints_vs h2 e1]; rfl
theorem bools_vs : ∀ {ds : List PyData} {vs : List V} {is : List Bool}, Rps K H Z ds vs → boolsOf ds = some is → vs = is.map V.bl
  | [], _, is, h, e => by
    simp only [boolsOf, Option.some.injEq] at e
    subst e; exact h
  | d :: ds, _, is, ⟨v, r, q, h1, h2⟩, e => by
    cases d <;> simp only [boolsOf, reduceCtorEq, Option.map_eq_some_iff] at e
    obtain ⟨js, e1, e2⟩ := e
    subst e2
    rw [q, show v = V.bl _ from h1, bools_vs h2 e1]; rfl
theorem rps_ints : ∀ (is : List Int), Rps K H Z (is.map .int) (is.map V.int)
  | [] => rfl
  | i :: is => ⟨_, _, rfl, rfl, rps_ints is⟩
/-! sets of numbers -/
theorem insI_mem {i k : Int} : ∀ {l : List Int}, k ∈ insI i l ↔ k = i ∨ k ∈ l
  | [] => by simp [insI]
  | j :: js => by
    unfold insI
    by_cases h : i < j
    · rw [if_pos h]; simp
    · rw [if_neg h]
      by_cases h2 : i = j
      · rw [if_pos h2]; subst h2; simp
      · rw [if_neg h2]
        simp only [List.mem_cons, insI_mem (l := js)]
        grind
theorem setI_mem {k : Int} : ∀ {l : List Int}, k ∈ setI l ↔ k ∈ l
  | [] => by simp [setI]
  | i :: is => by simp [setI, insI_mem, setI_mem (l := is)]
theorem insI_lt {i : Int} : ∀ {l : List Int}, l.Pairwise (· < ·) → (insI i l).Pairwise (· < ·)
  | [], _ => by simp [insI]
  | j :: js, h => by
    obtain ⟨h1, h2⟩ := List.pairwise_cons.mp h
    unfold insI
    by_cases c : i < j
    · rw [if_pos c]
      refine List.pairwise_cons.mpr ⟨fun a ha => ?_, h⟩
      rcases List.mem_cons.mp ha with e | e
      · omega
      · have := h1 a e; omega
    · rw [if_neg c]
      by_cases c2 : i = j
      · rw [if_pos c2]; exact h
      · rw [if_neg c2]
        refine List.pairwise_cons.mpr ⟨fun a ha => ?_, insI_lt h2⟩
        rcases insI_mem.mp ha with e | e
        · omega
        · exact h1 a e
theorem setI_lt : ∀ {l : List Int}, (setI l).Pairwise (· < ·)
  | [] => List.Pairwise.nil
  | i :: is => insI_lt setI_lt
theorem lt_uniq : ∀ {l m : List Int}, l.Pairwise (· < ·) → m.Pairwise (· < ·) → (∀ k, k ∈ l ↔ k ∈ m) → l = m
  | [], [], _, _, _ => rfl
  | [], b :: m, _, _, h => absurd ((h b).mpr List.mem_cons_self) List.not_mem_nil
  | a :: l, [], _, _, h => absurd ((h a).mp List.mem_cons_self) List.not_mem_nil
  | a :: l, b :: m, h1, h2, h => by
    obtain ⟨p1, p2⟩ := List.pairwise_cons.mp h1
    obtain ⟨q1, q2⟩ := List.pairwise_cons.mp h2
    have e : a = b := by
      rcases List.mem_cons.mp ((h a).mp List.mem_cons_self) with e | e
      · exact e
      · rcases List.mem_cons.mp ((h b).mpr List.mem_cons_self) with e' | e'
        · exact e'.symm
        · have := p1 b e'; have := q1 a e; omega
    subst e
    refine congrArg (a :: ·) (lt_uniq p2 q2 fun k => ⟨fun hk => ?_, fun hk => ?_⟩)
    · rcases List.mem_cons.mp ((h k).mp (List.mem_cons_of_mem _ hk)) with e | e
      · have := p1 k hk; omega
      · exact e
    · rcases List.mem_cons.mp ((h k).mpr (List.mem_cons_of_mem _ hk)) with e | e
      · have := q1 k hk; omega
      · exact e
end
/-! ### isinstance -/
def tyV : Ty → Value
  | .int => .type "int" | .bool => .type "bool" | .str => .type "str" | .tuple => .type "tuple" | .list => .type "list" | .dict => .type "dict"
def tyN : Ty → String
  | .int => "int" | .bool => "bool" | .str => "str" | .tuple => "tuple" | .list => "list" | .dict => "dict"
def tyOf : PyData → Value
  | .none => .type "NoneType" | .bool _ => .type "bool" | .int _ => .type "int" | .str _ => .type "str" | .list _ => .type "list" | .tuple _ => .type "tuple" | .dict _ => .type "dict"
theorem kit_tt (K : PySem.W.Frag) (T U : String) : PySem.W.kitOne K (.type T) (.type U) = if (Value.type T == Value.type U) = true then some true else if PySem.W.kitMeta U = true then (fastBuiltinMro T).map (·.contains (.type U)) else none := rfl
theorem kit_ty (K : PySem.W.Frag) (t : Ty) (p : PyData) : PySem.W.kitOne K (tyOf p) (.type (tyN t)) = some (isTy t p) := by
  cases p <;> cases t <;> (simp only [tyOf, tyN, isTy]; rw [kit_tt]; decide +kernel)
section
variable {X : Cx}
theorem Vw.ty {K : PySem.W.Frag} {H : Hp} {Z : AP} {p : PyData} {v : V} (h : Vw K H Z p v) : TyX K H v (tyOf p) := by
  cases p with
  | none => rw [show v = V.non from h]; exact .base .non
  | bool b => rw [show v = V.bl b from h]; exact .base (.bl b)
  | int b => rw [show v = V.int b from h]; exact .base (.int b)
  | str b => rw [show v = V.str b from h]; exact .base (.str b)
  | list ds =>
    obtain ⟨a, vs, e, n, _⟩ := h
    subst e
    rcases n with (n | ⟨o, n⟩) | ⟨o, its, n, h1, h2, _⟩
    · exact .base (.lst n)
    · exact .base (.frz n)
    · exact .kList h1 h2
  | tuple ds =>
    obtain ⟨a, vs, e, n, _⟩ := h
    subst e
    rcases n.sq with (n | ⟨o, n⟩) | ⟨o, its, n, h1, h2, _⟩
    · exact .base (.tup n)
    · exact .fTuple n
    · exact .kTuple h1 h2
  | dict kvs =>
    obtain ⟨a, es, e, ⟨ks, n, _⟩, _⟩ := h
    subst e
    exact .base (.dK n)
end
end Ev
set_option autoImplicit false
set_option linter.all false
set_option maxRecDepth 100000
/-! Calls of builtins by values. -/
namespace Ev
open PySem L2 PyProof.Rows
section
variable {K : PySem.W.Frag} {H H' : Hp} {Z Z' : AP}
theorem flat_keys : ∀ {kvs : List (PyData × PyData)} {ks : List (Key × V)}, Paired (fun (a : PyData × PyData) (b : Key × V) => a.1 = kP b.1 ∧ Rp K H Z a.2 b.2) kvs ks → Rps K H Z (kvs.map (·.1)) (ks.map fun kv => kV kv.1)
  | _, _, .nil => rfl
  | (p, d) :: kvs, (j, v) :: ks, .cons ⟨e, r⟩ t => ⟨_, _, rfl, by
      have e' : p = kP j := e
      subst e'
      cases j <;> exact rfl, flat_keys t⟩
theorem rpk_len : ∀ {kvs : List (PyData × PyData)} {es : List (V × V)}, Rpk K H Z kvs es → es.length = kvs.length
  | [], _, h => by rw [show _ = [] from h]; rfl
  | (k, d) :: kvs, _, ⟨x, y, r, e, h1, h2, h3⟩ => by rw [e]; exact congrArg (· + 1) (rpk_len h3)
end
section
variable {X : Cx}
theorem cb_len : CallR X (.builtin "len") (rVs X.K (biop .len)) := by
  refine CallR.either fun xs H Q ⟨Z, ps, r, hz, hv, hr, k⟩ => ?_
  match ps, hv, hr with
  | [p], hv, hr =>
    obtain ⟨v, rfl, hp⟩ := hv.one
    cases p <;> simp only [biop, reduceCtorEq, Option.some.injEq] at hr
    case list ds =>
      subst hr
      obtain ⟨a, vs, e, n, w⟩ := hp
      refine ⟨_, call_len_seq, a, vs, by rw [e], .inl n, ?_⟩
      rw [w.len]; exact k _ _ _ _ (New.of hz rfl)
    case tuple ds =>
      subst hr
      obtain ⟨a, vs, e, n, w⟩ := hp
      refine ⟨_, call_len_seq, a, vs, by rw [e], .inr n.sq, ?_⟩
      rw [w.len]; exact k _ _ _ _ (New.of hz rfl)
    case dict kvs =>
      subst hr
      obtain ⟨a, es, e, ⟨ks, n, q⟩, w⟩ := hp
      refine ⟨_, call_lenD, a, ks, by rw [e], n, ?_⟩
      have q1 := rpk_len w
      rw [q, List.length_map] at q1
      rw [q1]; exact k _ _ _ _ (New.of hz rfl)
    case str s =>
      split at hr
      · rename_i hl
        obtain rfl := Option.some.inj hr
        exact ⟨_, call_len_str, s, by rw [show v = V.str s from hp], hl, k _ _ _ _ (New.of hz rfl)⟩
      · cases hr
  | [], _, hr => cases hr
  | _ :: _ :: _, _, hr => simp only [biop, reduceCtorEq] at hr
theorem cb_abs : CallR X (.builtin "abs") (rVs X.K (biop .abs)) := by
  refine CallR.either fun xs H Q ⟨Z, ps, r, hz, hv, hr, k⟩ => ?_
  match ps, hv, hr with
  | [p], hv, hr =>
    obtain ⟨v, rfl, hp⟩ := hv.one
    cases p <;> simp only [biop, reduceCtorEq, Option.some.injEq] at hr
    subst hr
    exact ⟨_, call_abs, _, by rw [show v = V.int _ from hp], k _ _ _ _ (New.of hz rfl)⟩
  | [], _, hr => cases hr
  | _ :: _ :: _, _, hr => simp only [biop, reduceCtorEq] at hr
theorem cb_int : CallR X (.type "int") (rVs X.K (biop .int)) := by
  refine CallR.either fun xs H Q ⟨Z, ps, r, hz, hv, hr, k⟩ => ?_
  match ps, hv, hr with
  | [p], hv, hr =>
    obtain ⟨v, rfl, hp⟩ := hv.one
    cases p <;> simp only [biop, reduceCtorEq, Option.some.injEq] at hr
    case int i =>
      subst hr
      exact ⟨_, call_int1, .inl ⟨_, by rw [show v = V.int _ from hp], k _ _ _ _ (New.of hz rfl)⟩⟩
    case bool i =>
      subst hr
      exact ⟨_, call_int1, .inr ⟨_, by rw [show v = V.bl _ from hp], k _ _ _ _ (New.of hz rfl)⟩⟩
  | [], _, hr => cases hr
  | _ :: _ :: _, _, hr => simp only [biop, reduceCtorEq] at hr
theorem cb_min2 (hc : X.calm = true) : CallR X (.builtin "min") (rVs X.K (biop .min2)) := by
  refine CallR.either fun xs H Q ⟨Z, ps, r, hz, hv, hr, k⟩ => ?_
  match ps, hv, hr with
  | [p, q], hv, hr =>
    obtain ⟨v, w, rfl, hp, hq⟩ := hv.two
    cases p <;> cases q <;> simp only [biop, reduceCtorEq, Option.some.injEq] at hr
    subst hr
    exact ⟨_, call_min2 hc, _, _, by rw [show v = V.int _ from hp, show w = V.int _ from hq], k _ _ _ _ (New.of hz rfl)⟩
  | [], _, hr => cases hr
  | [_], _, hr => simp only [biop, reduceCtorEq] at hr
  | _ :: _ :: _ :: _, _, hr => simp only [biop, reduceCtorEq] at hr
theorem cb_max2 (hc : X.calm = true) : CallR X (.builtin "max") (rVs X.K (biop .max2)) := by
  refine CallR.either fun xs H Q ⟨Z, ps, r, hz, hv, hr, k⟩ => ?_
  match ps, hv, hr with
  | [p, q], hv, hr =>
    obtain ⟨v, w, rfl, hp, hq⟩ := hv.two
    cases p <;> cases q <;> simp only [biop, reduceCtorEq, Option.some.injEq] at hr
    subst hr
    exact ⟨_, call_max2 hc, _, _, by rw [show v = V.int _ from hp, show w = V.int _ from hq], k _ _ _ _ (New.of hz rfl)⟩
  | [], _, hr => cases hr
  | [_], _, hr => simp only [biop, reduceCtorEq] at hr
  | _ :: _ :: _ :: _, _, hr => simp only [biop, reduceCtorEq] at hr
theorem cr_sumT (hc : X.calm = true) : CallR X (.builtin "sum") (fun vs H Q => ∃ (a : Addr) (ns : List Int), vs = [V.ref a] ∧ SqT X.K H a (ns.map V.int) ∧ Q (.int ns.sum) H) := by
  intro pins s σ H vs us Q I r h
  obtain ⟨a, ns, rfl, hs, q⟩ := h
  obtain ⟨its, rv, hl, _⟩ := I.tuple hs
  rw [Vals.ref1 r]
  have hi := rv.ints
  obtain ⟨xs, hx⟩ := hi.allInts.items
  have hn : numsOf its.toArray.toList = ns := by rw [show its.toArray.toList = its from rfl, hi.numsOf]
  rw [hx] at hl hn
  rw [nums_intItems] at hn
  refine PySem.W.ktm_sumG (I.ok.hd hc) hl fun h' tk t' hk => ?_
  rw [preSum_eq, List.take_of_length_le (by simp), hn]
  exact ⟨.int _, H, I.kept hk, ⟨_, rfl⟩, q⟩
theorem cb_sum (hc : X.calm = true) : CallR X (.builtin "sum") (rVs X.K (biop .sum)) := by
  refine CallR.either fun xs H Q ⟨Z, ps, r, hz, hv, hr, k⟩ => ?_
  match ps, hv, hr with
  | [p], hv, hr =>
    obtain ⟨v, rfl, hp⟩ := hv.one
    cases p <;> simp only [biop, reduceCtorEq, Option.map_eq_some_iff] at hr
    case list ds =>
      obtain ⟨is, h1, h2⟩ := hr
      subst h2
      obtain ⟨a, vs, e, n, w⟩ := hp
      rw [ints_vs w h1] at n
      exact ⟨_, cr_sum hc, a, is, by rw [e], n, k _ _ _ _ (New.of hz rfl)⟩
    case tuple ds =>
      obtain ⟨is, h1, h2⟩ := hr
      subst h2
      obtain ⟨a, vs, e, n, w⟩ := hp
      have n := n.sq
      rw [ints_vs w h1] at n
      exact ⟨_, cr_sumT hc, a, is, by rw [e], n, k _ _ _ _ (New.of hz rfl)⟩
  | [], _, hr => cases hr
  | _ :: _ :: _, _, hr => simp only [biop, reduceCtorEq] at hr
theorem cb_all (hc : X.calm = true) : CallR X (.builtin "all") (rVs X.K (biop .all)) := by
  refine CallR.either fun xs H Q ⟨Z, ps, r, hz, hv, hr, k⟩ => ?_
  match ps, hv, hr with
  | [p], hv, hr =>
    obtain ⟨v, rfl, hp⟩ := hv.one
    cases p <;> simp only [biop, reduceCtorEq, Option.map_eq_some_iff] at hr
    obtain ⟨is, h1, h2⟩ := hr
    subst h2
    obtain ⟨a, vs, e, n, w⟩ := hp
    rw [bools_vs w h1] at n
    exact ⟨_, cr_all hc, a, is, by rw [e], n, k _ _ _ _ (New.of hz rfl)⟩
  | [], _, hr => cases hr
  | _ :: _ :: _, _, hr => simp only [biop, reduceCtorEq] at hr
theorem cb_any (hc : X.calm = true) : CallR X (.builtin "any") (rVs X.K (biop .any)) := by
  refine CallR.either fun xs H Q ⟨Z, ps, r, hz, hv, hr, k⟩ => ?_
  match ps, hv, hr with
  | [p], hv, hr =>
    obtain ⟨v, rfl, hp⟩ := hv.one
    cases p <;> simp only [biop, reduceCtorEq, Option.map_eq_some_iff] at hr
    obtain ⟨is, h1, h2⟩ := hr
    subst h2
    obtain ⟨a, vs, e, n, w⟩ := hp
    rw [bools_vs w h1] at n
    exact ⟨_, cr_any hc, a, is, by rw [e], n, k _ _ _ _ (New.of hz rfl)⟩
  | [], _, hr => cases hr
  | _ :: _ :: _, _, hr => simp only [biop, reduceCtorEq] at hr
theorem len_pos {is : List Int} {m : Int} (h : is.min? = some m ∨ is.max? = some m) : 0 < is.length := by
  cases is with
  | nil => rcases h with h | h <;> cases h
  | cons i is => simp
theorem cb_tuple : CallR X (.type "tuple") (rVs X.K (biop .tuple)) := by
  refine CallR.either fun xs H Q ⟨Z, ps, r, hz, hv, hr, k⟩ => ?_
  match ps, hv, hr with
  | [p], hv, hr =>
    obtain ⟨v, rfl, hp⟩ := hv.one
    cases p <;> simp only [biop, rowOf, reduceCtorEq, Option.map_some, Option.map_none, Option.some.injEq] at hr
    case list ds =>
      subst hr
      obtain ⟨a, vs, e, n, w⟩ := hp
      exact ⟨_, call_tuple_of, a, vs, by rw [e], .inl ⟨n, fun l hl => k _ _ _ _ (New.tup hz hl w)⟩⟩
    case tuple ds =>
      subst hr
      have hp0 : Rp X.K H Z (.tuple ds) v := hp
      obtain ⟨a, vs, e, n, w⟩ := hp
      refine ⟨_, call_tuple_of, a, vs, by rw [e], .inr ⟨n.sq, ?_⟩⟩
      rw [← e]
      exact k _ _ _ _ (New.of hz hp0)
  | [], _, hr => cases hr
  | _ :: _ :: _, _, hr => simp only [biop, reduceCtorEq] at hr
theorem cb_list (hc : X.calm = true) : CallR X (.type "list") (rVs X.K (biop .list)) := by
  refine CallR.either fun xs H Q ⟨Z, ps, r, hz, hv, hr, k⟩ => ?_
  match ps, hv, hr with
  | [p], hv, hr =>
    obtain ⟨v, rfl, hp⟩ := hv.one
    cases p <;> simp only [biop, rowOf, reduceCtorEq, Option.map_some, Option.map_none, Option.some.injEq] at hr
    case list ds =>
      subst hr
      obtain ⟨a, vs, e, n, w⟩ := hp
      exact ⟨_, call_list_of, a, vs, by rw [e], .inl n, fun l hl => k _ _ _ _ (New.lst hz hl w)⟩
    case tuple ds =>
      subst hr
      obtain ⟨a, vs, e, n, w⟩ := hp
      exact ⟨_, call_list_of, a, vs, by rw [e], .inr n.sq, fun l hl => k _ _ _ _ (New.lst hz hl w)⟩
    case dict kvs =>
      split at hr
      · rename_i hf
        obtain rfl := Option.some.inj hr
        obtain ⟨a, es, e, ⟨ks, n, q⟩, w⟩ := hp
        subst q
        exact ⟨_, call_list_dK hc, a, ks, by rw [e], n, fun l hl => k _ _ _ _ (New.lst hz hl (flat_keys (rpk_flat w hf)))⟩
      · cases hr
  | [], _, hr => cases hr
  | _ :: _ :: _, _, hr => simp only [biop, reduceCtorEq] at hr
end
end Ev
set_option autoImplicit false
set_option linter.all false
set_option maxRecDepth 100000
/-! Sorting tuples of which some may be empty. -/
namespace Ev
open PySem PySem.W PySem.SeqAt PySem.Calls PyProof.Rows
section
variable {prog : Program} {w : World} {A : Around} {E : Value → Shared → Prop} {s : Shared}
theorem call_tuple_lt {Q : Value → Shared → Prop} {l b : Addr} {items items2 : Array Value} {e r : Nat → Bool} (hl : s.heap.IsTuple l items) (hb : s.heap.IsTuple b items2)
    (he : ∀ j (h1 : j < items.size) (h2 : j < items2.size), EqAt A.in1 s items[j] items2[j] (e j)) (hr : ∀ j (h1 : j < items.size) (h2 : j < items2.size), e j = false → RcLt A.in1 s items[j] items2[j] (r j))
    (h : Q (.bool (firstLt e r (decide (items.size < items2.size)) (List.range (min items.size items2.size)))) s) : wpAny (model prog w) A (call (.builtin "tuple.__lt__") [.ref l, .ref b]) Q E s := by
  obtain ⟨⟨cls, dd, data, sl⟩, ho, hc, n, hd⟩ := id hl
  obtain ⟨⟨cls2, dd2, data2, sl2⟩, ho2, hc2, n2, hd2⟩ := id hb
  simp only at hc hd hc2 hd2
  subst hc hd hc2 hd2
  exact call_meets F.slot_tuple_lt ⟨_, ho, rfl⟩ F.entry_tuple_lt (F.args_tuple_lt_2 _ _) (tuple_ltAt l b items items2 n n2 dd dd2 sl sl2 e r) ⟨ho, ho2, he, hr, h⟩
theorem oneLt_tuples {f : Bool} {xs ys : List PyData} {a b : Value} {as bs : List Addr} {Q : Bool → Shared → Prop} (ra : Reads s.heap a (.tuple xs) as) (rb : Reads s.heap b (.tuple ys) bs) (h : alike (.tuple xs) (.tuple ys) = true)
    (hu : A.units + min (PyData.tuple xs).depth (PyData.tuple ys).depth < cLine) (hq : Q (dataLt (.tuple xs) (.tuple ys)) s) : wpAny (model prog w) A (oneLt' f a b) Q E s := by
  cases f with
  | false => exact oneLt_alike (fun h => by cases h) ra rb h (by simp) hu hq
  | true =>
    have hal : alikeAll xs ys = true := by simpa [alike] using h
    cases ra with
    | @tuple l o vs n _ as₁ h1 h2 h3 h4 =>
      cases rb with
      | @tuple l' o' vs' n' _ bs₁ k1 k2 k3 k4 =>
        have n1 : vs.size = xs.length := by simpa using ReadsAll.length _ _ _ h4
        have n2 : vs'.size = ys.length := by simpa using ReadsAll.length _ _ _ k4
        rw [dataLt_tuple, ← firstLt_toks xs ys hal, ← n1, ← n2] at hq
        rw [oneLt'_eq]
        simp only [if_true]
        refine wpAny_bind (wpAny_cRoomFor (room_here hu) ?_)
        refine wpAny_bind (wpAny_callSpecialIfBound?_slot (T := "tuple") ⟨_, h1, h2⟩ F.slot_tuple_lt (call_tuple_lt (e := pairEq xs ys) (r := fun j => dataLt (xs.getD j .none) (ys.getD j .none)) ⟨_, h1, h2, _, h3⟩ ⟨_, k1, k2, _, k3⟩ (fun j j1 j2 => ?_) (fun j j1 j2 hj => ?_) ?_))
        · have := eqAt_alikeAll xs ys A.in1 s vs.toList vs'.toList _ _ h4 k4 hal (PySem.SeqAt.room_in hu) j (by simpa using j1) (by simpa using j2)
          simpa using this
        · have := rcLt_alikeAll xs ys A.in1 s vs.toList vs'.toList _ _ h4 k4 hal (PySem.SeqAt.room_in hu) j (by simpa using j1) (by simpa using j2) hj
          simpa using this
        · exact wpAny_truthy_bool hq
/-- the tuple has an item -/
def nonE : PyData → Bool
  | .tuple (_ :: _) => true
  | _ => false
theorem firsts_any : ∀ {vs : List Value} {ds : List PyData} {Q : List (Option Value) → Shared → Prop}, EachIs (fun v d => ∃ as, Reads s.heap v d as) vs ds → (∀ d ∈ ds, ∃ xs, d = .tuple xs) → (∀ fs : List (Option Value), fs.map (·.isSome) = ds.map nonE → Q fs s) → wpAny (model prog w) A (vs.mapM firstOfTuple') Q E s
  | _, _, Q, .nil, _, h => by rw [List.mapM_nil]; exact wpAny_pure (h [] rfl)
  | _, _, Q, .cons (a := v) (b := d) (as := vs) (bs := ds) ⟨as, r⟩ t, ht, h => by
    obtain ⟨xs, rfl⟩ := ht _ List.mem_cons_self
    rw [List.mapM_cons]
    cases r with
    | @tuple l o us n _ as₁ h1 h2 h3 h4 =>
      refine wpAny_bind ?_
      rw [kas_first_eq]
      refine wpAny_bind (Looks.here (show Looks (model prog w) s.heap (typeOf (.ref l)) o.cls from (Looks.ld h1).andThen .now) ?_)
      rw [h2, if_neg (by first | decide | simp)]
      refine wpAny_bind (listItems_at h1 h3 (wpAny_pure ?_))
      refine wpAny_bind (firsts_any (Q := fun bs s' => wpAny (model prog w) A (pure (us[0]? :: bs)) Q E s') t (fun d hd => ht d (List.mem_cons_of_mem _ hd)) fun fs hfs => wpAny_pure (h _ ?_))
      have hn : us.size = xs.length := by simpa using ReadsAll.length _ _ _ h4
      rw [List.map_cons, List.map_cons, hfs]
      congr 1
      cases xs with
      | nil =>
        have : us[0]? = none := Array.getElem?_eq_none (by rw [hn]; exact Nat.le_refl _)
        rw [this]; rfl
      | cons x xs =>
        have : 0 < us.size := by rw [hn]; simp
        rw [Array.getElem?_eq_getElem this]; rfl
/-- values that read as alike tuples can be sorted -/
theorem sorts_tuples {vs : List Value} {ds : List PyData} (e : EachIs (fun v d => ∃ as, Reads s.heap v d as) vs ds) (hal : AllAlike ds) (ht : ∀ d ∈ ds, ∃ xs, d = .tuple xs) (hu : ∀ d, d ∈ ds → A.units + d.depth < cLine) : SortsAt prog w A s (dataKind s.heap ds) vs := by
  by_cases hne : ∀ d ∈ ds, ∃ x r, d = .tuple (x :: r)
  · exact SortsAt.data e hal (.inl hne) hu
  have room : ∀ {d d' : PyData}, d ∈ ds → A.units + min d.depth d'.depth < cLine := fun {d d'} hd => Nat.lt_of_le_of_lt (Nat.add_le_add_left (Nat.min_le_left _ _) _) (hu d hd)
  have hall : ds.all nonE = false := by
    rw [← Bool.not_eq_true, List.all_eq_true]
    intro h
    refine hne fun d hd => ?_
    obtain ⟨xs, rfl⟩ := ht d hd
    have := h _ hd
    cases xs with
    | nil => cases this
    | cons x r => exact ⟨x, r, rfl⟩
  refine ⟨fun v hv => ?_, ?_⟩
  · obtain ⟨d, hd, as, r⟩ := e.left v hv
    exact ⟨_, dataKind_some hal hd r⟩
  · have lt : ∀ f : Bool, ∀ (E : Value → Shared → Prop) (x y : Value) (a b : List (Int ⊕ List Nat)) (Q : Bool → Shared → Prop), (dataKind s.heap ds).keyOf x = some a → (dataKind s.heap ds).keyOf y = some b → Q (PyProof.Rows.lexLt itemOrd a b) s → wpAny (model prog w) A (oneLt' f x y) Q E s := by
      intro f E x y a b Q ha hb hq
      obtain ⟨d, as, hd, ra, rfl⟩ := dataKind_inv ha
      obtain ⟨d', as', hd', rb, rfl⟩ := dataKind_inv hb
      have hdd := hal d hd d' hd'
      have hroom := room (d' := d') hd
      obtain ⟨xs, rfl⟩ := ht d hd
      obtain ⟨ys, rfl⟩ := ht d' hd'
      exact oneLt_tuples ra rb hdd hroom hq
    cases ds with
    | nil => simp at hall
    | cons d₀ ds₀ =>
      refine ⟨if nonE d₀ then general' else oneType', ?_, fun h2 E Q hq => ?_⟩
      · intro E x y a b Q ha hb hq
        cases nonE d₀
        · exact lt true E x y a b Q ha hb hq
        · exact lt false E x y a b Q ha hb hq
      · rw [keyKind'_eq, List.mapM_toArray, map_eq_pure_bind]
        refine wpAny_bind (wpAny_bind (firsts_any e ht fun fs hfs => wpAny_pure ?_))
        have h1 : (fs.toArray.all fun x => x.isSome) = false := by
          rw [List.all_toArray]
          have : fs.all (fun x => x.isSome) = (fs.map (·.isSome)).all id := by rw [List.all_map]; rfl
          rw [this, hfs, List.all_map]
          exact hall
        rw [if_neg (by rw [h1]; simp)]
        cases fs with
        | nil => simp at hfs
        | cons f fs =>
          simp only [List.map_cons, List.cons.injEq] at hfs
          have h0 : ((f :: fs).toArray[0]?.bind id) = f := by simp
          rw [h0]
          cases hd0 : nonE d₀
          · rw [hd0] at hfs hq
            rw [if_neg (by rw [hfs.1]; simp)]
            rw [oneTypeOnly'_eq, List.mapM_toArray, map_eq_pure_bind]
            refine wpAny_bind (wpAny_bind (wpAny_bind (kas_mapM (r := Value.type "tuple") _ (fun v hv Q' hq => ?_) (wpAny_pure ?_))))
            · obtain ⟨d, hd, as, r⟩ := e.left v hv
              obtain ⟨xs, rfl⟩ := ht d hd
              exact (looks_reads (M := model prog w) r).here hq
            · cases vs with
              | nil => simp at h2
              | cons v vs =>
                have ha : ((List.map (fun _ => Value.type "tuple") (v :: vs)).toArray.all fun x => x == Value.type "tuple") = true := by
                  simp only [List.all_toArray, List.all_map, List.all_eq_true]
                  intro _ _
                  rfl
                have h0 : (List.map (fun _ => Value.type "tuple") (v :: vs)).toArray[0]? = some (Value.type "tuple") := by simp
                rw [h0]
                simp only [ha, if_true]
                exact wpAny_pure (wpAny_pure hq)
          · rw [hd0] at hfs hq
            rw [if_pos hfs.1]
            exact wpAny_pure hq
/-- tuples, or no tuple and no None -/
def Srt (ds : List PyData) : Prop := (∀ d ∈ ds, ∃ xs, d = PyData.tuple xs) ∨ ∀ d ∈ ds, d ≠ .none ∧ ∀ xs, d ≠ .tuple xs
theorem sorts_any {vs : List Value} {ds : List PyData} (e : EachIs (fun v d => ∃ as, Reads s.heap v d as) vs ds) (hal : AllAlike ds) (hk : Srt ds) (hu : ∀ d, d ∈ ds → A.units + d.depth < cLine) : SortsAt prog w A s (dataKind s.heap ds) vs :=
  hk.elim (fun ht => sorts_tuples e hal ht hu) fun hn => SortsAt.data e hal (.inr hn) hu
variable {β : Type} {enc : β → PyData} {R : Value → β → Prop} {vs : List Value} {bs : List β}
theorem sorted_any {l : Addr} {Q : Value → Shared → Prop} (hl : s.heap.IsList l vs.toArray) (e : EachIs R vs bs) (er : EachIs (fun v b => ∃ as, Reads s.heap v (enc b) as) vs bs) (hal : AllAlike (bs.map enc)) (hk : Srt (bs.map enc)) (hL : bs.length ≤ sizeLine)
    (hu : ∀ b, b ∈ bs → A.units + 2 + (enc b).depth < cLine) (h : ∀ out, out.length = bs.length → EachIs R out (bs.mergeSort (dataLe false enc)) → Q (.ref (s.heap.objs.size + 1)) { s with heap := sortedAll s.heap vs (List.toArray out) }) :
    wpAny (model prog w) A (call (.builtin "sorted") [.ref l]) Q E s := by
  have er' : EachIs (fun v b => ∃ as, Reads (sortingHeap (copyHeap s.heap vs) (s.heap.objs.size + 1) vs) v (enc b) as) vs bs := er.mono fun _ _ ⟨as, r⟩ => ⟨as, PyProof.Rows.Reads.keeps (fun _ _ => sorting_copy_old) r⟩
  exact sorted_vals hl (sorts_any (s := { s with heap := sortingHeap (copyHeap s.heap vs) (s.heap.objs.size + 1) vs }) (each_map (R := fun v d => ∃ as, Reads (sortingHeap (copyHeap s.heap vs) (s.heap.objs.size + 1) vs) v d as) enc er') hal hk (bound_map hu)) (by rw [e.length]; exact hL)
    (h _ (by rw [sortVals_length false rfl]; exact e.length) (sortVals_data false e er' hal))
theorem list_sort_any {a : Addr} {n : Nat} {Q : Value → Shared → Prop} (ho : s.heap.get? a = some (seqObj "list" vs.toArray n)) (e : EachIs R vs bs) (er : EachIs (fun v b => ∃ as, Reads s.heap v (enc b) as ∧ a ∉ as) vs bs) (hal : AllAlike (bs.map enc)) (hk : Srt (bs.map enc)) (hL : bs.length ≤ sizeLine)
    (hu : ∀ b, b ∈ bs → A.units + 1 + (enc b).depth < cLine) (h : ∀ out, out.length = bs.length → EachIs R out (bs.mergeSort (dataLe false enc)) → Q .none { s with heap := sortedHeap s.heap a vs (List.toArray out) }) :
    wpAny (model prog w) A (call (.builtin "list.sort") [.ref a]) Q E s := by
  have er' : EachIs (fun v b => ∃ as, Reads (sortingHeap s.heap a vs) v (enc b) as) vs bs := each_keepBut (h' := sortingHeap s.heap a vs) (fun _ _ hb q => sortingHeap_old hb q) (fun o q => by rw [ho] at q; rw [← Option.some.inj q]) hal er
  refine wpAny_call_entry slot_list_sort ⟨_, ho, rfl⟩ entry_list_sort (list_sort_vals (κ := dataKind (sortingHeap s.heap a vs) (bs.map enc)) ho (sorts_any (s := { s with heap := sortingHeap s.heap a vs }) (each_map (R := fun v d => ∃ as, Reads (sortingHeap s.heap a vs) v d as) enc er') hal hk (bound_map hu)) (by rw [e.length]; exact hL) ⟨.none, rfl, ?_⟩) (args_list_sort _)
  exact h _ (by rw [sortVals_length false rfl]; exact e.length) (sortVals_data false e er' hal)
end
end Ev
set_option autoImplicit false
set_option linter.all false
set_option maxRecDepth 100000
/-! sorted of a list of data; sorted(set(t)), len(set(t)) of a tuple of numbers. -/
namespace Ev
open PySem L2 PyProof.Rows
theorem each_of {α β : Type} {R : α → β → Prop} : ∀ {as : List α} {bs : List β}, PySem.W.EachIs R as bs → as.length = bs.length
  | _, _, .nil => rfl
  | _, _, .cons _ t => congrArg (· + 1) (each_of t)
section
variable {X : Cx} {pins : List (Addr × Obj)} {σ : L2.St} {H : Hp} {Z : AP} {s : Shared}
theorem rps_each (I : Inv X pins σ H s) : ∀ {ds : List PyData} {vs : List V} {us : List Value}, Rps X.K H Z ds vs → Vals vs us → ds.all SeqAt.shaped = true →
    PySem.W.EachIs (fun u d => ∃ v, RelV v u ∧ Rp X.K H Z d v) us ds ∧ PySem.W.EachIs (fun u d => ∃ as, Reads s.heap u d as) us ds
  | [], _, _, h, r, _ => by
    rw [show _ = [] from h] at r
    cases r
    exact ⟨.nil, .nil⟩
  | d :: ds, _, us, ⟨v, w, e, h1, h2⟩, r, c => by
    subst e
    cases r with
    | cons r1 r2 =>
      simp only [List.all_cons, Bool.and_eq_true] at c
      obtain ⟨q1, q2⟩ := rps_each I h2 r2 c.2
      exact ⟨.cons ⟨v, r1, h1⟩ q1, .cons (Dp.reads I d v _ (Rp.dp d v (SeqAt.canLay_of_shaped c.1) h1) r1) q2⟩
theorem each_rps {K : PySem.W.Frag} : ∀ {us : List Value} {ds : List PyData}, PySem.W.EachIs (fun u d => ∃ v, RelV v u ∧ Rp K H Z d v) us ds → ∃ vs, Vals vs us ∧ Rps K H Z ds vs
  | _, _, .nil => ⟨[], .nil, rfl⟩
  | _, _, .cons ⟨v, r, h⟩ t => by
    obtain ⟨vs, q1, q2⟩ := each_rps t
    exact ⟨v :: vs, .cons r q1, v, vs, rfl, h, q2⟩
end
section
variable {X : Cx}
theorem rSD (hu : X.A.units + 70 < cLine) : CallR X (.builtin "sorted") (fun xs H Q => ∃ (Z : AP) (a : Addr) (vs : List V) (ds es : List PyData), xs = [.ref a] ∧ SqL X.K H a vs ∧ Rps X.K H Z ds vs ∧ sortp ds = some es ∧ ∀ p ws, H p = none → Rps X.K H Z es ws → Q (.ref p) (upd H p (.lst ws))) := by
  intro pins s σ H xs us Q I r h
  obtain ⟨Z, a, vs, ds, es, rfl, hR, w, hs, k⟩ := h
  unfold sortp at hs
  split at hs
  · rename_i c
    obtain rfl := Option.some.inj hs
    simp only [Bool.and_eq_true, decide_eq_true_eq] at c
    obtain ⟨⟨⟨c1, c2⟩, c3⟩, c4⟩ := c
    obtain ⟨its, rv, pl, _⟩ := I.list hR
    rw [Vals.ref1 r]
    obtain ⟨q1, q2⟩ := rps_each I w rv c4
    have hal : PySem.W.AllAlike (ds.map id) := by
      rw [List.map_id]
      intro d hd d' hd'
      simp only [allAlike, List.all_eq_true] at c1
      exact c1 d hd d' hd'
    have hk : Srt (ds.map id) := by
      rw [List.map_id]
      simp only [sortOk, Bool.or_eq_true, List.all_eq_true] at c2
      refine c2.imp (fun g d hd => ?_) (fun g d hd => ?_)
      · have := g d hd
        cases d with
        | tuple xs => exact ⟨xs, rfl⟩
        | none => cases this
        | bool _ => cases this
        | int _ => cases this
        | str _ => cases this
        | list _ => cases this
        | dict _ => cases this
      · have := g d hd
        cases d <;> first | (refine ⟨?_, fun xs => ?_⟩ <;> simp; done) | (simp at this; done)
    refine sorted_any (enc := id) (bs := ds) (vs := its) (R := fun u d => ∃ v, RelV v u ∧ Rp X.K H Z d v) pl.isList q1 q2 hal hk c3 (fun d hd => ?_) fun out hl ho => ?_
    · have g := SeqAt.depth_of_shaped (List.all_eq_true.mp c4 d hd)
      show X.A.units + 2 + d.depth < cLine
      omega
    · obtain ⟨ws, g1, g2⟩ := each_rps ho
      obtain ⟨ep', he'⟩ := PyProof.Rows.sortedAll_at s.heap its out.toArray
      have e3 : ds.mergeSort (PySem.W.dataLe false id) = ds.mergeSort le := by rw [PySem.W.dataLe_eq]; rfl
      rw [e3] at g2
      have hlen : ws.length ≤ sizeLine := by rw [g2.len, List.length_mergeSort]; exact c3
      exact ⟨.ref _, upd H (s.heap.objs.size + 1) (.lst ws), I.laid (t' := s.toks) (fun _ _ => PyProof.Rows.sortedAll_old) (Nat.le_succ _) ⟨hlen, out, ep', g1, he'⟩, rfl, k _ ws (I.hok.fresh (Nat.le_succ _)) g2⟩
  · cases hs
theorem sortp_facts {ds es : List PyData} (hs : sortp ds = some es) : PySem.W.AllAlike (ds.map id) ∧ Srt (ds.map id) ∧ ds.length ≤ sizeLine ∧ ds.all SeqAt.shaped = true ∧ es = ds.mergeSort le := by
  unfold sortp at hs
  split at hs
  · rename_i c
    obtain rfl := Option.some.inj hs
    simp only [Bool.and_eq_true, decide_eq_true_eq] at c
    obtain ⟨⟨⟨c1, c2⟩, c3⟩, c4⟩ := c
    refine ⟨?_, ?_, c3, c4, rfl⟩
    · rw [List.map_id]
      intro d hd d' hd'
      simp only [allAlike, List.all_eq_true] at c1
      exact c1 d hd d' hd'
    · rw [List.map_id]
      simp only [sortOk, Bool.or_eq_true, List.all_eq_true] at c2
      refine c2.imp (fun g d hd => ?_) (fun g d hd => ?_)
      · have := g d hd
        cases d with
        | tuple xs => exact ⟨xs, rfl⟩
        | none => cases this
        | bool _ => cases this
        | int _ => cases this
        | str _ => cases this
        | list _ => cases this
        | dict _ => cases this
      · have := g d hd
        cases d <;> first | (refine ⟨?_, fun xs => ?_⟩ <;> simp; done) | (simp at this; done)
  · cases hs
theorem rSDt (hu : X.A.units + 70 < cLine) : CallR X (.builtin "sorted") (fun xs H Q => ∃ (Z : AP) (a : Addr) (vs : List V) (ds es : List PyData), xs = [.ref a] ∧ SqT X.K H a vs ∧ Rps X.K H Z ds vs ∧ sortp ds = some es ∧ ∀ p ws, H p = none → Rps X.K H Z es ws → Q (.ref p) (upd H p (.lst ws))) := by
  intro pins s σ H xs us Q I r h
  obtain ⟨Z, a, vs, ds, es, rfl, hR, w, hs, k⟩ := h
  obtain ⟨hal, hk, c3, c4, rfl⟩ := sortp_facts hs
  obtain ⟨its, rv, ⟨o, ho, hc, n, hd⟩, hz⟩ := I.tuple hR
  rw [Vals.ref1 r]
  have hl := rv.length
  have hil : its.length = ds.length := by rw [← w.len, hl]
  refine Calls.call_function_entry kind_sorted plain_sorted entry_sorted (args_sorted1 _) ?_
  unfold Builtin.«sorted»
  refine wpAny_bind (m := checkCount "sorted" 1 1 _) (wpAny_pure ?_)
  refine wpAny_bind (wpAny_collect_seq (A := X.A.in1) a (.inr rfl) ho hc hd (fun h' hkp => ?_) (by rw [List.size_toArray, hil]; exact c3))
  have ei : its.toArray.toList = its := by simp
  rw [ei]
  have I1 := I.kept (t' := s.toks) hkp
  obtain ⟨q1, q2⟩ := rps_each I1 w rv c4
  refine wpAny_bind (wpAny_newList ?_ (by rw [hil]; exact c3))
  have hoL : (h'.push (seqObj "list" its.toArray 0)).get? h'.objs.size = some (seqObj "list" its.toArray 0) := Heap.get?_push_size _ rfl
  have er : PySem.W.EachIs (fun u d => ∃ as, Reads (h'.push (seqObj "list" its.toArray 0)) u (id d) as ∧ h'.objs.size ∉ as) its ds := q2.mono fun u d ⟨as, r⟩ => ⟨as, PyProof.Rows.Reads.keeps (fun b o e => Heap.get?_push_of_some _ e) r, fun hm => by
    obtain ⟨o, e⟩ := PyProof.On.reads_mem_get r _ hm
    exact Nat.lt_irrefl _ (Heap.lt_size e)⟩
  refine wpAny_bind (wpAny_holding (list_sort_any (s := { s with heap := h'.push (seqObj "list" its.toArray 0) }) (enc := id) (bs := ds) (R := fun u d => ∃ v, RelV v u ∧ Rp X.K H Z d v) hoL q1 er hal hk c3 (fun d hd => ?_) fun out hol a1 => ?_))
  · have g := SeqAt.depth_of_shaped (List.all_eq_true.mp c4 d hd)
    show X.A.in1.units + 1 + d.depth < cLine
    have : X.A.in1.units = X.A.units + 1 := rfl
    omega
  obtain ⟨ws, g1, g2⟩ := each_rps a1
  have e3 : ds.mergeSort (PySem.W.dataLe false id) = ds.mergeSort le := by rw [PySem.W.dataLe_eq]; rfl
  rw [e3] at g2
  obtain ⟨c, hc⟩ := sortedHeap_at (vs := its) (out := out.toArray) hoL
  have kp : ∀ b u, h'.get? b = some u → (sortedHeap (h'.push (seqObj "list" its.toArray 0)) h'.objs.size its out.toArray).get? b = some u := fun b u q => by
    have hlt := Heap.lt_size q
    rw [sortedHeap_old (Nat.ne_of_lt hlt) (by rw [size_push']; exact Nat.lt_succ_of_lt hlt)]
    exact Heap.get?_push_of_some _ q
  have hlen : ws.length ≤ sizeLine := by rw [g2.len, List.length_mergeSort]; exact c3
  exact wpAny_pure ⟨_, rfl, .ref _, upd H h'.objs.size (.lst ws), I1.laid (t' := s.toks) kp (Nat.le_refl _) ⟨hlen, out, c, g1, hc⟩, rfl, k _ ws (I1.hok.fresh (Nat.le_refl _)) g2⟩
theorem cb_sorted (hu : X.A.units + 70 < cLine) : CallR X (.builtin "sorted") (rVs X.K (biop .sorted)) := by
  intro pins s σ H xs us Q I rv h
  obtain ⟨Z, ps, r, hz, hv, hr, k⟩ := h
  match ps, hv, hr with
  | [p], hv, hr =>
    obtain ⟨v, rfl, hp⟩ := hv.one
    cases p <;> simp only [biop, reduceCtorEq, Option.map_eq_some_iff] at hr
    · obtain ⟨es, h1, h2⟩ := hr
      subst h2
      obtain ⟨a, vs, e, n, w⟩ := hp
      exact rSD hu pins s σ H _ us Q I rv ⟨Z, a, vs, _, es, by rw [e], n, w, h1, fun p ws hp hw => k _ _ _ _ (New.lst hz hp hw)⟩
    · obtain ⟨es, h1, h2⟩ := hr
      subst h2
      obtain ⟨a, vs, e, n, w⟩ := hp
      exact rSDt hu pins s σ H _ us Q I rv ⟨Z, a, vs, _, es, by rw [e], NT.sq n, w, h1, fun p ws hp hw => k _ _ _ _ (New.lst hz hp hw)⟩
  | [], _, hr => cases hr
  | _ :: _ :: _, _, hr => simp only [biop, reduceCtorEq] at hr
/-! ### sets of numbers -/
def rSetT (K : PySem.W.Frag) (w : World) : List V → Hp → VK → Prop := fun xs H Q => ∃ (p : Addr) (ns : List Int), xs = [.ref p] ∧ SqT K H p (ns.map V.int) ∧ ns.length < 64 ∧
  ∀ l c, H l = none → c ≤ ns.length → Q (.ref l) (upd H l (SetO w l (fun j => decide (j ∈ ns)) c))
theorem cb_setT (hc : X.calm = true) : CallR X (.type "set") (rSetT X.K X.w) := by
  intro pins s σ H xs us Q I r h
  obtain ⟨p, ns, rfl, hq, hn, k⟩ := h
  obtain ⟨u, rfl, rx⟩ := vals1 r
  cases rx
  obtain ⟨its, r', pl, hz⟩ := I.tuple hq
  refine call_set_tupI (P := X.prog) (w := X.w) ns (I.ok.hd hc) pl (Vals.ints r') (by unfold scanBound; omega) fun h' tk c R hcn kp => ?_
  exact ⟨.ref s.heap.objs.size, _, I.laid (t' := tk) kp (Nat.le_refl _) (setO_new R), rfl, k _ c (I.hok.fresh (Nat.le_refl _)) hcn⟩
end
end Ev
set_option autoImplicit false
set_option linter.all false
set_option maxRecDepth 100000
/-! Expressions: calls, builtins, subscripts, slices, chains, tests. -/
namespace Ev
open PySem L2 PyProof.Rows
section
variable {X : Cx} {O : Orc} {pos p : Pos} {x : Str} {e : Expr} {es : List Expr} {ms : List ME}
theorem bi_of {K : PySem.W.Frag} {o : Bi} {σ : L2.St} {H : Hp} {Q : VK} (h : tEv K O (.bi o ms) σ H Q) : tCB (rVs K (biop o)) (tAs K O ms) σ H Q := by
  obtain ⟨env, Z, f, o', env', hE, ok, he, k⟩ := h
  simp only [ev, Option.bind_eq_some_iff, Option.some.injEq, Prod.mk.injEq] at he
  obtain ⟨x, hx, y, hy, r, hr, rfl, rfl⟩ := he
  refine ⟨env, Z, f, x.1, x.2, hE, ok, hx, fun vs H1 Z1 f1 g1 P1 o1 => ?_⟩
  obtain ⟨Z2, f2, P2, w, _⟩ := Post.vws (h := []) (by rw [List.append_nil]; exact P1) o1 (show views x.1 x.2 = some (y.1, y.2) from hy)
  exact ⟨Z2, y.1, r, P2.ok.trk, w, hr, fun v H' Z' g N => k v H' Z' f2 g (P2.new N) N.rep⟩
theorem s_biB {id : String} {o : Bi} (hc : CallR X (.builtin id) (rVs X.K (biop o))) (hg : Gl X x) (hm : X.mg x = none) (hv : bootBuiltins x = some (.builtin id)) (hn : x ≠ "__name__") (hdb : (x == ("__debug__" : Str)) = false) (hs : noStar e = true)
    (hpl : (backTo pos (starEach es X.env)).any (·.1) = false) (ha : PA X (e :: es) (tAs X.K O ms)) : PE X (.Call (.Name x p) (e :: es) [] pos) (tEv X.K O (.bi o ms)) :=
  PE.imp (pe_callB hc hg hm hv ha hn hdb (star_each hs es _) hpl) fun σ H Q h => bi_of h
theorem s_biT {T : String} {o : Bi} (hc : CallR X (.type T) (rVs X.K (biop o))) (hg : Gl X x) (hm : X.mg x = none) (hv : bootBuiltins x = some (.type T)) (hn : x ≠ "__name__") (hdb : (x == ("__debug__" : Str)) = false) (hs : noStar e = true)
    (hpl : (backTo pos (starEach es X.env)).any (·.1) = false) (ha : PA X (e :: es) (tAs X.K O ms)) : PE X (.Call (.Name x p) (e :: es) [] pos) (tEv X.K O (.bi o ms)) :=
  PE.imp (pe_callTy hc hg hm hv ha hn hdb (star_each hs es _) hpl) fun σ H Q h => bi_of h
/-! ### isinstance -/
theorem vw_of {K : PySem.W.Frag} {m : ME} {ts : List Ty} {σ : L2.St} {H : Hp} {Q : VK} (h : tEv K O (.isi m ts) σ H Q) :
    tEv K O m σ H fun v H1 => ∃ Z p, Vw K H1 Z p v ∧ Stood H1 Z ∧ (∀ H' , (∀ a o, H1 a = some o → H' a = some o) → Q (.bl (ts.any fun t => isTy t p)) H') := by
  obtain ⟨env, Z, f, o', env', hE, ok, he, k⟩ := h
  simp only [ev, Option.bind_eq_some_iff, Option.some.injEq, Prod.mk.injEq] at he
  obtain ⟨x, hx, y, hy, rfl, rfl⟩ := he
  refine ⟨env, Z, f, x.1, x.2, hE, ok, hx, fun v H1 Z1 f1 g1 P1 o1 => ?_⟩
  obtain ⟨Z2, f2, P2, w, _⟩ := Post.vw (h := []) (by rw [List.append_nil]; exact P1) o1 (show view x.1 x.2 = some (y.1, y.2) from hy)
  refine ⟨Z2, y.1, w, P2.ok.trk, fun H' hk => ?_⟩
  have N0 : New K H1 Z2 (.val (.bool (ts.any fun t => isTy t y.1))) (.bl (ts.any fun t => isTy t y.1)) H' Z2 [] :=
    ⟨hk, fun _ h => h, fun _ h => .inl h, ⟨rfl, rfl⟩, ⟨List.nodup_nil, (fun _ h => absurd h List.not_mem_nil), fun a z => by
      cases e : H1 a with
      | none => exact absurd e (P2.ok.trk a z)
      | some o => rw [hk a o e]; exact fun q => by cases q⟩, fun _ h => absurd h List.not_mem_nil⟩
  exact k _ _ _ _ _ (P2.new N0) N0.rep
theorem s_isi {m : ME} (t : Ty) {x : Str} {p2 : Pos} (hg : Gl X "isinstance") (hm : X.mg "isinstance" = none) (hgt : Gl X x) (hmt : X.mg x = none) (hv : bootBuiltins x = some (.type (tyN t))) (hn : x ≠ "__name__") (hdb : (x == ("__debug__" : Str)) = false) (hs : noStar e = true) (h : PE X e (tEv X.K O m)) :
    PE X (.Call (.Name "isinstance" p) [e, .Name x p2] [] pos) (tEv X.K O (.isi m [t])) := by
  refine PE.imp (pe_callB call_isi hg hm (by rfl) (pa_cons h (pa_cons (pe_bltn (v := .ty (tyN t)) hgt hmt hv rfl hn hdb) pa_nil) (star_each hs _ _)) (by decide) (by decide) (star_each hs _ _)) fun σ H Q h => ?_
  obtain ⟨env, Z, f, o', env', hE, ok, he, k⟩ := vw_of h
  refine ⟨env, Z, f, o', env', hE, ok, he, fun v H' Z' f' g P o1 => ?_⟩
  obtain ⟨Z2, q, w, st, kk⟩ := k v H' Z' f' g P o1
  refine ⟨v, .ty (tyN t), tyOf q, .type (tyN t), isTy t q, rfl, .ty _, w.ty, kit_ty _ _ _, ?_⟩
  have := kk H' fun _ _ e => e
  simpa using this
theorem kit_any (K : PySem.W.Frag) (q : PyData) : ∀ ts : List Ty, PySem.W.kitAny K (tyOf q) (ts.map fun t => .type (tyN t)) = some (ts.any fun t => isTy t q)
  | [] => rfl
  | t :: ts => by
    show (match PySem.W.kitOne K (tyOf q) (.type (tyN t)) with
      | some true => some true
      | some false => PySem.W.kitAny K (tyOf q) (ts.map fun t => .type (tyN t))
      | none => none) = _
    rw [kit_ty, List.any_cons]
    cases isTy t q
    · simpa using kit_any K q ts
    · rfl
theorem cls_all : ∀ ts : List Ty, Paired ClsV (ts.map fun t => V.ty (tyN t)) (ts.map fun t => Value.type (tyN t))
  | [] => .nil
  | t :: ts => .cons (.ty _) (cls_all ts)
theorem s_isiT {m : ME} (t u : Ty) {x y : Str} {p2 p3 p4 : Pos} {j : Nat} (hg : Gl X "isinstance") (hm : X.mg "isinstance" = none) (hgt : Gl X x) (hmt : X.mg x = none) (hv : bootBuiltins x = some (.type (tyN t))) (hn : x ≠ "__name__") (hdb : (x == ("__debug__" : Str)) = false)
    (hgu : Gl X y) (hmu : X.mg y = none) (hvu : bootBuiltins y = some (.type (tyN u))) (hnu : y ≠ "__name__") (hdu : (y == ("__debug__" : Str)) = false) (hs : noStar e = true) (h : PE X e (tEv X.K O m)) :
    PE X (.Call (.Name "isinstance" p) [e, .Tuple [.Name x p2, .Name y p3] j p4] [] pos) (tEv X.K O (.isi m [t, u])) := by
  refine PE.imp (pe_callB call_isiT hg hm (by rfl) (pa_cons h (pa_cons (pe_tup (pa_cons (pe_bltn (v := .ty (tyN t)) hgt hmt hv rfl hn hdb) (pa_cons (pe_bltn (v := .ty (tyN u)) hgu hmu hvu rfl hnu hdu) pa_nil))) pa_nil) (star_each hs _ _)) (by decide) (by decide) (star_each hs _ _)) fun σ H Q h => ?_
  obtain ⟨env, Z, f, o', env', hE, ok, he, k⟩ := vw_of h
  refine ⟨env, Z, f, o', env', hE, ok, he, fun v H' Z' f' g P o1 => ?_⟩
  obtain ⟨Z2, q, w, st, kk⟩ := k v H' Z' f' g P o1
  refine ⟨by show 2 ≤ sizeLine; rw [sizeLine_eq]; omega, fun l hl => ?_⟩
  have kp : ∀ a o, H' a = some o → upd H' l (.tup [V.ty (tyN t), V.ty (tyN u)]) a = some o := fun a o e => upd_keep hl e
  exact ⟨v, l, _, tyOf q, _, _, rfl, upd_same, cls_all [t, u], (w.mono kp fun _ h => h).ty, kit_any _ q [t, u], kk _ kp⟩
/-! ### subscripts and slices -/
theorem atI_of {vs : List V} {i : Int} {j : Nat} {v : V} (h : ixOf vs.length i = some j) (e : vs[j]? = some v) : atI vs i = some v := by
  have hj : j < vs.length := by
    cases q : vs[j]? with
    | none => rw [q] at e; cases e
    | some w => exact (List.getElem?_eq_some_iff.mp q).1
  unfold ixOf at h
  unfold atI ixN
  split at h
  · rename_i h0
    split at h
    · rename_i h1
      obtain rfl := Option.some.inj h
      rw [if_pos h0, if_pos (by omega)]
      simpa using e
    · cases h
  · rename_i h0
    split at h
    · rename_i h1
      have hj := Option.some.inj h
      rw [if_neg h0, if_pos (by omega)]
      have e2 : (i + (vs.length : Int)).toNat = j := by omega
      simp only [Option.bind_some, e2]
      exact e
    · cases h
theorem IxR.either {r : R2} (h : ∀ x y H Q, r x y H Q → ∃ r', IxR X r' ∧ r' x y H Q) : IxR X r := fun value slice pins s σ H x y v u Q I rx ry q hs => by
  obtain ⟨r', h1, h2⟩ := h x y H Q q
  exact h1 value slice pins s σ H x y v u Q I rx ry h2 hs
theorem ix_dK (hu : X.A.units + 1 < cLine) : IxR X (fun x y H Q => ∃ a ks k v, x = .ref a ∧ y = kV k ∧ H a = some (.dK ks) ∧ valV ks k = some v ∧ Q v H) := by
  intro value slice pins s σ H x y v u Q I rx ry h hs
  obtain ⟨a, ks, k, z, rfl, rfl, e, ez, q⟩ := h
  cases rx
  have g : DGet H a (kV k) (some z) := by rw [← ez]; exact DGet.k e
  exact tail_any (dict_typeIs I g) PySem.F.slot_dict_getitem.lookup (d_getItem hu I g ry fun w' s3 I3 rw' => ⟨z, H, I3, rw', q⟩) hs
theorem ix_ok (hu : X.A.units + 1 < cLine) : IxR X (rV X.K fun p q => (ixop p q).map .val) := by
  refine IxR.either fun x y H Q ⟨Z, p, q, r, hz, hp, hq, hr, k⟩ => ?_
  obtain ⟨d, hd, rfl⟩ := Option.map_eq_some_iff.mp hr
  cases p with
  | list ds =>
    cases q <;> simp only [ixop, reduceCtorEq, Option.bind_eq_some_iff] at hd
    obtain ⟨j, h1, h2⟩ := hd
    obtain ⟨a, vs, e, n, w⟩ := hp
    obtain ⟨v, e1, e2⟩ := w.get h2
    refine ⟨_, ix_list, a, vs, _, v, e, hq, n, atI_of (by rw [w.len]; exact h1) e1, k _ _ _ _ (New.of hz e2)⟩
  | tuple ds =>
    cases q <;> simp only [ixop, reduceCtorEq, Option.bind_eq_some_iff] at hd
    obtain ⟨j, h1, h2⟩ := hd
    obtain ⟨a, vs, e, n, w⟩ := hp
    obtain ⟨v, e1, e2⟩ := w.get h2
    refine ⟨_, ix_tup, a, vs, _, v, e, hq, n.sq, atI_of (by rw [w.len]; exact h1) e1, k _ _ _ _ (New.of hz e2)⟩
  | dict kvs =>
    simp only [ixop] at hd
    split at hd
    · rename_i hk
      obtain ⟨a, es, e, ⟨ks, n, q'⟩, w⟩ := hp
      subst q'
      obtain ⟨f1, f2⟩ : flatKey q = true ∧ ((kvs.map (·.1))).all flatKey = true := by simpa only [kOk, keysOf, Bool.and_eq_true] using hk
      obtain ⟨kk, e1, e2⟩ := vw_key f1 hq
      subst e2
      rcases paired_find kk (rpk_flat w f2) with ⟨h1, h2⟩ | ⟨d', v', h1, h2, h3⟩
      · rw [h1] at hd; cases hd
      · rw [h1] at hd
        obtain rfl := Option.some.inj hd
        exact ⟨_, ix_dK hu, a, ks, kk, v', e, e1, n, h2, k _ _ _ _ (New.of hz h3)⟩
    · cases hd
  | none => cases q <;> simp only [ixop, reduceCtorEq] at hd
  | bool _ => cases q <;> simp only [ixop, reduceCtorEq] at hd
  | int _ => cases q <;> simp only [ixop, reduceCtorEq] at hd
  | str _ => cases q <;> simp only [ixop, reduceCtorEq] at hd
theorem s_ix {a b : Expr} {ma mb : ME} (hu : X.A.units + 1 < cLine) (hs : PlainIx b) (ha : PE X a (tEv X.K O ma)) (hb : PE X b (tEv X.K O mb)) : PE X (.Subscript a b pos) (tEv X.K O (.ix ma mb)) := by
  refine PE.imp (pe_ix (ix_ok hu) ha hb hs) fun σ H Q ⟨env, Z, f, o', env', hE, ok, he, k⟩ => ?_
  simp only [ev, Option.bind_eq_some_iff, Option.some.injEq, Prod.mk.injEq] at he
  obtain ⟨x, hx, y, hy, p, hp, q, hq, r, hr, rfl, rfl⟩ := he
  exact two (op := fun p q => (ixop p q).map .val) hE ok hx hy hp hq (r := .val r) (by rw [hr]; rfl) k
theorem SlR.either {r : V → Option Int → Option Int → Hp → VK → Prop} (h : ∀ x l u H Q, r x l u H Q → ∃ r', SlR X r' ∧ r' x l u H Q) : SlR X r := fun pins s σ H x v vl vu lo hi sl Q I rx hs pl pu q => by
  obtain ⟨r', h1, h2⟩ := h x lo hi H Q q
  exact h1 pins s σ H x v vl vu lo hi sl Q I rx hs pl pu h2
theorem cut_lo (n : Nat) (lo : Option Int) : (match lo with | some i => cutAt n i | none => 0) = HT.sIx n 0 lo := by
  cases lo with
  | none => rfl
  | some i =>
    simp only [cutAt, HT.sIx]
    by_cases h : i < 0
    · rw [if_pos h, if_neg (by omega)]; omega
    · rw [if_neg h, if_pos (by omega)]
theorem cut_hi (n : Nat) (lo : Option Int) : (match lo with | some i => cutAt n i | none => n) = HT.sIx n n lo := by
  cases lo with
  | none => rfl
  | some i =>
    simp only [cutAt, HT.sIx]
    by_cases h : i < 0
    · rw [if_pos h, if_neg (by omega)]; omega
    · rw [if_neg h, if_pos (by omega)]
theorem cut_eq (ds : List PyData) (lo hi : Option Int) : cut ds lo hi = (ds.drop (HT.sIx ds.length 0 lo)).take (HT.sIx ds.length ds.length hi - HT.sIx ds.length 0 lo) := by
  rw [← cut_lo, ← cut_hi]; rfl
theorem cut_rps {K : PySem.W.Frag} {H : Hp} {Z : AP} {ds : List PyData} {vs : List V} (w : Rps K H Z ds vs) (lo hi : Option Int) : Rps K H Z (cut ds lo hi) (cutV vs lo hi) := by
  rw [cut_eq]
  unfold cutV
  rw [w.len]
  exact (w.drop _).take _
def rSlV (K : PySem.W.Frag) : V → Option Int → Option Int → Hp → VK → Prop := fun x lo hi H Q => ∃ Z p r, Stood H Z ∧ Vw K H Z p x ∧ slop p lo hi = some r ∧ ∀ v H' Z' g, New K H Z r v H' Z' g → Q v H'
theorem sl_ok : SlR X (rSlV X.K) := by
  refine SlR.either fun x lo hi H Q ⟨Z, p, r, hz, hp, hr, k⟩ => ?_
  cases p <;> simp only [slop, reduceCtorEq, Option.some.injEq] at hr
  case list ds =>
    subst hr
    obtain ⟨a, vs, e, n, w⟩ := hp
    exact ⟨_, sl_list, a, vs, e, n, fun l hl => k _ _ _ _ (New.lst hz hl (cut_rps w lo hi))⟩
  case tuple ds =>
    subst hr
    have hp0 : Rp X.K H Z (.tuple ds) x := hp
    obtain ⟨a, vs, e, n, w⟩ := hp
    refine ⟨_, sl_tupA, a, vs, e, n.sq, fun hw => ?_, fun _ l hl => k _ _ _ _ (New.tup hz hl (cut_rps w lo hi))⟩
    rw [w.len] at hw
    have e1 : cut ds lo hi = ds := by
      rw [cut_eq, hw.1, hw.2, List.drop_zero, Nat.sub_zero, List.take_length]
    rw [e1] at k
    rw [← e]
    exact k _ _ _ _ (New.of hz hp0)
def tO (K : PySem.W.Frag) (O : Orc) (m : Option ME) : TO := fun σ H Q => ∃ env Z f i env', RelE K H Z env σ f ∧ Ok H Z f ∧ evO O m env = some (i, env') ∧ ∀ H' Z' f', Post K σ H Z f env' H' Z' f' [] → Q i H'
theorem PO.imp {e : Option Expr} {t t' : TO} (h : PO X e t) (k : ∀ σ H Q, t' σ H Q → t σ H Q) : PO X e t' := ⟨fun pins s σ H Q I q => h.run pins s σ H Q I (k σ H Q q)⟩
theorem o_none : PO X none (tO X.K O none) := PO.imp po_none fun σ H Q ⟨env, Z, f, i, env', hE, ok, he, k⟩ => by
  simp only [evO, Option.some.injEq, Prod.mk.injEq] at he
  obtain ⟨rfl, rfl⟩ := he
  exact k H Z f (.refl hE ok)
theorem o_some {e : Expr} {m : ME} (h : PE X e (tEv X.K O m)) : PO X (some e) (tO X.K O (some m)) := PO.imp (po_some h) fun σ H Q ⟨env, Z, f, i, env', hE, ok, he, k⟩ => by
  simp only [evO, Option.bind_eq_some_iff] at he
  obtain ⟨x, hx, p, hp, he⟩ := he
  refine ⟨env, Z, f, x.1, x.2, hE, ok, hx, fun v H' Z' f' g P o => ?_⟩
  obtain ⟨Z2, f2, P2, w, _⟩ := Post.vw (h := []) (by rw [List.append_nil]; exact P) o (show view x.1 x.2 = some (p.1, p.2) from hp)
  obtain ⟨p1, p2⟩ := p
  cases p1 <;> simp only [Option.some.injEq, Prod.mk.injEq, reduceCtorEq] at he
  obtain ⟨rfl, rfl⟩ := he
  exact ⟨_, w, k _ _ _ P2⟩
theorem s_sl {a : Expr} {lo hi : Option Expr} {m : ME} {ml mh : Option ME} {p2 : Pos} (ha : PE X a (tEv X.K O m)) (hl : PO X lo (tO X.K O ml)) (hh : PO X hi (tO X.K O mh)) : PE X (.Subscript a (.Slice lo hi none p2) pos) (tEv X.K O (.sl m ml mh)) := by
  refine PE.imp (pe_slice sl_ok ha hl hh) fun σ H Q ⟨env, Z, f, o', env', hE, ok, he, k⟩ => ?_
  simp only [ev, Option.bind_eq_some_iff, Option.some.injEq, Prod.mk.injEq] at he
  obtain ⟨x, hx, y, hy, z, hzz, p, hp, r, hr, rfl, rfl⟩ := he
  refine ⟨env, Z, f, x.1, x.2, hE, ok, hx, fun v1 H1 Z1 f1 g1 P1 o1 => ⟨x.2, Z1, f1, y.1, y.2, P1.rel, P1.ok.left, hy, fun H2 Z2 f2 P2 => ⟨y.2, Z2, f2, z.1, z.2, P2.rel, P2.ok0, hzz, fun H3 Z3 f3 P3 => ?_⟩⟩⟩
  have o2 := P2.tr.ro P1.ok o1
  have PA := P1.seq P2 o1.trk
  have o3 := P3.tr.ro (by have q := PA.ok; rw [List.append_nil] at q; exact q) o2
  have PB := PA.seq P3 (by rw [List.append_nil]; exact o2.trk)
  rw [List.append_nil] at PB
  obtain ⟨Z4, f4, P4, w, _⟩ := Post.vw (h := []) PB o3 (show view x.1 z.2 = some (p.1, p.2) from hp)
  exact ⟨Z4, p.1, r, P4.ok.trk, w, hr, fun v H' Z' g N => k v H' Z' f4 g (P4.new N) N.rep⟩
end
end Ev
set_option autoImplicit false
set_option linter.all false
set_option maxRecDepth 100000
/-! Calls of the program's own defs; chains; tests. -/
namespace Ev
open PySem L2 PyProof.Rows
/-- what the callee gives back -/
def Routs (K : PySem.W.Frag) (H : Hp) (Z : AP) : List (Option R) → List V → List Addr → Prop
  | [], vs, g => g = []
  | r :: rs, vs, g => ∃ v w g1 g2, vs = v :: w ∧ (match r with | some r => Rr K H Z r v g1 | none => g1 = []) ∧ Routs K H Z rs w g2 ∧ g = g1 ++ g2
def VRs (σ : L2.St) : List Opd → List V → Prop
  | [], vs => vs = []
  | o :: os, vs => ∃ v w, vs = v :: w ∧ (match o with | .vr i => σ[i]? = some (some v) | .tm _ => True) ∧ VRs σ os w
/-- a def's promise -/
def spF (K : PySem.W.Frag) (O : Orc) (j np : Nat) : Sp := fun vs H Q _ => vs.length = np ∧ ∃ Z g rs r outs, Rrs K H Z rs vs g ∧ Ok H Z g ∧ O.call j rs = some (r, outs) ∧
  ∀ v H' Z' go gr, Tr H Z g H' Z' (go ++ gr) → Ok H' Z' (go ++ gr) → Rr K H' Z' r v gr → Routs K H' Z' outs vs go → Q v H'
section
variable {K : PySem.W.Frag} {H H' : Hp} {Z Z' : AP} {σ : L2.St}
theorem ROs.vrs : ∀ {os : List Opd} {vs : List V} {g : List Addr}, ROs K H Z σ os vs g → VRs σ os vs
  | [], _, _, ⟨e, _⟩ => e
  | .tm r :: os, _, _, ⟨v, w, g1, g2, e, h1, h2, q⟩ => ⟨v, w, e, trivial, ROs.vrs h2⟩
  | .vr i :: os, _, _, ⟨v, w, g1, g2, e, h1, h2, q⟩ => ⟨v, w, e, h1.1, ROs.vrs h2⟩
theorem back_ok : ∀ {os : List Opd} {vs : List V} {outs : List (Option R)} {env : Env} {f go h : List Addr}, RelE K H Z env σ f → VRs σ os vs → Routs K H Z outs vs go → Ok H Z (f ++ (go ++ h)) →
    ∃ f', RelE K H Z (back os outs env) σ f' ∧ Ok H Z (f' ++ h) ∧ (∀ a ∈ f', a ∈ f ∨ a ∈ go)
  | [], _, outs, env, f, go, h, hE, _, _, ok => ⟨f, by cases outs <;> exact hE, ok.subl (List.Sublist.append (List.Sublist.refl _) (List.sublist_append_right _ _)), fun a ha => .inl ha⟩
  | .tm r :: os, _, [], env, f, go, h, hE, _, _, ok => ⟨f, hE, ok.subl (List.Sublist.append (List.Sublist.refl _) (List.sublist_append_right _ _)), fun a ha => .inl ha⟩
  | .vr r :: os, _, [], env, f, go, h, hE, _, _, ok => ⟨f, hE, ok.subl (List.Sublist.append (List.Sublist.refl _) (List.sublist_append_right _ _)), fun a ha => .inl ha⟩
  | .tm r :: os, _, o :: outs, env, f, go, h, hE, ⟨v, w, e1, _, h2⟩, ⟨v', w', g1, g2, e2, r1, r2, q⟩, ok => by
    subst q
    rw [e1] at e2
    obtain ⟨rfl, rfl⟩ := List.cons.inj e2
    obtain ⟨f', k1, k2, k3⟩ := back_ok (os := os) (outs := outs) (go := g2) (h := h) hE h2 r2 (ok.subl (List.Sublist.append (List.Sublist.refl _) (List.Sublist.append (List.sublist_append_right _ _) (List.Sublist.refl _))))
    exact ⟨f', k1, k2, fun a ha => (k3 a ha).imp id (List.mem_append_right _)⟩
  | .vr i :: os, _, o :: outs, env, f, go, h, hE, ⟨v, w, e1, hi, h2⟩, ⟨v', w', g1, g2, e2, r1, r2, q⟩, ok => by
    subst q
    rw [e1] at e2
    obtain ⟨rfl, rfl⟩ := List.cons.inj e2
    have hs : Rs K H Z (match (generalizing := false) o with | some r => .sl r | none => .no) (some v) g1 := by
      cases o with
      | none => exact r1
      | some r => exact ⟨v, rfl, r1⟩
    obtain ⟨f1, k1, k2, k3⟩ := hE.put i hs
    rw [set_same hi] at k1
    have ok1 : Ok H Z (f1 ++ (g2 ++ h)) := by
      have nd := ok.nd
      have nd1 : (f ++ g1).Nodup := by
        refine nd.sublist (List.Sublist.append (List.Sublist.refl _) ?_)
        rw [List.append_assoc]; exact List.sublist_append_left _ _
      have n3 := k3 nd1
      have sp := List.nodup_append.mp nd
      have nn : (g2 ++ h).Nodup := by
        have := sp.2.1
        rw [List.append_assoc] at this
        exact (List.nodup_append.mp this).2.1
      refine Ok.mk3 ⟨n3, fun a ha z => ?_, ok.trk⟩ nn (fun a ha z => ?_) fun a ha hb => ?_
      · rcases k2 a ha with q | q
        · exact ok.sep a (List.mem_append_left _ q) z
        · exact ok.sep a (List.mem_append_right _ (List.mem_append_left _ (List.mem_append_left _ q))) z
      · refine ok.sep a (List.mem_append_right _ ?_) z
        rw [List.append_assoc]; exact List.mem_append_right _ ha
      · rcases k2 a ha with q | q
        · refine ok.apart q ?_
          rw [List.append_assoc]; exact List.mem_append_right _ hb
        · have t := ok.right
          rw [List.append_assoc] at t
          exact t.apart q hb
    obtain ⟨f', j1, j2, j3⟩ := back_ok (os := os) (outs := outs) (go := g2) (h := h) k1 h2 r2 ok1
    refine ⟨f', j1, j2, fun a ha => ?_⟩
    rcases j3 a ha with q | q
    · exact (k2 a q).imp id (List.mem_append_left _)
    · exact .inr (List.mem_append_right _ q)
/-- a call's end -/
theorem Post.call {f g1 f2 go gr : List Addr} {env2 : Env} {os : List Opd} {vs : List V} {outs : List (Option R)} {H1 H2 : Hp} {Z1 Z2 : AP} (P : Post K σ H Z f env2 H1 Z1 f2 g1) (hv : VRs σ os vs)
    (t : Tr H1 Z1 g1 H2 Z2 (go ++ gr)) (o : Ok H2 Z2 (go ++ gr)) (tg : ∀ a ∈ g1, H1 a ≠ none) (ho : Routs K H2 Z2 outs vs go) : ∃ f3, Post K σ H Z f (back os outs env2) H2 Z2 f3 gr := by
  have tf := P.rel.trk
  have E2 : RelE K H2 Z2 env2 σ f2 := RelE.mono (fun a x z e => t.frm a x e fun q => P.ok.sep a (List.mem_append_right _ q) z) t.zle _ _ _ (fun a ha x e => t.frm a x e fun q => P.ok.apart ha q) P.rel
  have ok2 : Ok H2 Z2 (f2 ++ (go ++ gr)) := by
    refine Ok.mk3 ⟨P.ok.left.nd, fun a ha z => ?_, o.trk⟩ o.nd o.sep fun a ha hb => ?_
    · rcases t.zin a z with q | q | q
      · exact P.ok.sep a (List.mem_append_left _ ha) q
      · exact P.ok.apart ha q
      · exact tf a ha q
    · rcases t.sub a hb with q | q
      · exact P.ok.apart ha q
      · exact tf a ha q
  obtain ⟨f3, k1, k2, k3⟩ := back_ok E2 hv ho ok2
  have inn : ∀ a, a ∈ f2 ∨ a ∈ go ∨ a ∈ gr → a ∈ f ∨ H a = none := fun a h => by
    rcases h with h | h
    · exact P.tr.sub a (List.mem_append_left _ h)
    · rcases t.sub a (List.mem_append.mpr h) with q | q
      · exact P.tr.sub a (List.mem_append_right _ q)
      · exact P.tr.none_of q
  refine ⟨f3, k1, k2, fun a z => t.zle a (P.tr.zle a z), fun a z => ?_, fun a x e n => t.frm a x (P.tr.frm a x e n) fun q => ?_, fun a ha => ?_⟩
  · rcases t.zin a z with q | q | q
    · exact P.tr.zin a q
    · exact .inr (P.tr.sub a (List.mem_append_right _ q))
    · exact .inr (P.tr.none_of q)
  · rcases P.tr.sub a (List.mem_append_right _ q) with z | z
    · exact n z
    · rw [e] at z; cases z
  · rcases List.mem_append.mp ha with q | q
    · exact inn a ((k3 a q).imp id .inl)
    · exact inn a (.inr (.inr q))
end
section
variable {X : Cx} {O : Orc} {pos p : Pos} {x : Str} {e : Expr} {es : List Expr} {ms : List ME}
theorem call_of {K : PySem.W.Frag} {j np : Nat} {σ : L2.St} {H : Hp} {Q : VK} {E : XK} (hn : ms.length = np) (h : tEv K O (.call j ms) σ H Q) : tCall (spF K O j np) [] E (tAs K O ms) σ H Q := by
  obtain ⟨env, Z, f, o', env', hE, ok, he, k⟩ := h
  simp only [ev, Option.bind_eq_some_iff, Option.some.injEq, Prod.mk.injEq] at he
  obtain ⟨x, hx, y, hy, z, hz, rfl, rfl⟩ := he
  refine ⟨env, Z, f, x.1, x.2, hE, ok, hx, fun vs H1 Z1 f1 g1 P1 o1 => ?_⟩
  show spF K O j np (vs ++ []) H1 Q E
  rw [List.append_nil]
  obtain ⟨f2, g2, P2, r2⟩ := Post.owns (h := []) (by rw [List.append_nil]; exact P1) o1 (show Ev.owns x.1 x.2 = some (y.1, y.2) from hy)
  rw [List.append_nil] at P2
  refine ⟨by rw [o1.len, evs_len hx, hn], Z1, g2, y.1, z.1, z.2, r2, P2.ok.right, hz, fun v H' Z' go gr t o rr ro => ?_⟩
  obtain ⟨f3, P3⟩ := P2.call o1.vrs t o (Rrs.trk _ _ _ r2) ro
  exact k v H' Z' f3 gr P3 rr
abbrev noCX : CXT := fun _ _ _ _ _ _ => False
theorem s_call {k : Nat} {f : Addr} {fd : FuncData} {ps : List Str} (j : Nat) (F : FnOk X.prog X.w X.K X.mg X.base noCX k f fd ps (spF X.K O j ps.length)) (hr : Room k X.A) (hg : Gl X x) (hm : X.mg x = some (.ref f)) (hk : PySem.W.keepIn X.K (.ref f) = true) (hb : Binds X.K fd ps [])
    (hn : (ms).length = ps.length) (hdb : (x == ("__debug__" : Str)) = false) (hs : noStar e = true) (hpl : (backTo pos (starEach es X.env)).any (·.1) = false) (ha : PA X (e :: es) (tAs X.K O ms)) :
    PE X (.Call (.Name x p) (e :: es) [] pos) (tEv X.K O (.call j ms)) :=
  PE.imp (pe_call (E := fun _ _ _ => False) F hr hg hm hk hb .nil (fun _ _ _ _ _ _ _ h => h.elim) ha hdb (star_each hs es _) hpl) fun σ H Q h => call_of hn h
theorem s_call0 {k : Nat} {f : Addr} {fd : FuncData} (j : Nat) (F : FnOk X.prog X.w X.K X.mg X.base noCX k f fd [] (spF X.K O j 0)) (hr : Room k X.A) (hg : Gl X x) (hm : X.mg x = some (.ref f)) (hk : PySem.W.keepIn X.K (.ref f) = true) (hb : Binds X.K fd [] [])
    (hdb : (x == ("__debug__" : Str)) = false) : PE X (.Call (.Name x p) [] [] pos) (tEv X.K O (.call j [])) :=
  PE.imp (pe_call0 (E := fun _ _ _ => False) F hr hg hm hk hb .nil (fun _ _ _ _ _ _ _ h => h.elim) hdb) fun σ H Q h => by
    obtain ⟨env, Z, f, o', env', hE, ok, he, k⟩ := call_of (np := 0) (E := fun _ _ _ => False) rfl h
    simp only [evs, Option.some.injEq, Prod.mk.injEq] at he
    obtain ⟨rfl, rfl⟩ := he
    exact k [] H Z f [] (.refl hE ok) ⟨rfl, rfl⟩
/-- any value in a test's place -/
theorem t_val {m : ME} (he : ∀ whole, isTrue e X.env whole = (do let v ← whole; standAt e.pos; holding [v] (truthy v))) (h : PE X e (tEv X.K O m)) : PT X e (tTs X.K O m) := by
  refine PT.imp (pt_truth h he) fun σ H Q ⟨env, Z, f, b, env', hE, ok, he, k⟩ => ?_
  obtain ⟨z, hz, hv⟩ := evB_of he
  refine ⟨env, Z, f, z.1, z.2, hE, ok, hz, fun v H' Z' f' g P o => ?_⟩
  obtain ⟨Z2, f2, P2, w, _⟩ := Post.vw (h := []) (by rw [List.append_nil]; exact P) o (show view z.1 z.2 = some (.bool b, env') from hv)
  exact ⟨b, by rw [show v = V.bl b from w]; exact rfl, k _ _ _ P2⟩
end
end Ev
set_option autoImplicit false
set_option linter.all false
set_option maxRecDepth 100000
/-! Targets, iteration. -/
namespace Ev
open PySem L2 PyProof.Rows
/-! ### targets -/
def gB (K : PySem.W.Frag) (t : MT) : TG := fun v σ H Q => ∃ env Z f d env', RelE K H Z env σ f ∧ Ok H Z f ∧ Rp K H Z d v ∧ bindT t d env = some env' ∧
  ∀ σ' f', RelE K H Z env' σ' f' → Ok H Z f' → (∀ a ∈ f', a ∈ f) → (∀ i, tgHas i t = false → σ'[i]? = σ[i]?) → Q σ' H
def gBs (K : PySem.W.Frag) (ts : List MT) : TGs := fun vs σ H Q => ∃ env Z f ds env', RelE K H Z env σ f ∧ Ok H Z f ∧ Rps K H Z ds vs ∧ bindTs ts ds env = some env' ∧
  ∀ σ' f', RelE K H Z env' σ' f' → Ok H Z f' → (∀ a ∈ f', a ∈ f) → (∀ i, tgsHas i ts = false → σ'[i]? = σ[i]?) → Q σ' H
theorem PG.imp {X : Cx} {e : Expr} {t t' : TG} (h : PG X e t) (k : ∀ v σ H Q, t' v σ H Q → t v σ H Q) : PG X e t' := ⟨fun pins s σ H v u Q I r q => h.run pins s σ H v u Q I r (k v σ H Q q)⟩
theorem PGs.imp {X : Cx} {es : List Expr} {t t' : TGs} (h : PGs X es t) (k : ∀ v σ H Q, t' v σ H Q → t v σ H Q) : PGs X es t' := ⟨fun pins s σ H v u Q I r q => h.run pins s σ H v u Q I r (k v σ H Q q)⟩
theorem RelE.put1 {K : PySem.W.Frag} {H : Hp} {Z : AP} {env : Env} {σ : L2.St} {f g : List Addr} {i : Nat} {r : R} {v : V} (hE : RelE K H Z env σ f) (ok : Ok H Z (f ++ g)) (h : Rr K H Z r v g) :
    ∃ f', RelE K H Z (st env i (.sl r)) (σ.set i (some v)) f' ∧ Ok H Z f' ∧ (∀ a ∈ f', a ∈ f ∨ a ∈ g) := by
  obtain ⟨f', h1, h2, h3⟩ := hE.put i (s' := .sl r) (x' := some v) (g' := g) ⟨v, rfl, h⟩
  exact ⟨f', h1, ⟨h3 ok.nd, fun a ha => (h2 a ha).elim (fun q => ok.sep a (List.mem_append_left _ q)) fun q => ok.sep a (List.mem_append_right _ q), ok.trk⟩, h2⟩
section
variable {X : Cx} {pos : Pos}
theorem g_nm {i : Nat} {x : Str} (hN : X.N.Nodup) (hi : X.N[i]? = some x) (hx : Loc X.env.scope x) (hf : X.fn x = true ∨ X.env.scope.names.lookup x = some .local) : PG X (.Name x pos) (gB X.K (.nm i)) := by
  refine PG.imp (pg_name hN hi hx hf) fun v σ H Q ⟨env, Z, f, d, env', hE, ok, hd, he, k⟩ => ?_
  have he' : env' = st env i (.sl (.val d)) := by
    simp only [bindT] at he
    split at he
    · cases he
    · exact (Option.some.inj he).symm
  subst he'
  obtain ⟨f', h1, h2, h3⟩ := hE.put1 (i := i) (g := []) (r := .val d) (v := v) (by rw [List.append_nil]; exact ok) ⟨rfl, hd⟩
  exact k _ f' h1 h2 (fun a ha => (h3 a ha).elim id fun q => absurd q List.not_mem_nil) fun j hj => by
    have : i ≠ j := fun e => by subst e; simp [tgHas] at hj
    exact List.getElem?_set_ne this
theorem g_nil : PGs X [] (gBs X.K []) := by
  refine PGs.imp pgs_nil fun vs σ H Q ⟨env, Z, f, ds, env', hE, ok, hd, he, k⟩ => ?_
  cases ds with
  | nil =>
    simp only [bindTs, Option.some.injEq] at he
    subst he
    exact ⟨hd, k σ f hE ok (fun _ h => h) fun _ _ => rfl⟩
  | cons d ds => simp only [bindTs, reduceCtorEq] at he
theorem g_cons {e : Expr} {es : List Expr} {t : MT} {ts : List MT} (h : PG X e (gB X.K t)) (hs : PGs X es (gBs X.K ts)) (ha : (assignEach (e :: es) X.env).map (·.2) = assign e X.env :: (assignEach es X.env).map (·.2)) : PGs X (e :: es) (gBs X.K (t :: ts)) := by
  refine PGs.imp (pgs_cons h hs ha) fun vs σ H Q ⟨env, Z, f, ds, env', hE, ok, hd, he, k⟩ => ?_
  cases ds with
  | nil => simp only [bindTs, reduceCtorEq] at he
  | cons d ds =>
    obtain ⟨v, w, rfl, h1, h2⟩ := hd
    simp only [bindTs, Option.bind_eq_some_iff] at he
    obtain ⟨e1, b1, b2⟩ := he
    refine ⟨v, w, rfl, env, Z, f, d, e1, hE, ok, h1, b1, fun σ1 f1 E1 ok1 s1 u1 => ⟨e1, Z, f1, ds, env', E1, ok1, h2, b2, fun σ2 f2 E2 ok2 s2 u2 => k σ2 f2 E2 ok2 (fun a ha => s1 a (s2 a ha)) fun i hi => ?_⟩⟩
    simp only [tgsHas, Bool.or_eq_false_iff] at hi
    rw [u2 i hi.2, u1 i hi.1]
theorem g_tup {es : List Expr} {j : Nat} {ts : List MT} (hc : X.calm = true) (h : PGs X es (gBs X.K ts)) (hn : (assignEach es X.env).length = ts.length) (hst : (assignEach es X.env).findIdx? (·.1) = none) : PG X (.Tuple es j pos) (gB X.K (.tp ts)) := by
  refine PG.imp (pg_tup hc h hn hst) fun v σ H Q ⟨env, Z, f, d, env', hE, ok, hd, he, k⟩ => ?_
  cases d <;> simp only [bindT, reduceCtorEq] at he
  rename_i ds
  obtain ⟨a, vs, e, n, w⟩ := hd
  have hl : ∀ {ts : List MT} {ds : List PyData} {env env' : Env}, bindTs ts ds env = some env' → ds.length = ts.length := by
    intro ts
    induction ts with
    | nil => intro ds env env' h; cases ds <;> simp only [bindTs, reduceCtorEq] at h; rfl
    | cons t ts ih =>
      intro ds env env' h
      cases ds with
      | nil => simp only [bindTs, reduceCtorEq] at h
      | cons d ds =>
        simp only [bindTs, Option.bind_eq_some_iff] at h
        obtain ⟨e1, _, b2⟩ := h
        exact congrArg (· + 1) (ih b2)
  refine ⟨a, vs, e, n.sq, by rw [w.len, hl he], env, Z, f, ds, env', hE, ok, w, he, fun σ' f' E' ok' s' u' => k σ' f' E' ok' s' fun i hi => u' i ?_⟩
  simpa only [tgHas] using hi
end
/-! ### iteration -/
def WalkOk (K : PySem.W.Frag) (J : It) (ds : List PyData) (H0 : Hp) (Z0 : AP) : Prop :=
  ∀ H Z, (∀ a, Z0 a → Z a) → (∀ a o, Z0 a → H0 a = some o → H a = some o) → Stood H Z →
    ∀ i, (∀ d, ds[i]? = some d → J.go i H ∧ ∀ x H', J.yld i H x H' → ∃ Z', New K H Z (.val d) x H' Z' []) ∧ (ds.length ≤ i → J.stop i H)
def tI (K : PySem.W.Frag) (O : Orc) (m : MI) : TI := fun σ H R => ∃ env Z f ds env', RelE K H Z env σ f ∧ Ok H Z f ∧ evI O m env = some (ds, none, env') ∧
  ∀ J H' Z' f', Post K σ H Z f env' H' Z' f' [] → WalkOk K J ds H' Z' → R J H'
theorem PI.imp {X : Cx} {tg e : Expr} {t t' : TI} (h : PI X tg e t) (k : ∀ σ H R, t' σ H R → t σ H R) : PI X tg e t' := ⟨fun pins s σ H R I q => h.run pins s σ H R I (k σ H R q)⟩
theorem PI.either {X : Cx} {tg e : Expr} {t : TI} (h : ∀ σ H R, t σ H R → ∃ t', PI X tg e t' ∧ t' σ H R) : PI X tg e t := ⟨fun pins s σ H R I q => by
  obtain ⟨t', h1, h2⟩ := h σ H R q
  exact h1.run pins s σ H R I h2⟩
section
variable {K : PySem.W.Frag} {H H1 H' : Hp} {Z Z1 Z' : AP} {σ : L2.St} {f f1 g : List Addr} {env env1 env' : Env}
def srcOf : Opd → Env → Option PyData
  | .tm r, _ => some (fro r)
  | .vr i, env => match gt env i with
    | .sl r => some (fro r)
    | _ => none
/-- a walk's source is told data from then on -/
theorem Post.walk {o : Opd} {v : V} {F : PyData → Option (List PyData)} {ds : List PyData} {li : Option Nat} (P : Post K σ H Z f env1 H1 Z1 f1 g) (hO : RO K H1 Z1 σ o v g) (he : walk o F env1 = some (ds, li, env')) :
    li = none ∧ ∃ p Z' f', srcOf o env1 = some p ∧ F p = some ds ∧ Post K σ H Z f env' H1 Z' f' [] ∧ Rp K H1 Z' p v := by
  cases o with
  | tm r =>
    simp only [Ev.walk, Option.map_eq_some_iff, Prod.mk.injEq] at he
    obtain ⟨d, h1, rfl, rfl, rfl⟩ := he
    exact ⟨rfl, fro r, ZU Z1 g, f1, rfl, h1, Post.freeze (h := []) (by rw [List.append_nil]; exact P) (Rr.trk r v g hO), Rr.fro (fun a h => .inl h) r v g (fun a ha => .inr ha) hO⟩
  | vr i =>
    obtain ⟨hv, rfl⟩ := hO
    simp only [Ev.walk] at he
    split at he
    · rename_i r hg
      simp only [Option.map_eq_some_iff, Prod.mk.injEq] at he
      obtain ⟨d, h1, rfl, rfl, rfl⟩ := he
      obtain ⟨x, fa, g0, fb, e1, e2, e3, e4⟩ := P.rel.focus0 (i := i) (by rw [hg]; exact fun z => by cases z)
      rw [hg] at e2
      obtain ⟨v', rfl, hr⟩ := e2
      rw [hv] at e1
      obtain rfl : v = v' := Option.some.inj (Option.some.inj e1)
      subst e3
      have zz : ∀ a, Z1 a → ZU Z1 g0 a := fun a h => .inl h
      have hp := Rr.fro zz r v g0 (fun a ha => .inr ha) hr
      have V3 := e4 _ zz (.sl (.val (fro r))) (some v) [] ⟨v, rfl, rfl, hp⟩
      rw [set_same hv] at V3
      have ok := P.ok0
      have sb : (fa ++ ([] ++ fb)).Sublist (fa ++ (g0 ++ fb)) := List.Sublist.append (List.Sublist.refl _) (List.Sublist.append (List.nil_sublist _) (List.Sublist.refl _))
      refine ⟨rfl, fro r, ZU Z1 g0, fa ++ ([] ++ fb), by simp only [srcOf, hg], h1, ⟨V3, ?_, fun a z => .inl (P.tr.zle a z), fun a z => ?_, P.tr.frm, fun a ha => ?_⟩, hp⟩
      · rw [List.append_nil]
        refine ⟨ok.nd.sublist sb, fun a ha z => ?_, fun a z => z.elim (ok.trk a) (Rr.trk r v g0 hr a)⟩
        rcases z with z | z
        · exact ok.sep a (sb.subset ha) z
        · have nd := ok.nd
          have n1 := List.nodup_append.mp nd
          have n2 := List.nodup_append.mp n1.2.1
          rcases List.mem_append.mp ha with q | q
          · exact n1.2.2 a q a (List.mem_append_left _ z) rfl
          · rw [List.nil_append] at q
            exact n2.2.2 a z a q rfl
      · rcases z with z | z
        · exact P.tr.zin a z
        · exact .inr (P.tr.sub a (by rw [List.append_nil]; exact List.mem_append_right _ (List.mem_append_left _ z)))
      · rw [List.append_nil] at ha
        exact P.tr.sub a (by rw [List.append_nil]; exact sb.subset ha)
    · cases he
theorem walk_itl {ds : List PyData} {vs : List V} {a : Addr} (n : NL K H Z a vs) (w : Rps K H Z ds vs) : WalkOk K (Itl K a) ds H Z := fun H2 Z2 zz kz st i => by
  have n2 : SqL K H2 a vs := by
    rcases n with ⟨z, n⟩ | n
    · exact .inl (Rd.same n fun o q => kz a o z q)
    · exact (show NL K H2 Z2 a vs from .inr n).sq
  have w2 := Rps.mono kz zz ds vs w
  have uq : ∀ xs : List V, SqL K H2 a xs → SqL K H2 a xs := fun _ h => h
  refine ⟨fun d hd => ?_, fun hl => ⟨vs, n2, by rw [w2.len]; exact hl⟩⟩
  obtain ⟨v, e1, e2⟩ := w2.get hd
  refine ⟨⟨vs, v, n2, e1⟩, fun x H' ⟨h1, h2⟩ => ?_⟩
  subst h1
  have := h2 vs n2
  rw [e1] at this
  obtain rfl := Option.some.inj this
  exact ⟨Z2, New.of st e2⟩
theorem walk_itt {ds : List PyData} {vs : List V} {a : Addr} (n : NT K H Z a vs) (w : Rps K H Z ds vs) : WalkOk K (Itt K a) ds H Z := fun H2 Z2 zz kz st i => by
  have n2 : SqT K H2 a vs := by
    rcases n with ⟨z, n⟩ | n
    · exact .inl (Rd.same n fun o q => kz a o z q)
    · exact (show NT K H2 Z2 a vs from .inr n).sq
  have w2 := Rps.mono kz zz ds vs w
  refine ⟨fun d hd => ?_, fun hl => ⟨vs, n2, by rw [w2.len]; exact hl⟩⟩
  obtain ⟨v, e1, e2⟩ := w2.get hd
  refine ⟨⟨vs, v, n2, e1⟩, fun x H' ⟨h1, h2⟩ => ?_⟩
  subst h1
  have := h2 vs n2
  rw [e1] at this
  obtain rfl := Option.some.inj this
  exact ⟨Z2, New.of st e2⟩
theorem walk_itr {lo hi : Int} : WalkOk K (Itr lo (hi - lo).toNat) (rngOf lo hi) H Z := fun H2 Z2 zz kz st i => by
  refine ⟨fun d hd => ?_, fun hl => ?_⟩
  · simp only [rngOf, List.getElem?_map, Option.map_eq_some_iff] at hd
    obtain ⟨j, h1, h2⟩ := hd
    obtain ⟨hj, e⟩ := List.getElem?_eq_some_iff.mp h1
    rw [List.length_range] at hj
    rw [List.getElem_range] at e
    subst e; subst h2
    refine ⟨hj, fun x H' ⟨h1, h2⟩ => ?_⟩
    subst h1; subst h2
    exact ⟨Z2, New.of st rfl⟩
  · simp only [rngOf, List.length_map, List.length_range] at hl
    exact hl
end
section
variable {X : Cx} {O : Orc} {tg : Expr} {p pos : Pos}
theorem near_of {i : Int} (h : near i = true) : -(2 ^ 62) ≤ i ∧ i < 2 ^ 62 := by
  simp only [near, decide_eq_true_eq] at h
  omega
theorem i_rng {a : Expr} {m : ME} (hg : Gl X "range") (hm : X.mg "range" = none) (hs : noStar a = true) (ha : PA X [a] (tAs X.K O [m])) : PI X tg (.Call (.Name "range" p) [a] [] pos) (tI X.K O (.rng m)) := by
  refine PI.imp (pi_range1 hg hm ha (by rw [star_each hs]; rfl)) fun σ H R ⟨env, Z, f, ds, env', hE, ok, he, k⟩ => ?_
  simp only [evI, Option.bind_eq_some_iff] at he
  obtain ⟨x, hx, q, hq, he⟩ := he
  obtain ⟨q1, q2⟩ := q
  cases q1 <;> simp only [reduceCtorEq] at he
  split at he
  · rename_i i hn
    simp only [Option.some.injEq, Prod.mk.injEq, true_and] at he
    obtain ⟨rfl, rfl⟩ := he
    refine ⟨env, Z, f, [x.1], x.2, hE, ok, by simp only [evs, hx, Option.bind_some], fun vs H1 Z1 f1 g1 P1 o1 => ?_⟩
    obtain ⟨Z2, f2, P2, w, _⟩ := Post.vws (h := []) (by rw [List.append_nil]; exact P1) o1 (show views [x.1] x.2 = some ([.int i], q2) by simp only [views, hq, Option.bind_some])
    obtain ⟨v, rfl, hv⟩ := w.one
    refine ⟨i, by rw [show v = V.int i from hv], (near_of hn).1, (near_of hn).2, ?_⟩
    have W := walk_itr (K := X.K) (H := H1) (Z := Z2) (lo := 0) (hi := i)
    rw [show (i - 0).toNat = i.toNat by rw [Int.sub_zero]] at W
    exact k _ H1 Z2 f2 P2 W
  · cases he
theorem i_rng2 {a b : Expr} {m n : ME} (hg : Gl X "range") (hm : X.mg "range" = none) (hs : noStar a = true) (hs2 : noStar b = true) (ha : PA X [a, b] (tAs X.K O [m, n])) : PI X tg (.Call (.Name "range" p) [a, b] [] pos) (tI X.K O (.rng2 m n)) := by
  refine PI.imp (pi_range2 hg hm ha (by rw [star_each hs, star_each hs2]; rfl) (by rw [star_each hs2]; rfl)) fun σ H R ⟨env, Z, f, ds, env', hE, ok, he, k⟩ => ?_
  simp only [evI, Option.bind_eq_some_iff] at he
  obtain ⟨x, hx, y, hy, q, hq, r, hr, he⟩ := he
  obtain ⟨q1, q2⟩ := q
  obtain ⟨r1, r2⟩ := r
  cases q1 <;> cases r1 <;> simp only [reduceCtorEq] at he
  split at he
  · rename_i i j hn
    rw [Bool.and_eq_true] at hn
    simp only [Option.some.injEq, Prod.mk.injEq, true_and] at he
    obtain ⟨rfl, rfl⟩ := he
    refine ⟨env, Z, f, [x.1, y.1], y.2, hE, ok, by simp only [evs, hx, hy, Option.bind_some], fun vs H1 Z1 f1 g1 P1 o1 => ?_⟩
    obtain ⟨Z2, f2, P2, w, _⟩ := Post.vws (h := []) (by rw [List.append_nil]; exact P1) o1 (show views [x.1, y.1] y.2 = some ([.int i, .int j], r2) by
      have hq' : view x.1 y.2 = some (.int i, q2) := hq
      have hr' : view y.1 q2 = some (.int j, r2) := hr
      simp only [views, hq', hr', Option.bind_some])
    obtain ⟨v, u, rfl, hv, hu⟩ := w.two
    exact ⟨i, j, by rw [show v = V.int i from hv, show u = V.int j from hu], ⟨(near_of hn.1).1, (near_of hn.1).2, (near_of hn.2).1, (near_of hn.2).2⟩, k _ H1 Z2 f2 P2 walk_itr⟩
  · cases he
theorem i_seq {a : Expr} {m : ME} (h : PE X a (tEv X.K O m)) : PI X tg a (tI X.K O (.seq m)) := by
  refine PI.either fun σ H R ⟨env, Z, f, ds, env', hE, ok, he, k⟩ => ?_
  simp only [evI, Option.bind_eq_some_iff] at he
  obtain ⟨x, hx, he⟩ := he
  have sp : ∃ p, srcOf x.1 x.2 = some p ∧ rowOf p = some ds := by
    obtain ⟨x1, x2⟩ := x
    cases x1 with
    | tm r =>
      simp only [Ev.walk, Option.map_eq_some_iff, Prod.mk.injEq] at he
      obtain ⟨d, h1, rfl, _⟩ := he
      exact ⟨_, rfl, h1⟩
    | vr i =>
      simp only [Ev.walk] at he
      split at he
      · rename_i r hg
        simp only [Option.map_eq_some_iff, Prod.mk.injEq] at he
        obtain ⟨d, h1, rfl, _⟩ := he
        exact ⟨fro r, by simp only [srcOf, hg], h1⟩
      · cases he
  obtain ⟨p, s1, s2⟩ := sp
  cases p <;> simp only [rowOf, reduceCtorEq, Option.some.injEq] at s2
  case list es =>
    subst s2
    refine ⟨_, pi_list h, env, Z, f, x.1, x.2, hE, ok, hx, fun v H' Z' f' g P o => ?_⟩
    obtain ⟨_, p, Z2, f2, e1, e2, P2, r⟩ := Post.walk P o he
    rw [s1] at e1
    obtain rfl := Option.some.inj e1
    obtain ⟨a, vs, e, n, w⟩ := r
    exact ⟨a, e, ⟨vs, n.sq⟩, k _ _ _ _ P2 (walk_itl n w)⟩
  case tuple es =>
    subst s2
    refine ⟨_, pi_tup h, env, Z, f, x.1, x.2, hE, ok, hx, fun v H' Z' f' g P o => ?_⟩
    obtain ⟨_, p, Z2, f2, e1, e2, P2, r⟩ := Post.walk P o he
    rw [s1] at e1
    obtain rfl := Option.some.inj e1
    obtain ⟨a, vs, e, n, w⟩ := r
    exact ⟨a, e, ⟨vs, n.sq⟩, k _ _ _ _ P2 (walk_itt n w)⟩
end
end Ev
set_option autoImplicit false
set_option linter.all false
set_option maxRecDepth 100000
/-! enumerate of a tuple (and of a list). -/
namespace PySem
open Sem (wp)
set_option maxHeartbeats 1000000 in
theorem ev_meets_en {v : Value} {ob : Obj} {Hd : Heap → Prop} (B : Begins v ob Hd) :
    Meets (Builtin.«enumerate.__new__» ⟨[.type "enumerate", v], []⟩) (fun _ R s => Hd s.heap ∧ R (.ok (.ret (.ref (s.heap.push ob).objs.size))) { s with heap := (s.heap.push ob).push { cls := .type "enumerate", data := .fields #[.none, .bool false, .ref s.heap.objs.size, rawInt 0, .none, .none] } }) :=
  .of_wp fun prog w A R s h => by
    obtain ⟨hp, g, d, tk, os⟩ := s
    obtain ⟨h1, h⟩ := h
    have hsub := sub_enumerate
    have begins : ∀ {A' : Around} {E : Value → Shared → Prop} {Q : Value → Shared → Prop}, Q (.ref hp.objs.size) ⟨hp.push ob, g, d, tk, os⟩ → wpAny (model prog w) A' (pyIter v) Q E ⟨hp, g, d, tk, os⟩ := fun q => B.iter prog w _ _ ⟨hp, g, d, tk, os⟩ _ h1 q
    wp_walk using begins
    refine wpAny_stack_any fun stk => wpAny_pure ?_
    split
    · rename_i c _ _ _ _ _
      cases (c == Value.type "enumerate")
      · wp_walk using begins
        exact ⟨_, rfl, h⟩
      · wp_walk using begins
        exact ⟨_, rfl, h⟩
    · wp_walk using begins
      exact ⟨_, rfl, h⟩
theorem ev_call_en {prog : Program} {w : World} {A : Around} {E : Value → Shared → Prop} {s : Shared} {v : Value} {ob : Obj} {Hd : Heap → Prop} {Q : Value → Shared → Prop} (B : Begins v ob Hd) (h1 : Hd s.heap)
    (h : ∀ h', IsEnum h' (s.heap.objs.size + 1) s.heap.objs.size 0 .none → h'.get? s.heap.objs.size = some ob → (∀ b o, s.heap.get? b = some o → h'.get? b = some o) → Q (.ref (s.heap.objs.size + 1)) { s with heap := h' }) :
    wpAny (model prog w) A (call (.type "enumerate") [v]) Q E s := by
  refine callType_new F.called_enumerate (by decide) (F.typeCall_enumerate_1 _) (F.newCall_enumerate_1 _) (fun o2 => F.args_object_init_2 o2 _) F.entry_enumerate_new (ev_meets_en B) ⟨h1, ?_⟩
  have sz : (s.heap.push ob).objs.size = s.heap.objs.size + 1 := Heap.size_push ..
  show _ ∧ _
  rw [sz]
  have en : IsEnum ((s.heap.push ob).push { cls := .type "enumerate", data := .fields #[.none, .bool false, .ref s.heap.objs.size, rawInt 0, .none, .none] }) (s.heap.objs.size + 1) s.heap.objs.size 0 .none := by
    have q := Heap.get?_push_size (s.heap.push ob) (o := { cls := .type "enumerate", data := .fields #[.none, .bool false, .ref s.heap.objs.size, rawInt 0, .none, .none] }) rfl
    rw [sz] at q; exact q
  exact ⟨⟨_, en, rfl⟩, h _ en (Heap.get?_push_of_some _ (Heap.get?_push_size _ B.free)) fun b o x => Heap.get?_push_of_some _ (Heap.get?_push_of_some _ x)⟩
end PySem
namespace Ev
open PySem L2 PyProof.Rows
/-- the tuple at a, each item in a new pair -/
def IteT (K : PySem.W.Frag) (a : Addr) : It :=
  ⟨fun i H => ∃ (xs : List V) (x : V), SqT K H a xs ∧ xs[i]? = some x, fun i H v H' => ∃ T x, v = .ref T ∧ H T = none ∧ H' = upd H T (.tup [.int (i : Nat), x]) ∧ ∀ xs, SqT K H a xs → xs[i]? = some x, fun i H => ∃ xs : List V, SqT K H a xs ∧ xs.length ≤ i⟩
theorem turn_enT {P : Program} {w : World} {K : PySem.W.Frag} {elts : List Expr} {kk : Nat} {tpos : Pos} (a e it : Addr) :
    Turn P w K (.Tuple elts kk tpos) (IteT K a) [e, it] e (fun i h => (∃ old, IsEnum h e it ((i : Nat) : Int) old) ∧ h.IsTupleIter it a i ∧ e ≠ it) where
  mem := by simp
  obj := fun i h st b hb => by
    obtain ⟨⟨old, he⟩, ⟨o, ho, hc, hd⟩, _⟩ := st
    rcases (show b = e ∨ b = it by simpa using hb) with z | z
    · subst z; exact ⟨_, he, fun v q => nomatch q⟩
    · subst z; exact ⟨o, ho, fun v q => by rw [hd] at q; cases q⟩
  keep := fun i h h' st k => let ⟨⟨old, he⟩, hi, hne⟩ := st; ⟨⟨old, k e (by simp) _ he⟩, hi.at fun o q => k it (by simp) o q, hne⟩
  item := by
    intro X hP hw hK hc i pins s σ H E I hf st hg
    subst hP hw hK
    obtain ⟨⟨old, he⟩, hit, hne⟩ := st
    obtain ⟨xs, x, hq, hx⟩ := hg
    obtain ⟨its, rv, p, hz⟩ := I.tuple hq
    obtain ⟨u, hu, ru⟩ := rv.get hx
    have pT : s.heap.IsTuple a its.toArray := p
    have hel : e < s.heap.objs.size := Heap.lt_size he
    have hil : it < s.heap.objs.size := by obtain ⟨_, q, _⟩ := hit; exact Heap.lt_size q
    have ai : a ≠ it := fun z => by
      subst z
      obtain ⟨o1, g1, c1, _⟩ := hit
      obtain ⟨o2, g2, c2, _⟩ := pT
      rw [g1] at g2
      obtain rfl := Option.some.inj g2
      rw [c1] at c2
      exact absurd (Value.type.inj c2) (by decide)
    have ea : e ≠ a := fun z => by
      subst z
      obtain ⟨o2, g2, c2, _⟩ := pT
      rw [show s.heap.get? e = _ from he] at g2
      obtain rfl := Option.some.inj g2
      exact absurd (Value.type.inj c2) (by decide)
    have hi2 : i < its.toArray.size := by
      have q1 : its[i]? = some u := hu
      rw [List.size_toArray]
      exact (List.getElem?_eq_some_iff.mp q1).1
    refine wpAny_pyNext_enum_itemD (Draws.tuple (A := X.A.in1) (I.ok.hd hc) it a ai its.toArray) he ⟨hit, pT⟩ hi2 hne (by simp [hne, ea]) fun y h' tk hy ho hit' hT hsz hk => ?_
    have hyu : y = u := by
      have q1 : its[i]? = some y := by simpa using hy
      rw [show its[i]? = some u from hu] at q1
      exact (Option.some.inj q1).symm
    subst hyu
    refine ⟨_, rfl, wpAny_letOwnedTupleGo_enum (s := { s with heap := h', toks := tk + 1 }) ho fun h'' he' sb => ?_⟩
    have T2 : h''.get? s.heap.objs.size = some { cls := .type "tuple", data := .seq #[.int i tk, y] } := (sb.2 _ (Nat.ne_of_gt hel)).trans hT
    have new : ObjOk X.prog X.w (upd H s.heap.objs.size (.tup [.int (i : Nat), x])) h'' s.heap.objs.size (.tup [.int (i : Nat), x]) :=
      ⟨by show 2 ≤ sizeLine; rw [sizeLine_eq]; omega, [.int i tk, y], .cons ⟨_, rfl⟩ (.cons ru .nil), ⟨_, T2, rfl, _, rfl⟩⟩
    have I1 : Inv X pins σ (upd H s.heap.objs.size (.tup [.int (i : Nat), x])) { s with heap := h'', toks := tk + 1 } :=
      I.turnedNew (ch := [e, it]) (fun b ob hb q => (sb.2 b (fun z => hb (by simp [z]))).trans (hk b ob (fun z => hb (by simp [z])) (fun z => hb (by simp [z])) q)) hf (Nat.le_refl _) new
    refine ⟨.ref s.heap.objs.size, _, I1, rfl, ⟨_, x, rfl, I.hok.fresh (Nat.le_refl _), rfl, fun ys hy => by rw [I.tuple_inj hy hq]; exact hx⟩, ⟨⟨y, ?_⟩, hit'.1.at fun o q => (sb.2 it (Ne.symm hne)).trans q, hne⟩, fun b hb => ?_⟩
    · rw [show ((i + 1 : Nat) : Int) = (i : Int) + 1 by omega]; exact he'
    · have hb' : b < s.heap.objs.size := by
        rcases (show b = e ∨ b = it by simpa using hb) with z | z
        · subst z; exact hel
        · subst z; exact hil
      rw [upd_ne (Nat.ne_of_lt hb')]
      exact (hf b hb).1
  done := by
    intro X hP hw hK hc i pins s σ H E I hf st hg
    subst hP hw hK
    obtain ⟨⟨old, he⟩, hit, hne⟩ := st
    obtain ⟨xs, hq, hx⟩ := hg
    obtain ⟨its, rv, p, hz⟩ := I.tuple hq
    have pT : s.heap.IsTuple a its.toArray := p
    obtain ⟨f0, f1, f2, f3, f4, f5⟩ := hf it (by simp)
    have hl := rv.length
    have hT : s.TypeIs (.ref e) "enumerate" := ⟨_, he, rfl⟩
    unfold pyNext
    refine wpAny_bind (wpAny_attempt (wpAny_callSpecial?_slot (name := Str.ofString "__next__") hT F.slot_enumerate_next (wpAny_call_entry F.slot_enumerate_next hT F.entry_enumerate_next ?_ (F.args_enumerate_next_1 _))))
    show wpAny _ _ (field (.ref e) 2 >>= _) _ _ _
    refine wpAny_bind (wpAny_field he rfl (x := .ref it) rfl ?_)
    refine wpAny_bind (wpAny_nextOf_tuple_end (I.ok.hd hc) hit pT (by simp; omega) fun h' ex eb ⟨o, ho, hcl⟩ => ?_)
    refine wpAny_bind (wpAny_isInstance (T := "StopIteration") (b := true) ⟨o, ho, hcl⟩ isSubtype_stop ?_)
    exact wpAny_pure ⟨rfl, I.turned (t' := s.toks) (fun b o hb q => eb b o hb q) f0 f1 f3 f4 f5⟩
  self := fun A i s Q E st h => let ⟨⟨_, he⟩, _⟩ := st; wpAny_pyIter_enum he h
def iEnT (K : PySem.W.Frag) (ta : TA) : TI := fun σ H R => ta σ H fun vs H1 => ∃ a xs, vs = [.ref a] ∧ SqT K H1 a xs ∧ R (IteT K a) H1
theorem pi_enT {X : Cx} {e : Expr} {ta : TA} {p pos tpos : Pos} {elts : List Expr} {kk : Nat} (hg : Gl X "enumerate") (hm : X.mg "enumerate" = none) (ha : PA X [e] ta) (hs : starEach [e] X.env = [(false, eval e X.env)]) :
    PI X (.Tuple elts kk tpos) (.Call (.Name "enumerate" p) [e] [] pos) (iEnT X.K ta) := by
  refine ⟨fun pins s σ H R I h => ?_⟩
  refine Call_ (ld_blt I hg hm PyProof.Rows.boot_enumerate (PyProof.Rows.callWith_type1 (thn (ha.run pos pins s σ H _ I h) fun us s1 ⟨vs, H1, I1, r1, q1⟩ => ?_) hs rfl))
  obtain ⟨a, xs, ex, hq, q⟩ := q1
  subst ex
  obtain ⟨u, rfl, ru⟩ := vals1 r1
  cases ru
  obtain ⟨its, rv, p', hz⟩ := I1.tuple hq
  refine ev_call_en (begins_tuple a its.toArray) p' fun h' he hit hk => wpAny_pyIter_enum he ?_
  have I2 : Inv X pins σ H1 { s1 with heap := h' } := I1.kept (t' := s1.toks) hk
  refine ⟨s1.heap.objs.size + 1, [s1.heap.objs.size + 1, s1.heap.objs.size], _, _, H1, rfl, I2, turn_enT a (s1.heap.objs.size + 1) s1.heap.objs.size, ⟨⟨.none, he⟩, ⟨_, hit, rfl, rfl⟩, Nat.succ_ne_self _⟩, fun b hb => ?_, q⟩
  have hle : s1.heap.objs.size ≤ b := by
    rcases (show b = s1.heap.objs.size + 1 ∨ b = s1.heap.objs.size by simpa using hb) with z | z
    · rw [z]; exact Nat.le_add_right _ _
    · rw [z]; exact Nat.le_refl _
  exact I1.fpOk hle (I1.hok.fresh hle)
section
variable {K : PySem.W.Frag} {H : Hp} {Z : AP}
theorem enum_get : ∀ {ds : List PyData} {n i : Nat} {d : PyData}, (enumOf n ds)[i]? = some d → ∃ x, ds[i]? = some x ∧ d = .tuple [.int ((n + i : Nat) : Int), x]
  | [], n, i, d, h => by simp [enumOf] at h
  | x :: ds, n, 0, d, h => by simp [enumOf] at h; exact ⟨x, rfl, by simp [← h]⟩
  | x :: ds, n, i + 1, d, h => by
    obtain ⟨y, h1, h2⟩ := enum_get (ds := ds) (n := n + 1) (i := i) (by simpa [enumOf] using h)
    exact ⟨y, by simpa using h1, by rw [h2]; congr 3; omega⟩
theorem enum_len : ∀ (ds : List PyData) (n : Nat), (enumOf n ds).length = ds.length
  | [], _ => rfl
  | x :: ds, n => congrArg (· + 1) (enum_len ds (n + 1))
theorem New.pair {v : V} {d : PyData} {i : Nat} {T : Addr} (hz : Stood H Z) (hT : H T = none) (h : Rp K H Z d v) : ∃ Z', New K H Z (.val (.tuple [.int (i : Nat), d])) (.ref T) (upd H T (.tup [.int (i : Nat), v])) Z' [] :=
  ⟨_, New.tup hz hT ⟨_, _, rfl, rfl, _, _, rfl, h, rfl⟩⟩
theorem walk_enT {ds : List PyData} {vs : List V} {a : Addr} (n : NT K H Z a vs) (w : Rps K H Z ds vs) : WalkOk K (IteT K a) (enumOf 0 ds) H Z := fun H2 Z2 zz kz st i => by
  have n2 : SqT K H2 a vs := by
    rcases n with ⟨z, n⟩ | n
    · exact .inl (Rd.same n fun o q => kz a o z q)
    · exact (show NT K H2 Z2 a vs from .inr n).sq
  have w2 := Rps.mono kz zz ds vs w
  refine ⟨fun d hd => ?_, fun hl => ⟨vs, n2, by rw [w2.len]; rw [enum_len] at hl; exact hl⟩⟩
  obtain ⟨x, hx, rfl⟩ := enum_get hd
  obtain ⟨v, e1, e2⟩ := w2.get hx
  refine ⟨⟨vs, v, n2, e1⟩, fun y H' ⟨T, x', h1, h2, h3, h4⟩ => ?_⟩
  have := h4 vs n2
  rw [e1] at this
  obtain rfl := Option.some.inj this
  subst h1; subst h3
  rw [Nat.zero_add]
  exact New.pair st h2 e2
theorem walk_enL {ds : List PyData} {vs : List V} {a : Addr} (n : NL K H Z a vs) (w : Rps K H Z ds vs) : WalkOk K (Ite K a) (enumOf 0 ds) H Z := fun H2 Z2 zz kz st i => by
  have n2 : SqL K H2 a vs := by
    rcases n with ⟨z, n⟩ | n
    · exact .inl (Rd.same n fun o q => kz a o z q)
    · exact (show NL K H2 Z2 a vs from .inr n).sq
  have w2 := Rps.mono kz zz ds vs w
  refine ⟨fun d hd => ?_, fun hl => ⟨vs, n2, by rw [w2.len]; rw [enum_len] at hl; exact hl⟩⟩
  obtain ⟨x, hx, rfl⟩ := enum_get hd
  obtain ⟨v, e1, e2⟩ := w2.get hx
  refine ⟨⟨vs, v, n2, e1⟩, fun y H' ⟨T, x', h1, h2, h3, h4⟩ => ?_⟩
  have := h4 vs n2
  rw [e1] at this
  obtain rfl := Option.some.inj this
  subst h1; subst h3
  rw [Nat.zero_add]
  exact New.pair st h2 e2
end
theorem walk_src {o : Opd} {F : PyData → Option (List PyData)} {ds : List PyData} {li : Option Nat} {env env' : Env} (he : walk o F env = some (ds, li, env')) : ∃ p, srcOf o env = some p ∧ F p = some ds := by
  cases o with
  | tm r =>
    simp only [Ev.walk, Option.map_eq_some_iff, Prod.mk.injEq] at he
    obtain ⟨d, h1, rfl, _⟩ := he
    exact ⟨_, rfl, h1⟩
  | vr i =>
    simp only [Ev.walk] at he
    split at he
    · rename_i r hg
      simp only [Option.map_eq_some_iff, Prod.mk.injEq] at he
      obtain ⟨d, h1, rfl, _⟩ := he
      exact ⟨fro r, by simp only [srcOf, hg], h1⟩
    · cases he
section
variable {X : Cx} {O : Orc} {p pos tpos : Pos}
theorem i_enum {a : Expr} {m : ME} {elts : List Expr} {kk : Nat} (hg : Gl X "enumerate") (hm : X.mg "enumerate" = none) (hs : noStar a = true) (h : PE X a (tEv X.K O m)) : PI X (.Tuple elts kk tpos) (.Call (.Name "enumerate" p) [a] [] pos) (tI X.K O (.enum m)) := by
  refine PI.either fun σ H R ⟨env, Z, f, ds, env', hE, ok, he, k⟩ => ?_
  simp only [evI, Option.bind_eq_some_iff] at he
  obtain ⟨x, hx, he⟩ := he
  obtain ⟨p, s1, s2⟩ := walk_src he
  have ha := pa_cons h pa_nil (star_each hs [] _)
  cases p <;> simp only [rowOf, reduceCtorEq, Option.map_none, Option.map_some, Option.some.injEq] at s2
  case list es =>
    subst s2
    refine ⟨_, pi_enum hg hm ha (star_each hs [] _), env, Z, f, x.1, x.2, hE, ok, hx, fun v H' Z' f' g P o => ?_⟩
    obtain ⟨_, p, Z2, f2, e1, e2, P2, r⟩ := Post.walk P o he
    rw [s1] at e1
    obtain rfl := Option.some.inj e1
    obtain ⟨a, vs, e, n, w⟩ := r
    exact ⟨a, vs, by rw [e], n.sq, k _ _ _ _ P2 (walk_enL n w)⟩
  case tuple es =>
    subst s2
    refine ⟨_, pi_enT hg hm ha (star_each hs [] _), env, Z, f, x.1, x.2, hE, ok, hx, fun v H' Z' f' g P o => ?_⟩
    obtain ⟨_, p, Z2, f2, e1, e2, P2, r⟩ := Post.walk P o he
    rw [s1] at e1
    obtain rfl := Option.some.inj e1
    obtain ⟨a, vs, e, n, w⟩ := r
    exact ⟨a, vs, by rw [e], n.sq, k _ _ _ _ P2 (walk_enT n w)⟩
end
end Ev
set_option autoImplicit false
set_option linter.all false
set_option maxRecDepth 100000
/-! A slot's own value is changed. -/
namespace Ev
open PySem L2 PyProof.Rows
section
variable {K : PySem.W.Frag} {H H1 H2 H' : Hp} {Z Z1 Z' : AP} {σ : L2.St} {f f1 g h : List Addr} {env env1 env' : Env}
theorem Post.chg {i : Nat} {r : R} (P : Post K σ H Z f env1 H1 Z1 f1 g) (hg : gt env1 i = .sl r) : ∃ v g0, σ[i]? = some (some v) ∧ Rr K H1 Z1 r v g0 ∧ (g0 ++ g).Nodup ∧ (∀ b ∈ g0, ¬ Z1 b) ∧
    ∀ a o u' g2, a ∈ g0 → Rr K (upd H1 a o) Z1 u' v g2 → (∀ b ∈ g2, b ∈ g0 ∨ b ∈ g) → g2.Nodup → ∃ f2, Post K σ H Z f (st env1 i (.sl u')) (upd H1 a o) Z1 f2 [] := by
  obtain ⟨x, fa, g0, fb, e1, e2, e3, e4⟩ := P.rel.focus (i := i) (by rw [hg]; exact fun z => by cases z)
  rw [hg] at e2
  obtain ⟨v, rfl, hr⟩ := e2
  subst e3
  have nd := P.ok.nd
  have n1 := List.nodup_append.mp nd
  have n2 := List.nodup_append.mp n1.1
  have n3 := List.nodup_append.mp n2.2.1
  have ing : ∀ b ∈ g0, b ∈ fa ++ (g0 ++ fb) := fun b hb => List.mem_append_right _ (List.mem_append_left _ hb)
  refine ⟨v, g0, e1, hr, List.nodup_append.mpr ⟨n3.1, n1.2.1, fun a ha b hb => n1.2.2 a (ing a ha) b hb⟩, fun b hb => P.ok.sep b (List.mem_append_left _ (ing b hb)), fun a o u' g2 ha h2 sb nd2 => ?_⟩
  have az : ¬ Z1 a := P.ok.sep a (List.mem_append_left _ (ing a ha))
  have keep : ∀ b x, b ≠ a → H1 b = some x → upd H1 a o b = some x := fun b x hb e => by rw [upd_ne hb]; exact e
  have V := e4 (upd H1 a o) Z1 (fun b x z e => keep b x (fun q => az (q ▸ z)) e) (fun _ z => z) (fun b hb x e => keep b x (fun q => by
    subst q
    rcases hb with hb | hb
    · exact n2.2.2 b hb b (List.mem_append_left _ ha) rfl
    · exact n3.2.2 b ha b hb rfl) e) (.sl u') (some v) g2 ⟨v, rfl, h2⟩
  rw [set_same e1] at V
  refine ⟨fa ++ (g2 ++ fb), V, ?_, P.tr.zle, P.tr.zin, fun b x e n => keep b x (fun q => ?_) (P.tr.frm b x e n), fun b hb => ?_⟩
  · rw [List.append_nil]
    refine ⟨?_, fun b hb => ?_, fun b z => ?_⟩
    · refine List.nodup_append.mpr ⟨n2.1, List.nodup_append.mpr ⟨nd2, n3.2.1, fun b hb c hc q => ?_⟩, fun b hb c hc q => ?_⟩
      · subst q
        rcases sb b hb with z | z
        · exact n3.2.2 b z b hc rfl
        · exact n1.2.2 b (List.mem_append_right _ (List.mem_append_right _ hc)) b z rfl
      · subst q
        rcases List.mem_append.mp hc with hc | hc
        · rcases sb b hc with z | z
          · exact n2.2.2 b hb b (List.mem_append_left _ z) rfl
          · exact n1.2.2 b (List.mem_append_left _ hb) b z rfl
        · exact n2.2.2 b hb b (List.mem_append_right _ hc) rfl
    · rcases List.mem_append.mp hb with hb | hb
      · exact P.ok.sep b (List.mem_append_left _ (List.mem_append_left _ hb))
      · rcases List.mem_append.mp hb with hb | hb
        · rcases sb b hb with z | z
          · exact P.ok.sep b (List.mem_append_left _ (ing b z))
          · exact P.ok.sep b (List.mem_append_right _ z)
        · exact P.ok.sep b (List.mem_append_left _ (List.mem_append_right _ (List.mem_append_right _ hb)))
    · by_cases q : b = a
      · subst q; exact absurd z az
      · rw [upd_ne q]; exact P.ok.trk b z
  · subst q
    rcases P.tr.sub b (List.mem_append_left _ (ing b ha)) with z | z
    · exact n z
    · rw [e] at z; cases z
  · rw [List.append_nil] at hb
    rcases List.mem_append.mp hb with hb | hb
    · exact P.tr.sub b (List.mem_append_left _ (List.mem_append_left _ hb))
    · rcases List.mem_append.mp hb with hb | hb
      · rcases sb b hb with z | z
        · exact P.tr.sub b (List.mem_append_left _ (ing b z))
        · exact P.tr.sub b (List.mem_append_right _ z)
      · exact P.tr.sub b (List.mem_append_left _ (List.mem_append_right _ (List.mem_append_right _ hb)))
theorem Rrs.snoc {r : R} {y : V} : ∀ {rs : List R} {vs : List V} {g : List Addr}, Rrs K H Z rs vs g → Rr K H Z r y h → Rrs K H Z (rs ++ [r]) (vs ++ [y]) (g ++ h)
  | [], _, _, ⟨e, q⟩, hr => by subst e; subst q; exact ⟨y, [], h, [], rfl, hr, ⟨rfl, rfl⟩, by simp⟩
  | x :: rs, _, _, ⟨v, w, g1, g2, e, h1, h2, q⟩, hr => by
    subst e; subst q
    exact ⟨v, w ++ [y], g1, g2 ++ h, rfl, h1, Rrs.snoc h2 hr, by simp⟩
/-- an item of a list that is held: it, and what may stand in its place -/
theorem Rrs.at : ∀ {rs : List R} {vs : List V} {g : List Addr} {j : Nat} {r : R}, Rrs K H Z rs vs g → rs[j]? = some r → ∃ v ga g0 gb, vs[j]? = some v ∧ Rr K H Z r v g0 ∧ g = ga ++ (g0 ++ gb) ∧
    ∀ (H' : Hp), (∀ a o, Z a → H a = some o → H' a = some o) → (∀ a, a ∈ ga ∨ a ∈ gb → ∀ o, H a = some o → H' a = some o) → ∀ r' v' g', Rr K H' Z r' v' g' → Rrs K H' Z (rs.set j r') (vs.set j v') (ga ++ (g' ++ gb))
  | [], _, _, _, _, _, h => by simp at h
  | x :: rs, _, _, 0, r, ⟨v, w, g1, g2, e, h1, h2, q⟩, hj => by
    subst e; subst q
    simp at hj
    subst hj
    exact ⟨v, [], g1, g2, rfl, h1, rfl, fun H' kz kf r' v' g' hr => ⟨v', w, g', g2, rfl, hr, Rrs.mono kz (fun _ z => z) rs w g2 (fun a ha => kf a (.inr ha)) h2, rfl⟩⟩
  | x :: rs, _, _, j + 1, r, ⟨v, w, g1, g2, e, h1, h2, q⟩, hj => by
    subst e; subst q
    obtain ⟨v0, ga, g0, gb, e1, e2, e3, e4⟩ := Rrs.at (j := j) h2 (by simpa using hj)
    subst e3
    refine ⟨v0, g1 ++ ga, g0, gb, by simpa using e1, e2, by simp, fun H' kz kf r' v' g' hr => ⟨v, w.set j v', g1, ga ++ (g' ++ gb), rfl, Rr.mono kz (fun _ z => z) x v g1 (fun a ha => kf a (.inl (List.mem_append_left _ ha))) h1, ?_, by simp⟩⟩
    exact e4 H' kz (fun a ha => kf a (ha.imp (List.mem_append_right _) id)) r' v' g' hr
theorem nd_mid {ga g0 gb g g2 : List Addr} (n : (ga ++ (g0 ++ gb) ++ g).Nodup) (s : ∀ a ∈ g2, a ∈ g0 ∨ a ∈ g) (n2 : g2.Nodup) : (ga ++ (g2 ++ gb)).Nodup := by
  have n1 := List.nodup_append.mp n
  have m2 := List.nodup_append.mp n1.1
  have m3 := List.nodup_append.mp m2.2.1
  refine List.nodup_append.mpr ⟨m2.1, List.nodup_append.mpr ⟨n2, m3.2.1, fun b hb c hc q => ?_⟩, fun b hb c hc q => ?_⟩
  · subst q
    rcases s b hb with z | z
    · exact m3.2.2 b z b hc rfl
    · exact n1.2.2 b (List.mem_append_right _ (List.mem_append_right _ hc)) b z rfl
  · subst q
    rcases List.mem_append.mp hc with hc | hc
    · rcases s b hc with z | z
      · exact m2.2.2 b hb b (List.mem_append_left _ z) rfl
      · exact n1.2.2 b (List.mem_append_left _ hb) b z rfl
    · exact m2.2.2 b hb b (List.mem_append_right _ hc) rfl
/-- the entries of a dict that is held, and those of the layer -/
theorem dputR_cons {k : PyData} {d : R} {kvs : List (PyData × R)} {q : PyData} {r : R} : dputR ((k, d) :: kvs) q r = if k.eqv q then (k, r) :: (kvs.map fun e => if e.1.eqv q then (e.1, r) else e) else (k, d) :: dputR kvs q r := by
  unfold dputR
  cases h : k.eqv q
  · simp only [List.any_cons, h, Bool.false_or, List.map_cons, Bool.false_eq_true, if_false]
    split <;> simp
  · simp [h]
end
end Ev
set_option autoImplicit false
set_option linter.all false
set_option maxRecDepth 100000
/-! Stores to subscripts, append, pop. -/
namespace Ev
open PySem L2 PyProof.Rows
def rPut : TSet := fun o i v H Q => rSetL o i v H Q ∨ ∃ a H4, o = .ref a ∧ DPut H a i v H4 ∧ Q H4
theorem put_set {X : Cx} (hu : X.A.units + 1 < cLine) : PSet X rPut := by
  intro pins s σ H o i v ov iv u Q I ro ri rv h
  rcases h with h | ⟨a, H4, rfl, g, q⟩
  · exact set_list pins s σ H o i v ov iv u Q I ro ri rv h
  · cases ro
    exact d_setItem hu I g ri rv fun s' I' => ⟨H4, I', q⟩
section
variable {K : PySem.W.Frag} {H H1 H2 H' : Hp} {Z Z1 Z' : AP} {σ : L2.St} {f f1 g h : List Addr} {env env1 env' : Env}
theorem ixN_of {n : Nat} {i : Int} {j : Nat} (h : ixOf n i = some j) : ixN n i = some j ∧ j < n := by
  unfold ixOf at h
  unfold ixN
  split at h
  · rename_i h0
    split at h
    · rename_i h1
      obtain rfl := Option.some.inj h
      rw [if_pos h0, if_pos (by omega)]
      exact ⟨rfl, h1⟩
    · cases h
  · rename_i h0
    split at h
    · rename_i h1
      have hj := Option.some.inj h
      rw [if_neg h0, if_pos (by omega)]
      exact ⟨congrArg some (by omega), by omega⟩
    · cases h
theorem Rrk.keys : ∀ {kvs : List (PyData × R)} {ks : List (Key × V)} {g : List Addr}, Rrk K H Z kvs (ks.map fun e => (kV e.1, e.2)) g → (kvs.map (·.1)).all flatKey = true → kvs.map (·.1) = ks.map fun e => kP e.1
  | [], [], _, _, _ => rfl
  | [], _ :: _, _, ⟨h, _⟩, _ => by simp at h
  | (k, d) :: kvs, [], _, ⟨x, y, r, g1, g2, e, _⟩, _ => by simp at e
  | (k, d) :: kvs, (j, v) :: ks, _, ⟨x, y, r, g1, g2, e, h1, h2, h3, _⟩, f => by
    simp only [List.map_cons, List.cons.injEq, Prod.mk.injEq] at e
    obtain ⟨⟨rfl, rfl⟩, rfl⟩ := e
    simp only [List.map_cons, List.all_cons, Bool.and_eq_true] at f
    simp only [List.map_cons]
    rw [flat_key h1 f.1, Rrk.keys h3 f.2]
theorem Rrk.map (k : Key) {p : PyData} {w : V} (hp : Rp K H Z p w) : ∀ {kvs : List (PyData × R)} {ks : List (Key × V)} {g : List Addr}, Rrk K H Z kvs (ks.map fun e => (kV e.1, e.2)) g → (kvs.map (·.1)).all flatKey = true →
    ∃ g', Rrk K H Z (kvs.map fun e => if e.1.eqv (kP k) then (e.1, .val p) else e) ((ks.map fun kv => if kv.1 = k then (kv.1, w) else kv).map fun e => (kV e.1, e.2)) g' ∧ g'.Sublist g
  | [], [], _, _, _ => ⟨[], ⟨rfl, rfl⟩, List.nil_sublist _⟩
  | [], _ :: _, _, ⟨h, _⟩, _ => by simp at h
  | (q, d) :: kvs, [], _, ⟨x, y, r, g1, g2, e, _⟩, _ => by simp at e
  | (q, d) :: kvs, (j, v) :: ks, _, ⟨x, y, r, g1, g2, e, h1, h2, h3, hh⟩, f => by
    subst hh
    simp only [List.map_cons, List.cons.injEq, Prod.mk.injEq] at e
    obtain ⟨⟨rfl, rfl⟩, rfl⟩ := e
    simp only [List.map_cons, List.all_cons, Bool.and_eq_true] at f
    obtain ⟨g', r1, r2⟩ := Rrk.map k hp h3 f.2
    have e1 := flat_key h1 f.1
    subst e1
    simp only [List.map_cons, kP_eqv]
    by_cases hk : j = k
    · subst hk
      rw [if_pos (by simp), if_pos rfl]
      exact ⟨g', ⟨kV j, w, _, [], g', rfl, h1, ⟨rfl, hp⟩, r1, rfl⟩, r2.trans (List.sublist_append_right _ _)⟩
    · rw [if_neg (by simp [hk]), if_neg hk]
      exact ⟨g1 ++ g', ⟨kV j, v, _, g1, g', rfl, h1, h2, r1, rfl⟩, List.Sublist.append (List.Sublist.refl _) r2⟩
theorem Rrk.snoc {k : PyData} {r : R} {x y : V} : ∀ {kvs : List (PyData × R)} {es : List (V × V)} {g : List Addr}, Rrk K H Z kvs es g → Rp K H Z k x → Rr K H Z r y h → Rrk K H Z (kvs ++ [(k, r)]) (es ++ [(x, y)]) (g ++ h)
  | [], _, _, ⟨e, q⟩, hk, hr => by subst e; subst q; exact ⟨x, y, [], h, [], rfl, hk, hr, ⟨rfl, rfl⟩, by simp⟩
  | (k', d) :: kvs, _, _, ⟨v, v', w, g1, g2, e, h0, h1, h2, q⟩, hk, hr => by
    subst e; subst q
    exact ⟨v, v', w ++ [(x, y)], g1, g2 ++ h, rfl, h0, h1, Rrk.snoc h2 hk hr, by simp⟩
theorem rp_kP (k : Key) : Rp K H Z (kP k) (kV k) := by cases k <;> exact rfl
theorem Rrk.put (k : Key) {p : PyData} {w : V} (hp : Rp K H Z p w) {kvs : List (PyData × R)} {ks : List (Key × V)} {g : List Addr} (h : Rrk K H Z kvs (ks.map fun e => (kV e.1, e.2)) g) (f : (kvs.map (·.1)).all flatKey = true) :
    ∃ g', Rrk K H Z (dputR kvs (kP k) (.val p)) ((putK ks k w).map fun e => (kV e.1, e.2)) g' ∧ g'.Sublist g := by
  have any : (kvs.any fun e => e.1.eqv (kP k)) = (ks.any fun kv => decide (kv.1 = k)) := by
    have e := Rrk.keys h f
    have e1 : (kvs.any fun e => e.1.eqv (kP k)) = ((kvs.map (·.1)).any fun q => q.eqv (kP k)) := by rw [List.any_map]; rfl
    rw [e1, e, List.any_map]
    congr 1
    funext kv
    simp [kP_eqv]
  unfold dputR putK
  rw [any]
  split
  · exact Rrk.map k hp h f
  · refine ⟨g ++ [], ?_, by rw [List.append_nil]; exact List.Sublist.refl _⟩
    rw [List.map_append]
    exact Rrk.snoc h (rp_kP k) ⟨rfl, hp⟩
theorem Rrk.len : ∀ {kvs : List (PyData × R)} {es : List (V × V)} {g : List Addr}, Rrk K H Z kvs es g → es.length = kvs.length
  | [], _, _, ⟨e, _⟩ => by rw [e]; rfl
  | (k, d) :: kvs, _, _, ⟨x, y, w, g1, g2, e, h0, h1, h2, q⟩ => by rw [e]; exact congrArg (· + 1) (Rrk.len h2)
/-- a store to a thing that is held -/
theorem put_ok {u r u' : R} {v y w : V} {g0 : List Addr} {key : PyData} (hu : Rr K H Z u v g0) (hy : Vw K H Z key y) (hr : Rr K H Z r w g) (nd : (g0 ++ g).Nodup) (sep : ∀ b ∈ g0, ¬ Z b) (he : putAt u key r = some u') :
    ∃ a o g2, v = .ref a ∧ a ∈ g0 ∧ (∀ Q : Hp → Prop, Q (upd H a o) → rPut v y w H Q) ∧ Rr K (upd H a o) Z u' v g2 ∧ (∀ b ∈ g2, b ∈ g0 ∨ b ∈ g) ∧ g2.Nodup := by
  cases u with
  | val p => simp only [putAt, reduceCtorEq] at he
  | lst rs =>
    cases key <;> simp only [putAt, reduceCtorEq, Option.bind_eq_some_iff, Option.some.injEq] at he
    obtain ⟨j, h1, rfl⟩ := he
    obtain ⟨a, vs, gg, e, n, r1, q⟩ := hu
    subst q
    obtain ⟨k1, k2⟩ := ixN_of h1
    have hj : rs[j]? = some rs[j] := List.getElem?_eq_getElem k2
    obtain ⟨vj, ga, gj, gb, e1, e2, e3, e4⟩ := r1.at hj
    subst e3
    have ndg := List.nodup_append.mp nd
    have na := List.nodup_cons.mp ndg.1
    have keep : ∀ b x, b ≠ a → H b = some x → upd H a (.lst (vs.set j w)) b = some x := fun b x hb e => by rw [upd_ne hb]; exact e
    have kz : ∀ b x, Z b → H b = some x → upd H a (.lst (vs.set j w)) b = some x := fun b x z e => keep b x (fun q => sep a List.mem_cons_self (q ▸ z)) e
    have r2 := e4 (upd H a (.lst (vs.set j w))) kz (fun b hb x e => keep b x (fun q => na.1 (by
      subst q
      rcases hb with hb | hb
      · exact List.mem_append_left _ hb
      · exact List.mem_append_right _ (List.mem_append_right _ hb))) e) r w g
      (Rr.mono kz (fun _ z => z) r w g (fun b hb x e => keep b x (fun q => ndg.2.2 a List.mem_cons_self b hb q.symm) e) hr)
    have nd2 : (ga ++ (g ++ gb)).Nodup := nd_mid (g0 := gj) (g := g) (by
      have := nd
      rw [List.cons_append] at this
      exact (List.nodup_cons.mp this).2) (fun b hb => .inr hb) ndg.2.1
    refine ⟨a, .lst (vs.set j w), a :: (ga ++ (g ++ gb)), e, List.mem_cons_self, fun Q q => .inl ⟨a, vs, _, j, e, hy, n, by rw [r1.len]; exact k1, q⟩, ⟨a, vs.set j w, _, e, upd_same, r2, rfl⟩, fun b hb => ?_, List.nodup_cons.mpr ⟨fun hb => ?_, nd2⟩⟩
    · rcases List.mem_cons.mp hb with z | z
      · subst z; exact .inl List.mem_cons_self
      · rcases List.mem_append.mp z with z | z
        · exact .inl (List.mem_cons_of_mem _ (List.mem_append_left _ z))
        · rcases List.mem_append.mp z with z | z
          · exact .inr z
          · exact .inl (List.mem_cons_of_mem _ (List.mem_append_right _ (List.mem_append_right _ z)))
    · rcases List.mem_append.mp hb with z | z
      · exact na.1 (List.mem_append_left _ z)
      · rcases List.mem_append.mp z with z | z
        · exact ndg.2.2 a List.mem_cons_self a z rfl
        · exact na.1 (List.mem_append_right _ (List.mem_append_right _ z))
  | dct kvs =>
    cases r <;> simp only [putAt, reduceCtorEq] at he
    rename_i p
    split at he
    · rename_i hk
      obtain rfl := Option.some.inj he
      obtain ⟨a, es, gg, e, ⟨ks, n, q'⟩, r1, q⟩ := hu
      subst q; subst q'
      obtain ⟨rfl, hp⟩ := hr
      simp only [Bool.and_eq_true, decide_eq_true_eq, kOk] at hk
      obtain ⟨⟨f1, f2⟩, hl⟩ := hk
      obtain ⟨kk, e1, e2⟩ := vw_key f1 hy
      subst e2
      have ndg := List.nodup_append.mp nd
      have na := List.nodup_cons.mp ndg.1
      have keep : ∀ b x, b ≠ a → H b = some x → upd H a (.dK (putK ks kk w)) b = some x := fun b x hb e => by rw [upd_ne hb]; exact e
      have kz : ∀ b x, Z b → H b = some x → upd H a (.dK (putK ks kk w)) b = some x := fun b x z e => keep b x (fun q => sep a List.mem_cons_self (q ▸ z)) e
      obtain ⟨g', r2, sb⟩ := Rrk.put kk hp r1 f2
      have hlen := r1.len
      rw [List.length_map] at hlen
      refine ⟨a, .dK (putK ks kk w), a :: g', e, List.mem_cons_self, fun Q q => .inr ⟨a, _, e, by rw [e1]; exact DPut.k n (by rw [hlen]; exact hl), q⟩, ⟨a, _, g', e, ⟨_, upd_same, rfl⟩, Rrk.mono kz (fun _ z => z) _ _ _ (fun b hb x e => keep b x (fun q => na.1 (by rw [← q]; exact sb.subset hb)) e) r2, rfl⟩, fun b hb => .inl ?_, List.nodup_cons.mpr ⟨fun hb => na.1 (sb.subset hb), na.2.sublist sb⟩⟩
      rcases List.mem_cons.mp hb with z | z
      · subst z; exact List.mem_cons_self
      · exact List.mem_cons_of_mem _ (sb.subset z)
    · cases he
/-- a store to an item of a list that is held -/
theorem on_ok {gf : R → Option R} {u u' : R} {v y : V} {g0 : List Addr} {key : PyData} (hu : Rr K H Z u v g0) (hy : Vw K H Z key y) (tg : ∀ a ∈ g, H a ≠ none) (nd : (g0 ++ g).Nodup) (sep : ∀ b ∈ g0, ¬ Z b) (he : onAt gf u key = some u') :
    ∃ a vs i r r' vj gj, v = .ref a ∧ H a = some (.lst vs) ∧ y = .int i ∧ atI vs i = some vj ∧ Rr K H Z r vj gj ∧ gf r = some r' ∧ (gj ++ g).Nodup ∧ (∀ b ∈ gj, b ∈ g0) ∧
      ∀ b o g2, b ∈ gj → Rr K (upd H b o) Z r' vj g2 → (∀ c ∈ g2, c ∈ gj ∨ c ∈ g) → g2.Nodup → ∃ g3, Rr K (upd H b o) Z u' v g3 ∧ (∀ c ∈ g3, c ∈ g0 ∨ c ∈ g) ∧ g3.Nodup := by
  cases u <;> cases key <;> simp only [onAt, reduceCtorEq, Option.bind_eq_some_iff, Option.some.injEq] at he
  rename_i rs i
  obtain ⟨j, h1, r, hj, r', hr', rfl⟩ := he
  obtain ⟨a, vs, gg, e, n, r1, q⟩ := hu
  subst q
  obtain ⟨vj, ga, gj, gb, e1, e2, e3, e4⟩ := r1.at hj
  subst e3
  have ndg := List.nodup_append.mp nd
  have na := List.nodup_cons.mp ndg.1
  have m1 := List.nodup_append.mp na.2
  have m2 := List.nodup_append.mp m1.2.1
  have inn : ∀ b ∈ gj, b ∈ a :: (ga ++ (gj ++ gb)) := fun b hb => List.mem_cons_of_mem _ (List.mem_append_right _ (List.mem_append_left _ hb))
  refine ⟨a, vs, i, r, r', vj, gj, e, n, hy, atI_of (by rw [r1.len]; exact h1) e1, e2, hr', List.nodup_append.mpr ⟨m2.1, ndg.2.1, fun b hb c hc => ndg.2.2 b (inn b hb) c hc⟩, inn, fun b o g2 hb h2 sb nd2 => ?_⟩
  have keep : ∀ c x, c ≠ b → H c = some x → upd H b o c = some x := fun c x hc e => by rw [upd_ne hc]; exact e
  have kz : ∀ c x, Z c → H c = some x → upd H b o c = some x := fun c x z e => keep c x (fun q => sep b (inn b hb) (q ▸ z)) e
  have ab : a ≠ b := fun q => na.1 (by rw [q]; exact List.mem_append_right _ (List.mem_append_left _ hb))
  have r2 := e4 (upd H b o) kz (fun c hc x e => keep c x (fun q => by
    subst q
    rcases hc with hc | hc
    · exact m1.2.2 c hc c (List.mem_append_left _ hb) rfl
    · exact m2.2.2 c hb c hc rfl) e) r' vj g2 h2
  have vsj : vs.set j vj = vs := by
    apply List.ext_getElem?
    intro k
    by_cases hk : j = k
    · subst hk
      rw [List.getElem?_set_self (by
        have := (List.getElem?_eq_some_iff.mp e1).1
        exact this), e1]
    · rw [List.getElem?_set_ne hk]
  rw [vsj] at r2
  have nd3 : (ga ++ (g2 ++ gb)).Nodup := nd_mid (g0 := gj) (g := g) (by
    have := nd
    rw [List.cons_append] at this
    exact (List.nodup_cons.mp this).2) sb nd2
  refine ⟨a :: (ga ++ (g2 ++ gb)), ⟨a, vs, _, e, keep a _ ab n, r2, rfl⟩, fun c hc => ?_, List.nodup_cons.mpr ⟨fun hc => ?_, nd3⟩⟩
  · rcases List.mem_cons.mp hc with z | z
    · subst z; exact .inl List.mem_cons_self
    · rcases List.mem_append.mp z with z | z
      · exact .inl (List.mem_cons_of_mem _ (List.mem_append_left _ z))
      · rcases List.mem_append.mp z with z | z
        · rcases sb c z with q | q
          · exact .inl (inn c q)
          · exact .inr q
        · exact .inl (List.mem_cons_of_mem _ (List.mem_append_right _ (List.mem_append_right _ z)))
  · rcases List.mem_append.mp hc with z | z
    · exact na.1 (List.mem_append_left _ z)
    · rcases List.mem_append.mp z with z | z
      · rcases sb a z with q | q
        · exact na.1 (List.mem_append_right _ (List.mem_append_left _ q))
        · exact ndg.2.2 a List.mem_cons_self a q rfl
      · exact na.1 (List.mem_append_right _ (List.mem_append_right _ z))
end
end Ev
set_option autoImplicit false
set_option linter.all false
set_option maxRecDepth 100000
/-! Statements. -/
namespace Ev
open PySem L2 PyProof.Rows
structure PostS (K : PySem.W.Frag) (σ σ' : L2.St) (P : Nat → Bool) (H : Hp) (Z : AP) (f : List Addr) (env' : Env) (H' : Hp) (Z' : AP) (f' g : List Addr) : Prop where
  rel : RelE K H' Z' env' σ' f'
  ok : Ok H' Z' (f' ++ g)
  tr : Tr H Z f H' Z' (f' ++ g)
  out : ∀ i, P i = false → σ'[i]? = σ[i]?
def ToEnd (K : PySem.W.Frag) (D : Ends) (σ : L2.St) (P : Nat → Bool) (H : Hp) (Z : AP) (f : List Addr) (env' : Env) : Fl → Prop
  | .nx => ∀ σ' H' Z' f', PostS K σ σ' P H Z f env' H' Z' f' [] → D.nx σ' H'
  | .brk => ∀ σ' H' Z' f', PostS K σ σ' P H Z f env' H' Z' f' [] → D.bk σ' H'
  | .cnt => ∀ σ' H' Z' f', PostS K σ σ' P H Z f env' H' Z' f' [] → D.ct σ' H'
  | .ret r => ∀ σ' v H' Z' f' g, PostS K σ σ' P H Z f env' H' Z' f' g → Rr K H' Z' r v g → D.rt v H'
def tSt (K : PySem.W.Frag) (O : Orc) (m : MS) : TS := fun D σ H => ∃ env Z f fl env', RelE K H Z env σ f ∧ Ok H Z f ∧ ex O m env = some (fl, env') ∧ ToEnd K D σ (fun i => asn i m) H Z f env' fl
def tSts (K : PySem.W.Frag) (O : Orc) (ms : List MS) : TS := fun D σ H => ∃ env Z f fl env', RelE K H Z env σ f ∧ Ok H Z f ∧ exs O ms env = some (fl, env') ∧ ToEnd K D σ (fun i => asns i ms) H Z f env' fl
theorem PS.imp {X : Cx} {e : Stmt} {t t' : TS} (h : PS X e t) (k : ∀ D σ H, t' D σ H → t D σ H) : PS X e t' := ⟨fun pins s σ H D I q => h.run pins s σ H D I (k D σ H q)⟩
theorem PSs.imp {X : Cx} {e : List Stmt} {t t' : TS} (h : PSs X e t) (k : ∀ D σ H, t' D σ H → t D σ H) : PSs X e t' := ⟨fun pins s σ H D I q => h.run pins s σ H D I (k D σ H q)⟩
section
variable {K : PySem.W.Frag} {H H1 H2 H' : Hp} {Z Z1 Z2 Z' : AP} {σ σ1 σ2 : L2.St} {f f1 f2 g h : List Addr} {env env1 env2 env' : Env} {P P' : Nat → Bool} {D : Ends} {fl : Fl}
theorem Post.s (p : Post K σ H Z f env1 H1 Z1 f1 g) : PostS K σ σ P H Z f env1 H1 Z1 f1 g := ⟨p.rel, p.ok, p.tr, fun _ _ => rfl⟩
theorem PostS.ok0 (p : PostS K σ σ1 P H Z f env1 H1 Z1 f1 []) : Ok H1 Z1 f1 := by
  have q := p.ok
  rwa [List.append_nil] at q
theorem PostS.trans (p : PostS K σ σ1 P H Z f env1 H1 Z1 f1 []) (q : PostS K σ1 σ2 P' H1 Z1 f1 env2 H2 Z2 f2 g) (l1 : ∀ i, P i = false → P' i = false) : PostS K σ σ2 P H Z f env2 H2 Z2 f2 g :=
  ⟨q.rel, q.ok, by have t := p.tr.trans q.tr; rwa [List.append_nil] at t, fun i hi => (q.out i (l1 i hi)).trans (p.out i hi)⟩
theorem PostS.weak (p : PostS K σ σ1 P H Z f env1 H1 Z1 f1 g) (l : ∀ i, P' i = false → P i = false) : PostS K σ σ1 P' H Z f env1 H1 Z1 f1 g := ⟨p.rel, p.ok, p.tr, fun i hi => p.out i (l i hi)⟩
theorem PostS.refl (r : RelE K H Z env σ f) (o : Ok H Z f) : PostS K σ σ P H Z f env H Z f [] := (Post.refl r o).s
theorem ToEnd.pre (e : ToEnd K D σ P H Z f env' fl) (p : PostS K σ σ1 P H Z f env1 H1 Z1 f1 []) (l : ∀ i, P i = false → P' i = false) : ToEnd K D σ1 P' H1 Z1 f1 env' fl := by
  cases fl with
  | nx => exact fun σ' H' Z' f' q => e σ' H' Z' f' (p.trans q l)
  | brk => exact fun σ' H' Z' f' q => e σ' H' Z' f' (p.trans q l)
  | cnt => exact fun σ' H' Z' f' q => e σ' H' Z' f' (p.trans q l)
  | ret r => exact fun σ' v H' Z' f' g q hr => e σ' v H' Z' f' g (p.trans q l) hr
theorem Post.put {i : Nat} {r : R} {v : V} (p : Post K σ H Z f env1 H1 Z1 f1 g) (hr : Rr K H1 Z1 r v g) (hp : ∀ j, P j = false → i ≠ j) : ∃ f2, PostS K σ (σ.set i (some v)) P H Z f (st env1 i (.sl r)) H1 Z1 f2 [] := by
  obtain ⟨f2, h1, h2, h3⟩ := p.rel.put1 (i := i) (v := v) p.ok hr
  refine ⟨f2, h1, by rw [List.append_nil]; exact h2, p.tr.weak fun a ha => ?_, fun j hj => List.getElem?_set_ne (hp j hj)⟩
  rw [List.append_nil] at ha
  exact List.mem_append.mpr (h3 a ha)
end
section
variable {X : Cx} {O : Orc} {pos p : Pos}
theorem s_stNil : PSs X [] (tSts X.K O []) := by
  refine PSs.imp pss_nil fun D σ H ⟨env, Z, f, fl, env', hE, ok, he, k⟩ => ?_
  simp only [exs, Option.some.injEq, Prod.mk.injEq] at he
  obtain ⟨rfl, rfl⟩ := he
  exact k σ H Z f (PostS.refl hE ok)
theorem s_seq {s : Stmt} {ss : List Stmt} {m : MS} {ms : List MS} (h : PS X s (tSt X.K O m)) (hs : PSs X ss (tSts X.K O ms)) : PSs X (s :: ss) (tSts X.K O (m :: ms)) := by
  refine PSs.imp (pss_cons h hs) fun D σ H ⟨env, Z, f, fl, env', hE, ok, he, k⟩ => ?_
  simp only [exs, Option.bind_eq_some_iff] at he
  obtain ⟨x, hx, he⟩ := he
  have l1 : ∀ i, asns i (m :: ms) = false → asn i m = false := fun i h => by simp only [asns, Bool.or_eq_false_iff] at h; exact h.1
  have l2 : ∀ i, asns i (m :: ms) = false → asns i ms = false := fun i h => by simp only [asns, Bool.or_eq_false_iff] at h; exact h.2
  obtain ⟨x1, x2⟩ := x
  refine ⟨env, Z, f, x1, x2, hE, ok, hx, ?_⟩
  cases x1 with
  | nx => exact fun σ' H' Z' f' q => ⟨x2, Z', f', fl, env', q.rel, q.ok0, he, k.pre (q.weak l1) l2⟩
  | brk =>
    simp only [Option.some.injEq, Prod.mk.injEq] at he
    obtain ⟨rfl, rfl⟩ := he
    exact fun σ' H' Z' f' q => k σ' H' Z' f' (q.weak l1)
  | cnt =>
    simp only [Option.some.injEq, Prod.mk.injEq] at he
    obtain ⟨rfl, rfl⟩ := he
    exact fun σ' H' Z' f' q => k σ' H' Z' f' (q.weak l1)
  | ret r =>
    simp only [Option.some.injEq, Prod.mk.injEq] at he
    obtain ⟨rfl, rfl⟩ := he
    exact fun σ' v H' Z' f' g q hr => k σ' v H' Z' f' g (q.weak l1) hr
theorem s_never {s : Stmt} : PS X s (tSt X.K O .never) := PS.imp ps_never fun D σ H ⟨env, Z, f, fl, env', hE, ok, he, k⟩ => by simp only [ex, reduceCtorEq] at he
theorem s_nop {s : Stmt} (h : PS X s tNext) : PS X s (tSt X.K O .nop) := PS.imp h fun D σ H ⟨env, Z, f, fl, env', hE, ok, he, k⟩ => by
  simp only [ex, Option.some.injEq, Prod.mk.injEq] at he
  obtain ⟨rfl, rfl⟩ := he
  exact k σ H Z f (PostS.refl hE ok)
theorem s_brk : PS X (.Break pos) (tSt X.K O .brk) := PS.imp ps_break fun D σ H ⟨env, Z, f, fl, env', hE, ok, he, k⟩ => by
  simp only [ex, Option.some.injEq, Prod.mk.injEq] at he
  obtain ⟨rfl, rfl⟩ := he
  exact k σ H Z f (PostS.refl hE ok)
theorem s_cnt : PS X (.Continue pos) (tSt X.K O .cnt) := PS.imp ps_continue fun D σ H ⟨env, Z, f, fl, env', hE, ok, he, k⟩ => by
  simp only [ex, Option.some.injEq, Prod.mk.injEq] at he
  obtain ⟨rfl, rfl⟩ := he
  exact k σ H Z f (PostS.refl hE ok)
/-- the end of `x = e` -/
theorem set_end {K : PySem.W.Frag} {i : Nat} {m : ME} {D : Ends} {σ : L2.St} {H : Hp} (h : tSt K O (.asg (.nm i) m) D σ H) : tAsg (tEv K O m) (gName i) D σ H := by
  obtain ⟨env, Z, f, fl, env', hE, ok, he, k⟩ := h
  simp only [ex, Option.bind_eq_some_iff, Option.some.injEq, Prod.mk.injEq] at he
  obtain ⟨x, hx, y, hy, e', hb, rfl, rfl⟩ := he
  refine ⟨env, Z, f, x.1, x.2, hE, ok, hx, fun v H1 Z1 f1 g1 P1 o1 => ?_⟩
  obtain ⟨f2, g2, P2, r2⟩ := Post.own (h := []) (by rw [List.append_nil]; exact P1) o1 (show Ev.own x.1 x.2 = some (y.1, y.2) from hy)
  rw [List.append_nil] at P2
  simp only [bindR] at hb
  split at hb
  · cases hb
  · obtain rfl := Option.some.inj hb
    obtain ⟨f3, P3⟩ := P2.put (i := i) (P := fun j => asn j (.asg (.nm i) m)) r2 fun j hj e => by subst e; simp [asn, tgHas] at hj
    exact k _ _ _ _ P3
theorem s_set {i : Nat} {x : Str} {e : Expr} {m : ME} {pos' : Pos} (hN : X.N.Nodup) (hi : X.N[i]? = some x) (hx : Loc X.env.scope x) (hf : X.fn x = true ∨ X.env.scope.names.lookup x = some .local) (hs : swapsWith e (some (.Name x pos')) pos.line X.env = pure false) (he : PE X e (tEv X.K O m)) :
    PS X (.Assign [.Name x pos'] e pos) (tSt X.K O (.asg (.nm i) m)) := PS.imp (ps_set hN hi hx he hs hf) fun D σ H h => set_end h
theorem s_asgT {tg e : Expr} {ts : List MT} {m : ME} (hg : PG X tg (gB X.K (.tp ts))) (hs : swapsWithSole [tg] e pos.line X.env = pure false) (hw : swappedStores [tg] e X.env = pure none) (h1 : (assignEach [tg] X.env).map (·.2) = [assign tg X.env]) (he : PE X e (tEv X.K O m)) :
    PS X (.Assign [tg] e pos) (tSt X.K O (.asg (.tp ts) m)) := PS.imp (ps_asg he hg hs hw h1) fun D σ H ⟨env, Z, f, fl, env', hE, ok, he, k⟩ => by
  simp only [ex, Option.bind_eq_some_iff, Option.some.injEq, Prod.mk.injEq] at he
  obtain ⟨x, hx, y, hy, e', hb, rfl, rfl⟩ := he
  refine ⟨env, Z, f, x.1, x.2, hE, ok, hx, fun v H1 Z1 f1 g1 P1 o1 => ?_⟩
  obtain ⟨f2, g2, P2, r2⟩ := Post.own (h := []) (by rw [List.append_nil]; exact P1) o1 (show Ev.own x.1 x.2 = some (y.1, y.2) from hy)
  have P3 := Post.freeze P2 (Rr.trk _ _ _ r2)
  have rp := Rr.fro (Z' := ZU Z1 g2) (fun a z => .inl z) y.1 v g2 (fun a ha => .inr ha) r2
  refine ⟨y.2, ZU Z1 g2, f2, fro y.1, e', P3.rel, P3.ok0, rp, hb, fun σ' f' E' ok' sb u' => k σ' H1 (ZU Z1 g2) f' ⟨E', by rw [List.append_nil]; exact ok', P3.tr.weak fun a ha => ?_, fun i hi => u' i hi⟩⟩
  rw [List.append_nil] at ha ⊢
  exact sb a ha
theorem s_exp {e : Expr} {m : ME} (hs : swapsWith e none pos.line X.env = pure false) (he : PE X e (tEv X.K O m)) : PS X (.Expr e pos) (tSt X.K O (.exp m)) := PS.imp (ps_expr he hs) fun D σ H ⟨env, Z, f, fl, env', hE, ok, he, k⟩ => by
  simp only [ex, Option.bind_eq_some_iff, Option.some.injEq, Prod.mk.injEq] at he
  obtain ⟨x, hx, rfl, rfl⟩ := he
  exact ⟨env, Z, f, x.1, x.2, hE, ok, hx, fun v H1 Z1 f1 g1 P1 o1 => k σ H1 Z1 f1 (Post.drop (g := []) P1).s⟩
theorem s_ret {e : Expr} {m : ME} (he : PE X e (tEv X.K O m)) : PS X (.Return (some e) pos) (tSt X.K O (.ret m)) := PS.imp (ps_ret he) fun D σ H ⟨env, Z, f, fl, env', hE, ok, he, k⟩ => by
  simp only [ex, Option.bind_eq_some_iff, Option.some.injEq, Prod.mk.injEq] at he
  obtain ⟨x, hx, y, hy, rfl, rfl⟩ := he
  refine ⟨env, Z, f, x.1, x.2, hE, ok, hx, fun v H1 Z1 f1 g1 P1 o1 => ?_⟩
  obtain ⟨f2, g2, P2, r2⟩ := Post.own (h := []) (by rw [List.append_nil]; exact P1) o1 (show Ev.own x.1 x.2 = some (y.1, y.2) from hy)
  rw [List.append_nil] at P2
  exact k σ v H1 Z1 f2 g2 P2.s r2
theorem s_retN : PS X (.Return none pos) (tSt X.K O .retN) := PS.imp ps_retN fun D σ H ⟨env, Z, f, fl, env', hE, ok, he, k⟩ => by
  simp only [ex, Option.some.injEq, Prod.mk.injEq] at he
  obtain ⟨rfl, rfl⟩ := he
  exact k σ .non H Z f [] (PostS.refl hE ok) ⟨rfl, rfl⟩
theorem s_ite {c : Expr} {a b : List Stmt} {mc : ME} {ma mb : List MS} (hc : PT X c (tTs X.K O mc)) (ha : PSs X a (tSts X.K O ma)) (hb : PSs X b (tSts X.K O mb)) : PS X (.If c a b pos) (tSt X.K O (.ite mc ma mb)) := PS.imp (ps_if hc ha hb) fun D σ H ⟨env, Z, f, fl, env', hE, ok, he, k⟩ => by
  simp only [ex, Option.bind_eq_some_iff] at he
  obtain ⟨x, hx, p, hp, c, hc, he⟩ := he
  refine tst_then (m' := mc) (env' := env') (b := c) (Q := fun c H1 => if c = true then tSts X.K O ma D σ H1 else tSts X.K O mb D σ H1) hE ok hx hp hc fun H' Z' f' P => ?_
  cases c with
  | true => exact iteT ⟨p.2, Z', f', fl, env', P.rel, P.ok0, by simpa using he, k.pre P.s fun i h => by simp only [asn, Bool.or_eq_false_iff] at h; exact h.1⟩
  | false => exact iteF ⟨p.2, Z', f', fl, env', P.rel, P.ok0, by simpa using he, k.pre P.s fun i h => by simp only [asn, Bool.or_eq_false_iff] at h; exact h.2⟩
/-! ### for -/
theorem s_for {tg iter : Expr} {body : List Stmt} {mt : MT} {mi : MI} {mb : List MS} (hp : PassesOwn (model X.prog X.w) X.A X.env X.xe) (hc : X.calm = true) (hi : PI X tg iter (tI X.K O mi)) (hg : PG X tg (gB X.K mt)) (hb : PSs X body (tSts X.K O mb)) (hs : ∀ x, foldedSetIterable iter X.env x = pure x)
    (none' : ∀ env ds li e', evI O mi env = some (ds, li, e') → li = none) : PS X (.For tg iter body [] pos) (tSt X.K O (.for mt mi mb)) := PS.imp (ps_for hp hc hi hg hb hs) fun D σ H ⟨env, Z, f, fl, env', hE, ok, he, k⟩ => by
  simp only [ex, Option.bind_eq_some_iff, Option.some.injEq, Prod.mk.injEq] at he
  obtain ⟨x, hx, y, hy, rfl, rfl⟩ := he
  obtain ⟨ds, li, x2⟩ := x
  have hli : li = none := none' _ _ _ _ hx
  subst hli
  refine ⟨env, Z, f, ds, x2, hE, ok, hx, fun J H1 Z1 f1 P1 wk => ?_⟩
  let P : Nat → Bool := fun i => asn i (.for mt mi mb)
  refine ⟨fun i m σ' H' => ∃ env_i Z_i f_i, PostS X.K σ σ' P H1 Z1 f1 env_i H' Z_i f_i [] ∧ forL (fun d e => (bindT mt d e).bind fun e1 => exs O mb e1) (ds.drop i) env_i = some y ∧ m = ds.length - i, ⟨ds.length, x2, Z1, f1, PostS.refl P1.rel P1.ok0, by simpa using hy, rfl⟩, ?_⟩
  rintro i m σ' H' ⟨env_i, Z_i, f_i, Q, hl, rfl⟩
  have src := wk H' Z_i Q.tr.zle (fun a o z e => Q.tr.frm a o e fun q => P1.ok0.sep a q z) Q.ok0.trk i
  by_cases hlt : i < ds.length
  · right
    have hd : ds[i]? = some ds[i] := List.getElem?_eq_getElem hlt
    obtain ⟨go, yl⟩ := src.1 _ hd
    rw [List.drop_eq_getElem_cons hlt] at hl
    simp only [forL, Option.bind_eq_some_iff] at hl
    obtain ⟨z, ⟨e1, hb1, hb2⟩, hl⟩ := hl
    obtain ⟨z1, z2⟩ := z
    have l1 : ∀ j, P j = false → tgHas j mt = false := fun j h => by simp only [P, asn, Bool.or_eq_false_iff] at h; exact h.1
    have l2 : ∀ j, P j = false → asns j mb = false := fun j h => by simp only [P, asn, Bool.or_eq_false_iff] at h; exact h.2
    refine ⟨go, fun σ'' H'' => ∃ env_i Z_i f_i, PostS X.K σ σ'' P H1 Z1 f1 env_i H'' Z_i f_i [] ∧ forL (fun d e => (bindT mt d e).bind fun e1 => exs O mb e1) (ds.drop (i + 1)) env_i = some y, fun σ'' H'' ⟨a, b, c, q1, q2⟩ => ⟨ds.length - (i + 1), by omega, a, b, c, q1, q2, rfl⟩, fun v H2 hv => ?_⟩
    obtain ⟨Z2, N⟩ := yl v H2 hv
    have Q2 : Post X.K σ' H' Z_i f_i env_i H2 Z2 f_i [] := Post.new (Post.refl Q.rel Q.ok0) N
    refine ⟨env_i, Z2, f_i, ds[i], e1, Q2.rel, Q2.ok0, N.rep.2, hb1, fun σ2 f2 E2 ok2 s2 u2 => ?_⟩
    have Q3 : PostS X.K σ' σ2 P H' Z_i f_i e1 H2 Z2 f2 [] := ⟨E2, by rw [List.append_nil]; exact ok2, Q2.tr.weak fun a ha => by rw [List.append_nil] at ha ⊢; exact s2 a ha, fun j hj => u2 j (l1 j hj)⟩
    have Q4 := Q.trans Q3 fun _ h => h
    refine ⟨e1, Z2, f2, z1, z2, E2, ok2, hb2, ?_⟩
    cases z1 with
    | nx => exact fun σ3 H3 Z3 f3 q => ⟨z2, Z3, f3, Q4.trans q l2, hl⟩
    | cnt => exact fun σ3 H3 Z3 f3 q => ⟨z2, Z3, f3, Q4.trans q l2, hl⟩
    | brk =>
      simp only [Option.some.injEq] at hl
      subst hl
      exact fun σ3 H3 Z3 f3 q => k σ3 H3 Z3 f3 (P1.s.trans (Q4.trans q l2) fun _ h => h)
    | ret r =>
      simp only [Option.some.injEq] at hl
      subst hl
      exact fun σ3 v H3 Z3 f3 g q hr => k σ3 v H3 Z3 f3 g (P1.s.trans (Q4.trans q l2) fun _ h => h) hr
  · left
    rw [List.drop_eq_nil_of_le (by omega)] at hl
    simp only [forL, Option.some.injEq] at hl
    subst hl
    exact ⟨src.2 (by omega), k σ' H' Z_i f_i (P1.s.trans Q fun _ h => h)⟩
theorem walk_none {o : Opd} {F : PyData → Option (List PyData)} {ds : List PyData} {li : Option Nat} {env env' : Env} (he : walk o F env = some (ds, li, env')) : li = none := by
  cases o with
  | tm r =>
    simp only [Ev.walk, Option.map_eq_some_iff, Prod.mk.injEq] at he
    obtain ⟨d, h1, _, rfl, _⟩ := he
    rfl
  | vr i =>
    simp only [Ev.walk] at he
    split at he
    · simp only [Option.map_eq_some_iff, Prod.mk.injEq] at he
      obtain ⟨d, h1, _, rfl, _⟩ := he
      rfl
    · cases he
theorem evI_none {mi : MI} : ∀ env ds li e', evI O mi env = some (ds, li, e') → li = none := by
  intro env ds li e' h
  cases mi with
  | rng a =>
    simp only [evI, Option.bind_eq_some_iff] at h
    obtain ⟨x, hx, q, hq, he⟩ := h
    split at he
    · split at he
      · simp only [Option.some.injEq, Prod.mk.injEq] at he; exact he.2.1.symm
      · cases he
    · cases he
  | rng2 a b =>
    simp only [evI, Option.bind_eq_some_iff] at h
    obtain ⟨x, hx, y, hy, q, hq, r, hr, he⟩ := h
    split at he
    · split at he
      · simp only [Option.some.injEq, Prod.mk.injEq] at he; exact he.2.1.symm
      · cases he
    · cases he
  | zip a b =>
    simp only [evI, Option.bind_eq_some_iff, Option.some.injEq, Prod.mk.injEq] at h
    obtain ⟨x, hx, y, hy, q, hq, r, hr, _, _, _, _, he⟩ := h
    exact he.2.1.symm
  | enum a => simp only [evI, Option.bind_eq_some_iff] at h; obtain ⟨x, hx, he⟩ := h; exact walk_none he
  | items a => simp only [evI, Option.bind_eq_some_iff] at h; obtain ⟨x, hx, he⟩ := h; exact walk_none he
  | vals a => simp only [evI, Option.bind_eq_some_iff] at h; obtain ⟨x, hx, he⟩ := h; exact walk_none he
  | seq a => simp only [evI, Option.bind_eq_some_iff] at h; obtain ⟨x, hx, he⟩ := h; exact walk_none he
end
end Ev
set_option autoImplicit false
set_option linter.all false
set_option maxRecDepth 100000
/-! List comprehensions. -/
namespace Ev
open PySem L2 PyProof.Rows
def tC (K : PySem.W.Frag) (O : Orc) (m : Option ME) : TT := fun σ H Q => ∃ env Z f b env', RelE K H Z env σ f ∧ Ok H Z f ∧ evC O m env = some (b, env') ∧ ∀ H' Z' f', Post K σ H Z f env' H' Z' f' [] → Q b H'
theorem PTs.imp {X : Cx} {e : List Expr} {t t' : TT} (h : PTs X e t) (k : ∀ σ H Q, t' σ H Q → t σ H Q) : PTs X e t' := ⟨fun pins s σ H Q I q => h.run pins s σ H Q I (k σ H Q q)⟩
section
variable {X : Cx} {O : Orc}
theorem c_none : PTs X [] (tC X.K O none) := PTs.imp pts_nil fun σ H Q ⟨env, Z, f, b, env', hE, ok, he, k⟩ => by
  simp only [evC, Option.some.injEq, Prod.mk.injEq] at he
  obtain ⟨rfl, rfl⟩ := he
  exact k H Z f (.refl hE ok)
theorem c_some {c : Expr} {m : ME} (h : PT X c (tTs X.K O m)) : PTs X [c] (tC X.K O (some m)) := PTs.imp (pts_one h) fun σ H Q ⟨env, Z, f, b, env', hE, ok, he, k⟩ => ⟨env, Z, f, b, env', hE, ok, he, k⟩
end
section
variable {K : PySem.W.Frag} {H H1 H2 H' : Hp} {Z Z1 Z2 Z' : AP} {σ σ1 τ : L2.St} {f f1 f2 g h : List Addr} {env env1 env2 env' : Env}
theorem Tr.grow (t : Tr H Z f H' Z' h) (s : ∀ a ∈ f, a ∈ f1) : Tr H Z f1 H' Z' h := ⟨t.zle, fun a z => (t.zin a z).imp id (Or.imp (s a) id), fun a o e n => t.frm a o e fun q => n (s a q), fun a ha => (t.sub a ha).imp (s a) id⟩
theorem hide_ok : ∀ (own : List Nat) {env : Env} {σ : L2.St} {f : List Addr}, RelE K H Z env σ f → ∃ f', RelE K H Z (Ev.wipe env own) (L2.wipe σ own) f' ∧ (∀ a ∈ f', a ∈ f) ∧ (f.Nodup → f'.Nodup)
  | [], env, σ, f, h => ⟨f, by cases env <;> exact h, fun _ h => h, fun h => h⟩
  | i :: is, env, σ, f, h => by
    obtain ⟨f1, h1, h2, h3⟩ := hide_ok is h
    obtain ⟨f2, k1, k2, k3⟩ := h1.put i (s' := .no) (x' := none) (g' := []) rfl
    refine ⟨f2, ?_, fun a ha => h2 a ((k2 a ha).elim id fun q => absurd q List.not_mem_nil), fun n => k3 (by rw [List.append_nil]; exact h3 n)⟩
    cases env with
    | nil => exact k1
    | cons s e => exact k1
def restore (σ : L2.St) : List Nat → L2.St → L2.St
  | [], τ => τ
  | i :: is, τ => (restore σ is τ).set i (σ.getD i none)
theorem restore_len (σ : L2.St) : ∀ (is : List Nat) (τ : L2.St), (restore σ is τ).length = τ.length
  | [], _ => rfl
  | i :: is, τ => by unfold restore; rw [List.length_set, restore_len σ is τ]
theorem restore_get (σ : L2.St) {j : Nat} : ∀ {is : List Nat} {τ : L2.St}, σ.length = τ.length → (j ∉ is → τ[j]? = σ[j]?) → (restore σ is τ)[j]? = σ[j]?
  | [], τ, _, h => h (by simp)
  | i :: is, τ, hl, h => by
    unfold restore
    by_cases e : i = j
    · subst e
      by_cases q : i < σ.length
      · rw [List.getElem?_set_self (by rw [restore_len, ← hl]; exact q), List.getD_eq_getElem?_getD, List.getElem?_eq_getElem q]; rfl
      · rw [List.getElem?_eq_none (by rw [List.length_set, restore_len, ← hl]; omega), List.getElem?_eq_none (by omega)]
    · rw [List.getElem?_set_ne e]
      exact restore_get σ hl fun hn => h (by simp [hn, Ne.symm e])
theorem restore_wipe (σ : L2.St) (is : List Nat) : restore σ is (L2.wipe σ is) = σ := by
  apply List.ext_getElem?
  intro j
  exact restore_get σ (L2.wipe_length σ is).symm fun hj => L2.wipe_out hj
theorem plain_rs {s : Sl} {x : Option V} {g : List Addr} (h : Rs K H Z s x g) (p : plainSl s = true) (kz : ∀ a o, Z a → H a = some o → H' a = some o) (zz : ∀ a, Z a → Z' a) : Rs K H' Z' s x [] := by
  cases s with
  | no => exact rfl
  | sl r => cases r with
    | val q => obtain ⟨v, e, rfl, hp⟩ := h; exact ⟨v, e, rfl, Rp.mono kz zz q v hp⟩
    | lst _ => cases p
    | dct _ => cases p
  | lk r => cases p
theorem unhide_ok (h0 : RelE K H Z env1 σ f) (kz : ∀ a o, Z a → H a = some o → H' a = some o) (zz : ∀ a, Z a → Z' a) : ∀ (own : List Nat) {env : Env} {τ : L2.St} {f1 : List Addr}, own.all (fun i => plainSl (gt env1 i)) = true → RelE K H' Z' env τ f1 →
    ∃ f2, RelE K H' Z' (again env1 env own) (restore σ own τ) f2 ∧ (∀ a ∈ f2, a ∈ f1) ∧ (f1.Nodup → f2.Nodup)
  | [], env, τ, f1, _, h => ⟨f1, by cases env <;> exact h, fun _ h => h, fun h => h⟩
  | i :: is, env, τ, f1, hp, h => by
    simp only [List.all_cons, Bool.and_eq_true] at hp
    obtain ⟨f2, h1, h2, h3⟩ := unhide_ok h0 kz zz is hp.2 h
    have hs : Rs K H' Z' (gt env1 i) (σ.getD i none) [] := by
      by_cases hn : gt env1 i = .no
      · rw [hn]; exact rfl
      · obtain ⟨x, fa, g0, fb, e1, e2, e3, e4⟩ := h0.focus0 (i := i) hn
        have e5 : σ.getD i none = x := by rw [List.getD_eq_getElem?_getD, e1]; rfl
        rw [e5]
        exact plain_rs e2 hp.1 kz zz
    obtain ⟨f3, k1, k2, k3⟩ := h1.put i hs
    refine ⟨f3, ?_, fun a ha => h2 a ((k2 a ha).elim id fun q => absurd q List.not_mem_nil), fun n => k3 (by rw [List.append_nil]; exact h3 n)⟩
    cases env with
    | nil => exact k1
    | cons s e => exact k1
theorem st_len : ∀ (e : Env) (i : Nat) (s : Sl), (st e i s).length = e.length
  | [], _, _ => rfl
  | _ :: _, 0, _ => rfl
  | _ :: e, i + 1, s => congrArg (· + 1) (st_len e i s)
mutual
theorem bindT_len : ∀ (t : MT) (d : PyData) (e e' : Env), bindT t d e = some e' → e'.length = e.length
  | .nm i, d, e, e', h => by
    simp only [bindT] at h
    split at h
    · cases h
    · rw [← Option.some.inj h, st_len]
  | .tp ts, .tuple ds, e, e', h => by simp only [bindT] at h; exact bindTs_len ts ds e e' h
  | .tp ts, .none, e, e', h => by simp only [bindT, reduceCtorEq] at h
  | .tp ts, .bool _, e, e', h => by simp only [bindT, reduceCtorEq] at h
  | .tp ts, .int _, e, e', h => by simp only [bindT, reduceCtorEq] at h
  | .tp ts, .str _, e, e', h => by simp only [bindT, reduceCtorEq] at h
  | .tp ts, .list _, e, e', h => by simp only [bindT, reduceCtorEq] at h
  | .tp ts, .dict _, e, e', h => by simp only [bindT, reduceCtorEq] at h
theorem bindTs_len : ∀ (ts : List MT) (ds : List PyData) (e e' : Env), bindTs ts ds e = some e' → e'.length = e.length
  | [], [], e, e', h => by simp only [bindTs, Option.some.injEq] at h; rw [h]
  | t :: ts, d :: ds, e, e', h => by
    simp only [bindTs, Option.bind_eq_some_iff] at h
    obtain ⟨e1, h1, h2⟩ := h
    rw [bindTs_len ts ds e1 e' h2, bindT_len t d e e1 h1]
  | [], _ :: _, e, e', h => by simp only [bindTs, reduceCtorEq] at h
  | _ :: _, [], e, e', h => by simp only [bindTs, reduceCtorEq] at h
end
theorem wipe_in {σ : L2.St} {i : Nat} : ∀ {vs : List Nat}, i ∈ vs → i < σ.length → (L2.wipe σ vs)[i]? = some none
  | v :: vs, h, hl => by
    unfold L2.wipe
    by_cases e : v = i
    · subst e; rw [List.getElem?_set_self (by rw [L2.wipe_length]; exact hl)]
    · rw [List.getElem?_set_ne e]
      rcases List.mem_cons.mp h with q | q
      · exact absurd q.symm e
      · exact wipe_in q hl
theorem wipe_eq {σ τ : L2.St} {vs : List Nat} (hl : τ.length = σ.length) (h : ∀ i, i ∉ vs → τ[i]? = σ[i]?) : L2.wipe τ vs = L2.wipe σ vs := by
  apply List.ext_getElem?
  intro i
  by_cases hi : i ∈ vs
  · by_cases q : i < σ.length
    · rw [wipe_in hi q, wipe_in hi (by rw [hl]; exact q)]
    · rw [List.getElem?_eq_none (by rw [L2.wipe_length]; omega), List.getElem?_eq_none (by rw [L2.wipe_length]; omega)]
  · rw [L2.wipe_out hi, L2.wipe_out hi, h i hi]
/-- an item appended to the new list, which is held aside -/
theorem Post.app {D : Addr} {rs : List R} {r : R} {y : V} {gg g5 : List Addr} (P : Post K σ H Z f env1 H1 Z1 f1 (D :: gg ++ g5)) (hD : H D = none) (hl : Rr K H1 Z1 (.lst rs) (.ref D) (D :: gg)) (hr : Rr K H1 Z1 r y g5) :
    ∃ acc, H1 D = some (.lst acc) ∧ acc.length = rs.length ∧ Post K σ H Z f env1 (upd H1 D (.lst (acc ++ [y]))) Z1 f1 (D :: (gg ++ g5)) ∧ Rr K (upd H1 D (.lst (acc ++ [y]))) Z1 (.lst (rs ++ [r])) (.ref D) (D :: (gg ++ g5)) := by
  obtain ⟨a, vs, g0, e, n, r1, q⟩ := hl
  obtain rfl := V.ref.inj e
  obtain ⟨_, rfl⟩ := List.cons.inj q
  have nd := List.nodup_append.mp P.ok.nd
  have nc : (D :: (gg ++ g5)).Nodup := nd.2.1
  have dn := (List.nodup_cons.mp nc).1
  have dz : ¬ Z1 D := P.ok.sep D (List.mem_append_right _ List.mem_cons_self)
  have keep : ∀ b x, b ≠ D → H1 b = some x → upd H1 D (.lst (vs ++ [y])) b = some x := fun b x hb e => by rw [upd_ne hb]; exact e
  have kz : ∀ b x, Z1 b → H1 b = some x → upd H1 D (.lst (vs ++ [y])) b = some x := fun b x z e => keep b x (fun q => dz (q ▸ z)) e
  have k1 := Rrs.mono kz (fun _ z => z) rs vs gg (fun b hb x e => keep b x (fun q => dn (by rw [← q]; exact List.mem_append_left _ hb)) e) r1
  have k2 := Rr.mono kz (fun _ z => z) r y g5 (fun b hb x e => keep b x (fun q => dn (by rw [← q]; exact List.mem_append_right _ hb)) e) hr
  refine ⟨vs, n, r1.len, ⟨RelE.mono kz (fun _ z => z) _ _ _ (fun b hb x e => keep b x (fun q => nd.2.2 b hb D List.mem_cons_self q) e) P.rel, ⟨P.ok.nd, P.ok.sep, fun b z => ?_⟩, P.tr.zle, P.tr.zin, fun b x e' n' => ?_, P.tr.sub⟩, D, vs ++ [y], gg ++ g5, rfl, upd_same, Rrs.snoc k1 k2, rfl⟩
  · by_cases q : b = D
    · subst q; exact absurd z dz
    · rw [upd_ne q]; exact P.ok.trk b z
  · exact keep b x (fun q => by rw [q, hD] at e'; cases e') (P.tr.frm b x e' n')
end
section
variable {X : Cx} {O : Orc} {pos : Pos}
theorem lc_of {K : PySem.W.Frag} {mt : MT} {mi : MI} {mc : Option ME} {me : ME} {own : List Nat} {σ : L2.St} {H : Hp} {Q : VK} (hin : ∀ i, i ∉ own → tgHas i mt = false) (h : tEv K O (.lc me mt mi mc own) σ H Q) : tLc (tI K O mi) (gB K mt) (tC K O mc) (tEv K O me) own σ H Q := by
  obtain ⟨env, Z, f, o', env', hE, ok, he, k⟩ := h
  simp only [ev, Option.bind_eq_some_iff] at he
  obtain ⟨x, hx, he⟩ := he
  obtain ⟨ds, li, env1⟩ := x
  have hli : li = none := evI_none _ _ _ _ hx
  subst hli
  split at he
  case isFalse => cases he
  rename_i hpl
  simp only [Option.bind_eq_some_iff] at he
  obtain ⟨y, hy, he⟩ := he
  split at he
  case isFalse => cases he
  rename_i hbig
  simp only [Option.some.injEq, Prod.mk.injEq] at he
  obtain ⟨rfl, rfl⟩ := he
  refine ⟨env, Z, f, ds, env1, hE, ok, hx, fun J H1 Z1 f1 P1 wk => ?_⟩
  intro D hD
  obtain ⟨fw, E1, sb1, n1⟩ := hide_ok own P1.rel
  have okw : Ok H1 Z1 fw := ⟨n1 P1.ok0.nd, fun a ha => P1.ok0.sep a (sb1 a ha), P1.ok0.trk⟩
  have N0 := New.lst (K := K) (ds := []) (vs := []) P1.ok0.trk hD rfl
  have P0 := (Post.refl E1 okw).new N0
  let F : PyData → Env → Option (Option R × Env) := fun d e => (bindT mt d e).bind fun e1 => (evC O mc e1).bind fun c => if c.1 then (ev O me c.2).bind fun y => (Ev.own y.1 y.2).bind fun r => some (some r.1, wipe r.2 own) else some (none, wipe c.2 own)
  refine ⟨fun i m H' => ∃ env_i Z_i f_i gg rs rest, Post K (L2.wipe σ own) H1 Z1 fw env_i H' Z_i f_i (D :: gg) ∧ Rr K H' Z_i (.lst rs) (.ref D) (D :: gg) ∧ mapE F (ds.drop i) env_i = some (rest, y.2) ∧ rs ++ rest = y.1 ∧ m = ds.length - i,
    ⟨ds.length, _, Z1, fw, [], [], y.1, P0, N0.rep, by simpa using hy, by simp, rfl⟩, ?_⟩
  rintro i m H' ⟨env_i, Z_i, f_i, gg, rs, rest, P, RL, hm, hrs, rfl⟩
  have src := wk H' Z_i P.tr.zle (fun a o z e => P.tr.frm a o e fun q => okw.sep a q z) P.ok.trk i
  by_cases hlt : i < ds.length
  · right
    have hd : ds[i]? = some ds[i] := List.getElem?_eq_getElem hlt
    obtain ⟨go, yl⟩ := src.1 _ hd
    rw [List.drop_eq_getElem_cons hlt] at hm
    simp only [mapE, Option.bind_eq_some_iff, Option.some.injEq, Prod.mk.injEq] at hm
    obtain ⟨z, hz, w, hw, e1, e2⟩ := hm
    simp only [F, Option.bind_eq_some_iff] at hz
    obtain ⟨eb, hb, c, hc, hz⟩ := hz
    refine ⟨go, fun H'' => ∃ env_i Z_i f_i gg rs rest, Post K (L2.wipe σ own) H1 Z1 fw env_i H'' Z_i f_i (D :: gg) ∧ Rr K H'' Z_i (.lst rs) (.ref D) (D :: gg) ∧ mapE F (ds.drop (i + 1)) env_i = some (rest, y.2) ∧ rs ++ rest = y.1, fun H'' ⟨a, b, c, d, e, f, q1, q2, q3, q4⟩ => ⟨ds.length - (i + 1), by omega, a, b, c, d, e, f, q1, q2, q3, q4, rfl⟩, fun v H2 hv => ?_⟩
    obtain ⟨Z2, N⟩ := yl v H2 hv
    have tg := Rr.trk _ _ _ RL
    have Pn : Post K (L2.wipe σ own) H' Z_i f_i env_i H2 Z2 f_i [] := Post.new (Post.refl P.rel P.ok.left) N
    have RL2 := Pn.tr.rr P.ok RL
    have P2 := P.seq Pn tg
    rw [List.append_nil] at P2
    refine ⟨env_i, Z2, f_i, ds[i], eb, P2.rel, P2.ok.left, N.rep.2, hb, fun σ2 f2 E2 ok2 s2 u2 => ?_⟩
    have hlen : σ2.length = (L2.wipe σ own).length := by rw [← E2.len, bindT_len _ _ _ _ hb, P2.rel.len]
    have hw1 : L2.wipe σ2 own = L2.wipe σ own := by
      have q1 : L2.wipe σ2 own = L2.wipe (L2.wipe σ own) own := wipe_eq hlen fun j hj => u2 j (hin j hj)
      rw [q1]
      exact wipe_eq (by rw [L2.wipe_length]) fun j hj => L2.wipe_out hj
    refine ⟨hw1, ?_⟩
    have okg : Ok H2 Z2 (f2 ++ (D :: gg)) := ok2.mk3 P2.ok.right.nd P2.ok.right.sep fun a ha hb => P2.ok.apart (s2 a ha) hb
    have PB : Post K σ2 H1 Z1 fw eb H2 Z2 f2 (D :: gg) := ⟨E2, okg, P2.tr.weak fun a ha => (List.mem_append.mp ha).elim (fun q => List.mem_append_left _ (s2 a q)) (List.mem_append_right _)⟩
    have tg2 := Rr.trk _ _ _ RL2
    have fin : ∀ {e4 : Env} {H4 : Hp} {Z4 : AP} {f5 g5 : List Addr}, Post K σ2 H1 Z1 fw e4 H4 Z4 f5 g5 → ∃ f6, Post K (L2.wipe σ own) H1 Z1 fw (Ev.wipe e4 own) H4 Z4 f6 g5 := fun {e4 H4 Z4 f5 g5} q => by
      obtain ⟨f6, E6, s6, n6⟩ := hide_ok own q.rel
      rw [hw1] at E6
      exact ⟨f6, E6, Ok.mk3 ⟨n6 q.ok.left.nd, fun a ha => q.ok.left.sep a (s6 a ha), q.ok.trk⟩ q.ok.right.nd q.ok.right.sep (fun a ha hb => q.ok.apart (s6 a ha) hb), q.tr.weak fun a ha => (List.mem_append.mp ha).elim (fun q => List.mem_append_left _ (s6 a q)) (List.mem_append_right _)⟩
    refine ⟨eb, Z2, f2, c.1, c.2, E2, ok2, hc, fun H3 Z3 f3 P3 => ?_⟩
    have RL3 := P3.tr.rr okg RL2
    have PC := PB.seq P3 tg2
    rw [List.append_nil] at PC
    dsimp only
    by_cases hcb : c.1 = true
    · rw [if_pos hcb] at hz
      rw [if_pos hcb]
      simp only [Option.bind_eq_some_iff, Option.some.injEq] at hz
      obtain ⟨u, hu, r, hr, rfl⟩ := hz
      refine ⟨c.2, Z3, f3, u.1, u.2, P3.rel, P3.ok0, hu, fun vv H4 Z4 f4 g4 P4 o4 => ?_⟩
      obtain ⟨f5, g5, P5, r5⟩ := Post.own (h := []) (by rw [List.append_nil]; exact P4) o4 (show Ev.own u.1 u.2 = some (r.1, r.2) from hr)
      rw [List.append_nil] at P5
      have RL4 := P5.tr.rr PC.ok RL3
      have PD := PC.seq P5 (Rr.trk _ _ _ RL3)
      obtain ⟨f6, PE6⟩ := fin PD
      obtain ⟨acc, a1, a2, a3, a4⟩ := PE6.app hD RL4 r5
      have hlr : rs.length ≤ y.1.length := by rw [← hrs, List.length_append]; omega
      have e1' : rest = r.1 :: w.1 := e1.symm
      refine ⟨acc, a1, ?_, _, Z4, f6, gg ++ g5, rs ++ [r.1], w.1, a3, a4, ?_, ?_⟩
      · rw [a2]
        have : rs.length + rest.length = y.1.length := by rw [← hrs, List.length_append]
        rw [e1'] at this
        simp only [List.length_cons] at this
        have hb2 : y.1.length ≤ sizeLine := hbig
        omega
      · rw [← e2]
        exact hw
      · rw [← hrs, e1']; simp
    · rw [if_neg hcb] at hz
      rw [if_neg hcb]
      obtain rfl := Option.some.inj hz
      obtain ⟨f6, PE6⟩ := fin PC
      refine ⟨_, Z3, f6, gg, rs, w.1, PE6, RL3, ?_, ?_⟩
      · rw [← e2]; exact hw
      · rw [← hrs, ← e1]
  · left
    rw [List.drop_eq_nil_of_le (by omega)] at hm
    simp only [mapE, Option.some.injEq, Prod.mk.injEq] at hm
    obtain ⟨rfl, e2⟩ := hm
    refine ⟨src.2 (by omega), ?_⟩
    have kz : ∀ a o, Z1 a → H1 a = some o → H' a = some o := fun a o z e => P.tr.frm a o e fun q => okw.sep a q z
    obtain ⟨f7, E7, s7, n7⟩ := unhide_ok P1.rel kz P.tr.zle own hpl P.rel
    rw [restore_wipe] at E7
    rw [List.append_nil] at hrs
    subst hrs
    have PF : Post K σ H1 Z1 f1 (again env1 env_i own) H' Z_i f7 (D :: gg) := ⟨E7, Ok.mk3 ⟨n7 P.ok.left.nd, fun a ha => P.ok.left.sep a (s7 a ha), P.ok.trk⟩ P.ok.right.nd P.ok.right.sep (fun a ha hb => P.ok.apart (s7 a ha) hb), (P.tr.weak fun a ha => (List.mem_append.mp ha).elim (fun q => List.mem_append_left _ (s7 a q)) (List.mem_append_right _)).grow sb1⟩
    have PG := P1.nil_seq PF
    rw [e2] at PG
    exact k _ H' Z_i f7 (D :: gg) PG RL
theorem s_lc {elt tg iter : Expr} {ifs : List Expr} {scope : Scope} {own : List (Str × Nat)} {mt : MT} {mi : MI} {mc : Option ME} {me : ME} (hc : X.calm = true) (hN : X.N.Nodup) (ok : BlkOk X.N X.env.scope scope own) (hin : ∀ i, i ∉ own.map (·.2) → tgHas i mt = false) (hs : ∀ x, foldedSetIterable iter X.env x = pure x) (hi : PI X tg iter (tI X.K O mi))
    (hg : ∀ (s : Shared) (H : Hp) (C : Addr) (cl : List (Str × Addr)) (fp : List Addr), PG (X.blk s H scope (compEnvC scope cl C X.env) fp) tg (gB X.K mt)) (ht : ∀ (s : Shared) (H : Hp) (C : Addr) (cl : List (Str × Addr)) (fp : List Addr), PTs (X.blk s H scope (compEnvC scope cl C X.env) fp) ifs (tC X.K O mc))
    (he : ∀ (s : Shared) (H : Hp) (C : Addr) (cl : List (Str × Addr)) (fp : List Addr), PE (X.blk s H scope (compEnvC scope cl C X.env) fp) elt (tEv X.K O me)) : PE X (.ListComp elt [⟨tg, iter, ifs, 0⟩] scope pos) (tEv X.K O (.lc me mt mi mc (own.map (·.2)))) :=
  PE.imp (pe_lc hc hN hi ok hg ht he hs) fun σ H Q h => lc_of hin h
theorem s_setLc {i : Nat} {y : Str} {py : Pos} {spos : Pos} {elt tg iter : Expr} {ifs : List Expr} {scope : Scope} {own : List (Str × Nat)} {mt : MT} {mi : MI} {mc : Option ME} {me : ME} (hc : X.calm = true) (hN : X.N.Nodup) (hy : X.N[i]? = some y) (hyl : X.env.scope.names.lookup y = some .local)
    (hsw : swapsWith (.ListComp elt [⟨tg, iter, ifs, 0⟩] scope pos) (some (.Name y py)) spos.line X.env = pure true) (ok : BlkOk X.N X.env.scope scope own) (hin : ∀ i, i ∉ own.map (·.2) → tgHas i mt = false) (hs : ∀ x, foldedSetIterable iter X.env x = pure x) (hi : PI X tg iter (tI X.K O mi))
    (hg : ∀ (s : Shared) (H : Hp) (C : Addr) (cl : List (Str × Addr)) (fp : List Addr), PG (X.blk s H scope (compEnvC scope cl C X.env) fp) tg (gB X.K mt)) (ht : ∀ (s : Shared) (H : Hp) (C : Addr) (cl : List (Str × Addr)) (fp : List Addr), PTs (X.blk s H scope (compEnvC scope cl C X.env) fp) ifs (tC X.K O mc))
    (he : ∀ (s : Shared) (H : Hp) (C : Addr) (cl : List (Str × Addr)) (fp : List Addr), PE (X.blk s H scope (compEnvC scope cl C X.env) fp) elt (tEv X.K O me)) : PS X (.Assign [.Name y py] (.ListComp elt [⟨tg, iter, ifs, 0⟩] scope pos) spos) (tSt X.K O (.asg (.nm i) (.lc me mt mi mc (own.map (·.2))))) :=
  PS.imp (ps_setLc hc hN hy hyl hsw hi ok hg ht he hs) fun D σ H h => by
    have q := set_end h
    exact lc_of (Q := fun v H1 => gName i v σ H1 D.nx) hin q
end
end Ev
set_option autoImplicit false
set_option linter.all false
set_option maxRecDepth 100000
/-! Stores to subscripts, append, two names at once, chains. -/
namespace Ev
open PySem L2 PyProof.Rows
def tS (K : PySem.W.Frag) (m : ME) : TE := fun σ H Q => ∃ env Z f p, RelE K H Z env σ f ∧ smp m env = some p ∧ ∀ v, Rp K H Z p v → Q v H
theorem ev_var_own {O : Orc} {i : Nat} {env : Env} (h : isOwn (gt env i) = true) : ev O (.var i) env = some (.vr i, env) := by
  unfold ev
  generalize gt env i = s at h
  cases s with
  | no => exact absurd h (by simp [isOwn])
  | lk r => exact absurd h (by simp [isOwn])
  | sl r => cases r with
    | val p => exact absurd h (by simp [isOwn])
    | lst _ => rfl
    | dct _ => rfl
theorem lst_own {s : Sl} (h : isLst s = true) : isOwn s = true := by
  cases s with
  | no => cases h
  | lk r => cases h
  | sl r => cases r <;> first | rfl | cases h
section
variable {X : Cx} {O : Orc} {pos p px pos' : Pos}
theorem s_varS {i : Nat} {x : Str} (hN : X.N[i]? = some x) (hv : Vis X.env.scope x) (hd : (x == ("__debug__" : Str)) = false) (hcd : (x == ("__classdict__" : Str)) = false) : PE X (.Name x pos) (tS X.K (.var i)) := by
  refine PE.imp (pe_var hN hv hd hcd) fun σ H Q ⟨env, Z, f, p, hE, he, k⟩ => ?_
  simp only [smp] at he
  split at he
  · rename_i q hg
    obtain rfl := Option.some.inj he
    obtain ⟨y, f1, g0, f2, e1, e2, e3, e4⟩ := hE.focus0 (i := i) (by rw [hg]; exact fun z => by cases z)
    rw [hg] at e2
    obtain ⟨v, rfl, _, hp⟩ := e2
    exact ⟨v, e1, k v hp⟩
  · cases he
theorem s_cstS {e : Expr} {p : PyData} {v : V} (h : PE X e (L2.tC v)) (hv : ∀ H Z, Rp X.K H Z p v) : PE X e (tS X.K (.cst p)) := by
  refine PE.imp h fun σ H Q ⟨env, Z, f, q, hE, he, k⟩ => ?_
  simp only [smp, Option.some.injEq] at he
  subst he
  exact k v (hv H Z)
theorem chg_of {i : Nat} {gf : R → Option R} {env env' : Env} (h : chg i gf env = some env') : ∃ u u', gt env i = .sl u ∧ gf u = some u' ∧ env' = st env i (.sl u') := by
  unfold chg at h
  split at h
  · rename_i u hg
    simp only [Option.bind_eq_some_iff, Option.some.injEq] at h
    obtain ⟨u', h1, h2⟩ := h
    exact ⟨u, u', hg, h1, h2.symm⟩
  · cases h
theorem s_app {x : Str} {e : Expr} {i : Nat} {m : ME} {apos cpos : Pos} (ho : PE X (.Name x px) (tEv X.K O (.var i))) (hs : noStar e = true) (he : PE X e (tEv X.K O m))
    (hbase : attributeBase (.Name x px) "append" X.env (eval (.Name x px) X.env) = eval (.Name x px) X.env)
    (hfew : ((backTo cpos (starEach [e] X.env)).all (fun x => !x.1) && (backToKw cpos (keywordEach [] X.env)).all (fun x => x.1.isSome) && decide ([e].length + ([] : List Keyword).length + (if ([] : List Keyword).isEmpty then 0 else 1) < 30)) = true)
    (hline : (apos.endLine == cpos.line) = true) (hsw : swapsWith (.Call (.Attribute (.Name x px) "append" apos) [e] [] cpos) none pos.line X.env = pure false) :
    PS X (.Expr (.Call (.Attribute (.Name x px) "append" apos) [e] [] cpos) pos) (tSt X.K O (.app i m)) := by
  refine PS.imp (ps_expr (pe_bm PySem.F.plainAttrs_list PySem.F.slot_list_append PySem.F.type_list_append mt_append ho (pa_cons he pa_nil (star_each hs [] _)) hbase hfew hline (star_each hs [] _) rfl) hsw) fun D σ H ⟨env, Z, f, fl, env', hE, ok, he, k⟩ => ?_
  simp only [ex] at he
  split at he
  case isFalse => cases he
  rename_i hl
  simp only [Option.bind_eq_some_iff, Option.some.injEq, Prod.mk.injEq] at he
  obtain ⟨x, hx, y, hy, e', hc, rfl, rfl⟩ := he
  refine ⟨env, Z, f, .vr i, env, hE, ok, ev_var_own (lst_own hl), fun v H1 Z1 f1 g1 P1 o1 => ?_⟩
  obtain ⟨hv, rfl⟩ := o1
  have ty : L2.tyV X.K "list" v H1 := by
    obtain ⟨x, fa, g0, fb, e1, e2, e3, e4⟩ := P1.rel.focus0 (i := i) (by intro z; rw [z] at hl; cases hl)
    cases hg : gt env i with
    | no => rw [hg] at hl; cases hl
    | lk r => rw [hg] at hl; cases hl
    | sl r => cases r with
      | val p => rw [hg] at hl; cases hl
      | dct _ => rw [hg] at hl; cases hl
      | lst rs =>
        rw [hg] at e2
        obtain ⟨v', rfl, a, vs, g, e, n, _⟩ := e2
        rw [hv] at e1
        obtain rfl := Option.some.inj (Option.some.inj e1)
        subst e
        exact .inl ⟨rfl, vs, .inl (.inl n)⟩
  refine ⟨ty, env, Z1, f1, x.1, x.2, P1.rel, P1.ok0, hx, fun w H2 Z2 f2 g2 P2 o2 => ?_⟩
  obtain ⟨f3, g3, P3, r3⟩ := Post.own (h := []) (by rw [List.append_nil]; exact P2) o2 (show Ev.own x.1 x.2 = some (y.1, y.2) from hy)
  rw [List.append_nil] at P3
  have P4 := P1.nil_seq P3
  obtain ⟨u, u', hg, hu, rfl⟩ := chg_of hc
  obtain ⟨v', g0, hv', hr, nd, sep, fin⟩ := P4.chg hg
  rw [hv] at hv'
  obtain rfl := Option.some.inj (Option.some.inj hv')
  cases u <;> simp only [addTo, reduceCtorEq] at hu
  rename_i rs
  split at hu
  · rename_i hlt
    obtain rfl := Option.some.inj hu
    obtain ⟨a, vs, gg, e, n, r1, q⟩ := hr
    subst q
    have ndg := List.nodup_append.mp nd
    have na := List.nodup_cons.mp ndg.1
    have keep : ∀ b x, b ≠ a → H2 b = some x → upd H2 a (.lst (vs ++ [w])) b = some x := fun b x hb e => by rw [upd_ne hb]; exact e
    have kz : ∀ b x, Z2 b → H2 b = some x → upd H2 a (.lst (vs ++ [w])) b = some x := fun b x z e => keep b x (fun q => sep a List.mem_cons_self (q ▸ z)) e
    have k1 := Rrs.mono kz (fun _ z => z) rs vs gg (fun b hb x e => keep b x (fun q => na.1 (q ▸ hb)) e) r1
    have k2 := Rr.mono kz (fun _ z => z) y.1 w g3 (fun b hb x e => keep b x (fun q => ndg.2.2 a List.mem_cons_self b hb q.symm) e) r3
    obtain ⟨f5, P5⟩ := fin a (.lst (vs ++ [w])) (.lst (rs ++ [y.1])) (a :: (gg ++ g3)) List.mem_cons_self ⟨a, vs ++ [w], gg ++ g3, e, upd_same, Rrs.snoc k1 k2, rfl⟩ (fun b hb => by
      rcases List.mem_cons.mp hb with z | z
      · subst z; exact .inl List.mem_cons_self
      · exact (List.mem_append.mp z).imp (List.mem_cons_of_mem _) id) nd
    exact ⟨a, vs, w, e, rfl, n, by rw [r1.len]; exact hlt, k σ _ _ _ P5.s⟩
  · cases hu
theorem s_six {x : Str} {ke e : Expr} {i : Nat} {mk m : ME} (hu : X.A.units + 1 < cLine) (ho : PE X (.Name x px) (tEv X.K O (.var i))) (hk : PE X ke (tEv X.K O mk)) (he : PE X e (tEv X.K O m))
    (ha : ∀ v, assign (.Subscript (.Name x px) ke pos') X.env v = (do
      let ov ← holding [v] (eval (.Name x px) X.env)
      let iv ← holding [v, ov] (eval ke X.env)
      standAt pos'
      holding [v, ov, iv] (setItem ov iv v)
      release [v, ov, iv] []))
    (hs : swapsWithSole [.Subscript (.Name x px) ke pos'] e pos.line X.env = pure false) (hw : swappedStores [.Subscript (.Name x px) ke pos'] e X.env = pure none) (h1 : (assignEach [.Subscript (.Name x px) ke pos'] X.env).map (·.2) = [assign (.Subscript (.Name x px) ke pos') X.env]) :
    PS X (.Assign [.Subscript (.Name x px) ke pos'] e pos) (tSt X.K O (.six i mk m)) := by
  refine PS.imp (ps_asg he (pg_sub ho hk (put_set hu) ha) hs hw h1) fun D σ H ⟨env, Z, f, fl, env', hE, ok, he, k⟩ => ?_
  simp only [ex, Option.bind_eq_some_iff] at he
  obtain ⟨x, hx, y, hy, he⟩ := he
  split at he
  case isFalse => cases he
  rename_i hl
  simp only [Option.bind_eq_some_iff, Option.some.injEq, Prod.mk.injEq] at he
  obtain ⟨z, hz, q, hq, e', hc, rfl, rfl⟩ := he
  refine ⟨env, Z, f, x.1, x.2, hE, ok, hx, fun w H1 Z1 f1 g1 P1 o1 => ?_⟩
  obtain ⟨f2, g2, P2, r2⟩ := Post.own (h := []) (by rw [List.append_nil]; exact P1) o1 (show Ev.own x.1 x.2 = some (y.1, y.2) from hy)
  rw [List.append_nil] at P2
  refine ⟨y.2, Z1, f2, .vr i, y.2, P2.rel, P2.ok.left, ev_var_own hl, fun v H3 Z3 f3 g3 P3 o3 => ?_⟩
  obtain ⟨hv, rfl⟩ := o3
  refine ⟨y.2, Z3, f3, z.1, z.2, P3.rel, P3.ok0, hz, fun ky H4 Z4 f4 g4 P4 o4 => ?_⟩
  obtain ⟨Z5, f5, P5, w5, z5⟩ := Post.vw (h := []) (by rw [List.append_nil]; exact P4) o4 (show view z.1 z.2 = some (q.1, q.2) from hq)
  have P6 := P3.nil_seq P5
  have r6 := P6.tr.rr P2.ok r2
  have P7 := P2.seq P6 (Rr.trk _ _ _ r2)
  rw [List.append_nil] at P7
  obtain ⟨u, u', hg, hu', rfl⟩ := chg_of hc
  obtain ⟨v', g0, hv', hr, nd, sep, fin⟩ := P7.chg hg
  rw [hv] at hv'
  obtain rfl := Option.some.inj (Option.some.inj hv')
  obtain ⟨a, o, g8, _, ain, put, r8, s8, n8⟩ := put_ok hr w5 r6 nd sep hu'
  obtain ⟨f9, P9⟩ := fin a o u' g8 ain r8 s8 n8
  exact put _ (k σ _ _ _ P9.s)
theorem s_six2 {x : Str} {ke ke' e : Expr} {i : Nat} {mk mk' m : ME} {p2 : Pos} (hu : X.A.units + 1 < cLine) (ho : PE X (.Name x px) (tEv X.K O (.var i))) (hk : PE X ke (tS X.K mk)) (hk' : PE X ke' (tS X.K mk')) (hpl : PlainIx ke) (hcon : ∀ env p, smp mk env = some p → smp mk env = some p) (he : PE X e (tEv X.K O m))
    (hvar : ∀ env p, smp mk' env = some p → isOwn (gt env i) = true → ev O (.var i) env = some (.vr i, env))
    (ha : ∀ v, assign (.Subscript (.Subscript (.Name x px) ke p2) ke' pos') X.env v = (do
      let ov ← holding [v] (eval (.Subscript (.Name x px) ke p2) X.env)
      let iv ← holding [v, ov] (eval ke' X.env)
      standAt pos'
      holding [v, ov, iv] (setItem ov iv v)
      release [v, ov, iv] []))
    (hs : swapsWithSole [.Subscript (.Subscript (.Name x px) ke p2) ke' pos'] e pos.line X.env = pure false) (hw : swappedStores [.Subscript (.Subscript (.Name x px) ke p2) ke' pos'] e X.env = pure none) (h1 : (assignEach [.Subscript (.Subscript (.Name x px) ke p2) ke' pos'] X.env).map (·.2) = [assign (.Subscript (.Subscript (.Name x px) ke p2) ke' pos') X.env]) :
    PS X (.Assign [.Subscript (.Subscript (.Name x px) ke p2) ke' pos'] e pos) (tSt X.K O (.six2 i mk mk' m)) := by
  refine PS.imp (ps_asg he (pg_sub (pe_ix ix_list ho hk hpl) hk' (put_set hu) ha) hs hw h1) fun D σ H ⟨env, Z, f, fl, env', hE, ok, he, k⟩ => ?_
  simp only [ex, Option.bind_eq_some_iff, Option.some.injEq, Prod.mk.injEq] at he
  obtain ⟨x, hx, y, hy, q, hq, q', hq', e', hc, rfl, rfl⟩ := he
  refine ⟨env, Z, f, x.1, x.2, hE, ok, hx, fun w H1 Z1 f1 g1 P1 o1 => ?_⟩
  obtain ⟨f2, g2, P2, r2⟩ := Post.own (h := []) (by rw [List.append_nil]; exact P1) o1 (show Ev.own x.1 x.2 = some (y.1, y.2) from hy)
  rw [List.append_nil] at P2
  obtain ⟨u, u', hg, hu', rfl⟩ := chg_of hc
  have hown : isOwn (gt y.2 i) = true := by
    rw [hg]
    cases u with
    | val p => simp only [onAt, reduceCtorEq] at hu'
    | lst _ => rfl
    | dct _ => rfl
  refine ⟨y.2, Z1, f2, .vr i, y.2, P2.rel, P2.ok.left, ev_var_own hown, fun v H3 Z3 f3 g3 P3 o3 => ?_⟩
  obtain ⟨hv, rfl⟩ := o3
  have r6 := P3.tr.rr P2.ok r2
  have P7 := P2.seq P3 (Rr.trk _ _ _ r2)
  rw [List.append_nil] at P7
  refine ⟨y.2, Z3, f3, q, P3.rel, hq, fun ky hky => ?_⟩
  obtain ⟨v', g0, hv', hr, nd, sep, fin⟩ := P7.chg hg
  rw [hv] at hv'
  obtain rfl := Option.some.inj (Option.some.inj hv')
  obtain ⟨a, vs, ix, r, r', vj, gj, e1, e2, e3, e4, e5, e6, e7, e8, e9⟩ := on_ok (g := g2) hr hky.vw (Rr.trk _ _ _ r6) nd sep hu'
  refine ⟨a, vs, ix, vj, e1, e3, .inl (.inl e2), e4, y.2, Z3, f3, q', P3.rel, hq', fun ky' hky' => ?_⟩
  obtain ⟨b, o, g8, _, bin, put, r8, s8, n8⟩ := put_ok e5 hky'.vw r6 e7 (fun c hc => sep c (e8 c hc)) e6
  obtain ⟨g9, r9, s9, n9⟩ := e9 b o g8 bin r8 s8 n8
  obtain ⟨f9, P9⟩ := fin b o u' g9 (e8 b bin) r9 s9 n9
  exact put _ (k σ _ _ _ P9.s)
/-! two names at once -/
theorem bindR_nm {i : Nat} {r : R} {env e : Env} (h : bindR (.nm i) r env = some e) : e = st env i (.sl r) := by
  simp only [bindR] at h
  split at h
  · cases h
  · exact (Option.some.inj h).symm
theorem PostS.put {K : PySem.W.Frag} {σ σ1 : L2.St} {P : Nat → Bool} {H H1 : Hp} {Z Z1 : AP} {f f1 g h : List Addr} {env1 : Env} {i : Nat} {r : R} {v : V} (p : PostS K σ σ1 P H Z f env1 H1 Z1 f1 (g ++ h)) (hr : Rr K H1 Z1 r v g) (hp : ∀ j, P j = false → i ≠ j) : ∃ f2, PostS K σ (σ1.set i (some v)) P H Z f (st env1 i (.sl r)) H1 Z1 f2 h := by
  obtain ⟨f2, h1, h2, h3⟩ := p.rel.put i (s' := .sl r) (x' := some v) (g' := g) ⟨v, rfl, hr⟩
  have nd := p.ok.nd
  have n1 := List.nodup_append.mp nd
  have n2 := List.nodup_append.mp n1.2.1
  refine ⟨f2, h1, Ok.mk3 ⟨h3 (List.nodup_append.mpr ⟨n1.1, n2.1, fun a ha b hb => n1.2.2 a ha b (List.mem_append_left _ hb)⟩), fun a ha => (h2 a ha).elim (fun q => p.ok.sep a (List.mem_append_left _ q)) fun q => p.ok.sep a (List.mem_append_right _ (List.mem_append_left _ q)), p.ok.trk⟩ n2.2.1 (fun a ha => p.ok.sep a (List.mem_append_right _ (List.mem_append_right _ ha))) fun a ha hb => ?_, p.tr.weak fun a ha => ?_, fun j hj => (List.getElem?_set_ne (hp j hj)).trans (p.out j hj)⟩
  · rcases h2 a ha with q | q
    · exact n1.2.2 a q a (List.mem_append_right _ hb) rfl
    · exact n2.2.2 a q a hb rfl
  · rcases List.mem_append.mp ha with q | q
    · exact (h2 a q).elim (List.mem_append_left _) fun q => List.mem_append_right _ (List.mem_append_left _ q)
    · exact List.mem_append_right _ (List.mem_append_right _ q)
theorem s_par {i j : Nat} {x y : Str} {a b : Expr} {ma mb : ME} {py pt : Pos} {kt k2 : Nat} {pt2 : Pos} (hc : X.calm = true) (hN : X.N.Nodup) (hi : X.N[i]? = some x) (hj : X.N[j]? = some y) (hij : i ≠ j)
    (hx : X.env.scope.names.lookup x = some .local) (hy : X.env.scope.names.lookup y = some .local) (hw : swappedStores [.Tuple [.Name x px, .Name y py] kt pt] (.Tuple [a, b] k2 pt2) X.env = pure (some [x, y]))
    (hs : swapsWithSole [.Tuple [.Name x px, .Name y py] kt pt] (.Tuple [a, b] k2 pt2) pos.line X.env = pure false) (ha : PA X [a, b] (tAs X.K O [ma, mb])) :
    PS X (.Assign [.Tuple [.Name x px, .Name y py] kt pt] (.Tuple [a, b] k2 pt2) pos) (tSt X.K O (.par [i, j] [ma, mb])) := by
  refine PS.imp (ps_par hc hN hi hj hij hx hy ha hw hs) fun D σ H ⟨env, Z, f, fl, env', hE, ok, he, k⟩ => ?_
  simp only [ex, Option.bind_eq_some_iff, Option.some.injEq, Prod.mk.injEq] at he
  obtain ⟨x, hx, y, hy, e', hb, rfl, rfl⟩ := he
  refine ⟨env, Z, f, x.1, x.2, hE, ok, hx, fun vs H1 Z1 f1 g1 P1 o1 => ?_⟩
  obtain ⟨f2, g2, P2, r2⟩ := Post.owns (h := []) (by rw [List.append_nil]; exact P1) o1 (show Ev.owns x.1 x.2 = some (y.1, y.2) from hy)
  rw [List.append_nil] at P2
  obtain ⟨y1, y2⟩ := y
  match y1, hb, r2 with
  | [r, r'], hb, r2 =>
    obtain ⟨v, w, ga, gb, rfl, h1, ⟨v', w', gc, gd, rfl, h2, ⟨rfl, rfl⟩, e3⟩, e4⟩ := r2
    subst e4
    rw [List.append_nil] at e3
    subst e3
    simp only [bindRs, Option.bind_eq_some_iff, Option.some.injEq] at hb
    obtain ⟨ea, hb1, eb, hb2, rfl⟩ := hb
    refine ⟨v, v', rfl, ?_⟩
    have ne1 : ∀ t, asn t (.par [i, j] [ma, mb]) = false → i ≠ t ∧ j ≠ t := fun t ht => by
      simp only [asn, List.contains_cons, List.contains_nil, Bool.or_false, Bool.or_eq_false_iff, beq_eq_false_iff_ne] at ht
      exact ⟨fun e => ht.1 e.symm, fun e => ht.2 e.symm⟩
    obtain rfl := bindR_nm hb1
    obtain rfl := bindR_nm hb2
    obtain ⟨f3, P3⟩ := P2.s.put (P := fun t => asn t (.par [i, j] [ma, mb])) (i := i) h1 fun t ht => (ne1 t ht).1
    obtain ⟨f4, P4⟩ := PostS.put (h := []) (by rw [List.append_nil]; exact P3) (i := j) h2 fun t ht => (ne1 t ht).2
    exact k _ _ _ _ P4
  | [], hb, _ => simp only [bindRs, reduceCtorEq] at hb
  | [_], hb, _ => simp [bindRs] at hb
  | _ :: _ :: _ :: _, hb, _ => simp [bindRs] at hb
end
end Ev
set_option autoImplicit false
set_option linter.all false
set_option maxRecDepth 100000
/-! Chains of comparisons; names, tests. -/
namespace Ev
open PySem L2 PyProof.Rows
section
variable {X : Cx} {O : Orc} {pos : Pos}
theorem chain_of {K : PySem.W.Frag} {o o' : Cop} {ma mb mc : ME} {σ : L2.St} {H : Hp} {Q : VK} (h : tEv K O (.cmp2 o o' ma mb mc) σ H Q) :
    tChain (rV K fun p q => (cmpop o p q).map fun b => .val (.bool b)) (rV K fun p q => (cmpop o' p q).map fun b => .val (.bool b)) (tEv K O ma) (tEv K O mb) (tEv K O mc) σ H Q := by
  obtain ⟨env, Z, f, o', env', hE, ok, he, k⟩ := h
  simp only [ev, Option.bind_eq_some_iff] at he
  obtain ⟨x, hx, y, hy, p, hp, q, hq, r, hr, he⟩ := he
  obtain ⟨q1, q2⟩ := q
  split at he
  case isTrue => cases he
  rename_i hi
  have hint : ∃ j, q1 = .int j := by
    cases q1 <;> first | exact ⟨_, rfl⟩ | exact absurd rfl hi
  obtain ⟨j, rfl⟩ := hint
  refine ⟨env, Z, f, x.1, x.2, hE, ok, hx, fun v1 H1 Z1 f1 g1 P1 o1 => ⟨x.2, Z1, f1, y.1, y.2, P1.rel, P1.ok.left, hy, fun v2 H2 Z2 f2 g2 P2 o2 => ?_⟩⟩
  have P := P1.seq P2 o1.trk
  have o1' := P2.tr.ro P1.ok o1
  obtain ⟨Z3, f3, P3, w1, z3⟩ := P.vw o1' (show view x.1 y.2 = some (p.1, p.2) from hp)
  have o2' := o2.mono (fun _ _ _ e => e) z3 (fun _ _ _ e => e)
  obtain ⟨Z4, f4, P4, w2, z4⟩ := Post.vw (h := []) (by rw [List.append_nil]; exact P3) o2' (show view y.1 p.2 = some (.int j, q2) from hq)
  refine ⟨Z4, p.1, .int j, .val (.bool r), P4.ok.trk, w1.mono (fun _ _ e => e) z4, w2, by show Option.map _ (cmpop o p.1 (.int j)) = _; rw [show cmpop o p.1 (.int j) = some r from hr]; rfl, fun z H5 Z5 g5 N => ⟨r, N.rep.2, ?_⟩⟩
  obtain ⟨e5, hz⟩ := N.rep
  subst e5
  have P5 := P4.new N
  cases r with
  | false =>
    simp only [Bool.false_eq_true, if_false, Option.some.injEq, Prod.mk.injEq] at he
    obtain ⟨rfl, rfl⟩ := he
    exact iteF (k _ _ _ _ _ P5 ⟨rfl, rfl⟩)
  | true =>
    simp only [if_true, Option.bind_eq_some_iff, Option.some.injEq, Prod.mk.injEq] at he
    obtain ⟨u, hu, s, hs, r', hr', rfl, rfl⟩ := he
    refine iteT ⟨q2, Z5, f4, u.1, u.2, P5.rel, P5.ok0, hu, fun v3 H6 Z6 f6 g6 P6 o6 => ?_⟩
    have P7 := P5.nil_seq P6
    obtain ⟨Z8, f8, P8, w8, z8⟩ := Post.vw (h := []) (by rw [List.append_nil]; exact P7) o6 (show view u.1 u.2 = some (s.1, s.2) from hs)
    exact ⟨Z8, .int j, s.1, .val (.bool r'), P8.ok.trk, w2, w8, by show Option.map _ (cmpop o' (.int j) s.1) = _; rw [show cmpop o' (.int j) s.1 = some r' from hr']; rfl, fun z H' Z' g N => k z H' Z' f8 g (P8.new N) N.rep⟩
theorem s_cmp2 {a b c : Expr} {ma mb mc : ME} (o o' : Cop) (hu : X.A.units + 65 < cLine) (hm : lastMarks [copOf o, copOf o'] [b, c] = false) (ha : PE X a (tEv X.K O ma)) (hb : PE X b (tEv X.K O mb)) (hc : PE X c (tEv X.K O mc)) : PE X (.Compare a [copOf o, copOf o'] [b, c] pos) (tEv X.K O (.cmp2 o o' ma mb mc)) :=
  PE.imp (pe_chain (or_cmp o hu) (or_cmp o' hu) ha hb hc hm) fun σ H Q h => chain_of h
/-- a value's test, from its reading -/
theorem tts_ev {K : PySem.W.Frag} {m : ME} {σ : L2.St} {H : Hp} {Q : Bool → Hp → Prop} (h : tTs K O m σ H Q) : tEv K O m σ H fun v H1 => ∃ k, v = .bl k ∧ Q k H1 := by
  obtain ⟨env, Z, f, b, env', hE, ok, hb, k⟩ := h
  obtain ⟨x, hx, hv⟩ := evB_of hb
  refine ⟨env, Z, f, x.1, x.2, hE, ok, hx, fun v H' Z' f' g P o => ?_⟩
  obtain ⟨Z2, f2, P2, w, _⟩ := Post.vw (h := []) (by rw [List.append_nil]; exact P) o (show view x.1 x.2 = some (.bool b, env') from hv)
  exact ⟨b, w, k _ _ _ P2⟩
theorem t_cmp2 {a b c : Expr} {ma mb mc : ME} (o o' : Cop) (hu : X.A.units + 65 < cLine) (hm : lastMarks [copOf o, copOf o'] [b, c] = false) (ha : PE X a (tEv X.K O ma)) (hb : PE X b (tEv X.K O mb)) (hc : PE X c (tEv X.K O mc)) : PT X (.Compare a [copOf o, copOf o'] [b, c] pos) (tTs X.K O (.cmp2 o o' ma mb mc)) :=
  PT.imp (pt_chain (or_cmp o hu) (or_cmp o' hu) ha hb hc hm) fun σ H Q h => chain_of (tts_ev h)
theorem vis_by {sc : Scope} {x : Str} (h : (match sc.names.lookup x with | some .local => true | some .cell => true | some .free => true | _ => false) = true) : Vis sc x := by
  revert h
  unfold Vis
  cases sc.names.lookup x with
  | none => simp
  | some k => cases k <;> simp
theorem loc_by {sc : Scope} {x : Str} (h : (match sc.names.lookup x with | some .local => true | some .cell => true | _ => false) = true) : L2.Loc sc x := by
  revert h
  unfold L2.Loc
  cases sc.names.lookup x with
  | none => simp
  | some k => cases k <;> simp
end
end Ev
set_option autoImplicit false
set_option linter.all false
set_option maxRecDepth 100000
/-! A def by its evaluation. -/
namespace Ev
open PySem L2 PyProof.Rows
section
variable {K : PySem.W.Frag} {H H' : Hp} {Z Z' : AP}
theorem rel_none : ∀ n : Nat, RelE K H Z (List.replicate n Sl.no) (List.replicate n none) []
  | 0 => ⟨rfl, rfl⟩
  | n + 1 => ⟨none, List.replicate n none, [], [], rfl, rfl, rel_none n, rfl⟩
theorem rel_start (n : Nat) : ∀ {rs : List R} {vs : List V} {g : List Addr}, Rrs K H Z rs vs g → RelE K H Z (rs.map Sl.sl ++ List.replicate n Sl.no) (vs.map some ++ List.replicate n none) g
  | [], _, _, ⟨e, q⟩ => by subst e; subst q; exact rel_none n
  | r :: rs, _, _, ⟨v, w, g1, g2, e, h1, h2, q⟩ => by
    subst e; subst q
    exact ⟨some v, w.map some ++ List.replicate n none, g1, g2, rfl, ⟨v, rfl, h1⟩, rel_start n h2, rfl⟩
def outsL : Env → List R → List (Option R)
  | _, [] => []
  | [], _ :: rs => none :: outsL [] rs
  | s :: e, r :: rs => (if isVal r then none else match s with | .sl r' => some r' | _ => none) :: outsL e rs
theorem gt_drop : ∀ (e : Env) (i : Nat), gt e i = (e.drop i).head?.getD .no
  | [], i => by cases i <;> rfl
  | s :: e, 0 => rfl
  | s :: e, i + 1 => gt_drop e i
theorem outs_eq (env : Env) : ∀ (rs : List R) (i : Nat), outsOf env i rs = outsL (env.drop i) rs
  | [], i => by simp [outsOf, outsL]
  | r :: rs, i => by
    simp only [outsOf]
    rw [outs_eq env rs (i + 1), gt_drop]
    cases h : env.drop i with
    | nil =>
      have : env.drop (i + 1) = [] := by
        have q := List.drop_eq_nil_iff.mp h
        exact List.drop_eq_nil_of_le (by omega)
      rw [this]
      simp [outsL]
    | cons s e =>
      have : env.drop (i + 1) = e := by rw [← List.drop_drop, h]; rfl
      rw [this]
      rfl
def Hd : List R → List V → L2.St → Prop
  | [], _, _ => True
  | r :: rs, vs, σ => ∃ v w, vs = v :: w ∧ (∀ x, σ.head? = some x → isVal r = false → x = some v) ∧ Hd rs w σ.tail
theorem outs_ok : ∀ {rs : List R} {vs : List V} {e : Env} {σ : L2.St} {f : List Addr}, RelE K H Z e σ f → Hd rs vs σ → ∃ go, Routs K H Z (outsL e rs) vs go ∧ go.Sublist f
  | [], vs, e, σ, f, _, _ => ⟨[], by simp [outsL, Routs], List.nil_sublist _⟩
  | r :: rs, _, [], σ, f, ⟨q, q2⟩, ⟨v, w, rfl, k, hd⟩ => by
    subst q; subst q2
    obtain ⟨go, r1, r2⟩ := outs_ok (e := []) (σ := []) (f := []) ⟨rfl, rfl⟩ hd
    exact ⟨go, ⟨v, w, [], go, rfl, rfl, r1, rfl⟩, r2⟩
  | r :: rs, _, s :: e, _, _, ⟨y, τ', g, h, q, h1, h2, z⟩, ⟨v, w, rfl, k, hd⟩ => by
    subst z; subst q
    obtain ⟨go, r1, r2⟩ := outs_ok h2 hd
    by_cases hv : isVal r = true
    · exact ⟨go, ⟨v, w, [], go, rfl, by simp [hv], r1, rfl⟩, r2.trans (List.sublist_append_right _ _)⟩
    · have hv' : isVal r = false := by simpa using hv
      cases s with
      | no => exact ⟨go, ⟨v, w, [], go, rfl, by simp [hv'], r1, rfl⟩, r2.trans (List.sublist_append_right _ _)⟩
      | lk r' => exact ⟨go, ⟨v, w, [], go, rfl, by simp [hv'], r1, rfl⟩, r2.trans (List.sublist_append_right _ _)⟩
      | sl r' =>
        obtain ⟨v', e2, hr⟩ := h1
        rw [k _ rfl hv'] at e2
        obtain rfl := Option.some.inj e2
        exact ⟨g ++ go, ⟨v, w, g, go, rfl, by simpa [hv'] using hr, r1, rfl⟩, List.Sublist.append (List.Sublist.refl _) r2⟩
theorem hd_of {body : List MS} {σ : L2.St} : ∀ {rs : List R} {vs : List V} {i : Nat} {τ : L2.St}, handOk body i rs = true → vs.length = rs.length → (∀ j, asns j body = false → σ[j]? = τ[j]?) → (∀ j v, vs[j]? = some v → τ[i + j]? = some (some v)) → Hd rs vs (σ.drop i)
  | [], _, _, _, _, _, _, _ => trivial
  | r :: rs, [], i, τ, h, hl, _, _ => by simp at hl
  | r :: rs, v :: vs, i, τ, h, hl, hu, hv => by
    simp only [handOk, Bool.and_eq_true, Bool.or_eq_true, Bool.not_eq_true'] at h
    simp only [List.length_cons] at hl
    have ih := hd_of (σ := σ) (i := i + 1) (τ := τ) h.2 (show vs.length = rs.length by omega) hu (fun j w hw => by
      have := hv (j + 1) w (by simpa using hw)
      rw [show i + 1 + j = i + (j + 1) by omega]
      exact this)
    refine ⟨v, vs, rfl, fun x hx hn => ?_, by rw [List.tail_drop]; exact ih⟩
    rcases h.1 with q | q
    · rw [q] at hn; cases hn
    · have e1 := hu i q
      have e2 := hv 0 v rfl
      rw [Nat.add_zero] at e2
      rw [List.head?_drop] at hx
      rw [e2, hx] at e1
      exact Option.some.inj e1
end
theorem s_dct0 {X : Cx} {O : Orc} {pos : Pos} : PE X (.Dict [] [] pos) (tEv X.K O (.dct [])) := by
  refine PE.imp pe_dnewK fun σ H Q ⟨env, Z, f, o, env', hE, ok, he, k⟩ => ?_
  simp only [ev, evP, Option.bind_some, Option.some.injEq, Prod.mk.injEq] at he
  obtain ⟨rfl, rfl⟩ := he
  intro p hp
  have P0 := Post.refl hE ok
  have keep : ∀ b x, H b = some x → upd H p (.dK []) b = some x := fun b x e => upd_keep hp e
  have N : New X.K H Z (.dct []) (.ref p) (upd H p (.dK [])) Z [p] := ⟨keep, fun _ h => h, fun _ h => .inl h, ⟨p, [], [], rfl, ⟨[], upd_same, rfl⟩, ⟨rfl, rfl⟩, rfl⟩, ⟨by simp, fun a ha z => by rw [List.mem_singleton.mp ha] at z; exact ok.trk p z hp, fun a z => by
    cases e : H a with
    | none => exact absurd e (ok.trk a z)
    | some o => rw [keep a o e]; exact fun q => by cases q⟩, fun a ha => by rw [List.mem_singleton.mp ha]; exact hp⟩
  exact k _ _ _ _ _ (P0.new N) N.rep
section
variable {P : Program} {w : World} {K : PySem.W.Frag} {mg : Str → Option Value} {base : Heap}
theorem fn_zero {T : List Dfn} {wh : WhT} {k j : Nat} {f : Addr} {fd : FuncData} {ps : List Str} : FnOk P w K mg base CX0 k f fd ps (spF K ⟨callN T wh 0, wh⟩ j ps.length) :=
  ⟨fun vs H Q E h => h.1, fun A outer s H args us vs Q E _ _ _ _ h => by
    obtain ⟨_, Z, g, rs, r, outs, _, _, h, _⟩ := h
    simp only [callN, reduceCtorEq] at h⟩
theorem room_u {k : Nat} {A : Around} (r : Room k A) : A.units + 70 < cLine := by have := r.un; omega
theorem def_ok {x qual : Str} {st : Stmt} {f : Addr} {fd : FuncData} {N ps : List Str} {T : List Dfn} {wh : WhT} {n j : Nat} {d : Dfn} (F : FunD K x qual (defArgs st) (defBody st) (defScope st) [] [] f fd) (S : FnScope N ps (defScope st)) (hT : T[j]? = some d) (hnp : d.np = ps.length) (hns : d.ns = N.length) (hle : ps.length ≤ N.length)
    (hbody : ∀ (cdv : Value) (A : Around) (outer : List PySem.Env) (s : Shared) (H : Hp) (E : XK), Room n (A.deeper (envOfC qual (defScope st) s.heap.objs.size f cdv)) → PSs (cxOf CX0 P w K mg base N qual (defScope st) f cdv A outer s H E).nox (defBody st) (tSts K ⟨callN T wh n, wh⟩ d.body)) :
    FnOk P w K mg base CX0 (n + 1) f fd ps (spF K ⟨callN T wh (n + 1), wh⟩ j ps.length) := by
  refine F.ok S (fun vs H Q E h => h.1) fun cdv A outer s H vs Q E hr h => ⟨_, PSs.nox (hbody cdv A outer s H E hr), ?_⟩
  obtain ⟨hl, Z, g, rs, r, outs, hrs, ok, hc, k⟩ := h
  simp only [callN, hT, Option.bind_some] at hc
  split at hc
  case isFalse => cases hc
  rename_i hh
  obtain ⟨hlen, hand⟩ := hh
  simp only [Option.bind_eq_some_iff, Option.some.injEq, Prod.mk.injEq] at hc
  obtain ⟨x, hx, r', hr', rfl, rfl⟩ := hc
  have hvl := hrs.len
  have E0 : RelE K H Z (enter d rs) (L2.start N vs) g := by
    have q := rel_start (N.length - vs.length) hrs
    unfold enter L2.start
    rw [hns, hnp, ← hl]
    exact q
  have slen : (L2.start N vs).length = N.length := by
    unfold L2.start
    rw [List.length_append, List.length_map, List.length_replicate]
    omega
  have fin : ∀ {σ' : L2.St} {H' : Hp} {Z' : AP} {f' : List Addr} {g' : List Addr}, PostS K (L2.start N vs) σ' (fun i => asns i d.body) H Z g x.2 H' Z' f' g' → ∃ go, Tr H Z g H' Z' (go ++ g') ∧ Ok H' Z' (go ++ g') ∧ Routs K H' Z' (outsOf x.2 0 rs) vs go := fun {σ' H' Z' f' g'} p => by
    have hd : Hd rs vs (σ'.drop 0) := hd_of (τ := L2.start N vs) hand hvl (fun i hi => p.out i hi) (fun i v hv => by
      rw [Nat.zero_add]
      unfold L2.start
      have hi : i < vs.length := (List.getElem?_eq_some_iff.mp hv).1
      rw [List.getElem?_append_left (by rw [List.length_map]; exact hi), List.getElem?_map, hv]; rfl)
    rw [List.drop_zero] at hd
    obtain ⟨go, r1, r2⟩ := outs_ok p.rel hd
    rw [outs_eq, List.drop_zero]
    exact ⟨go, p.tr.weak fun a ha => (List.mem_append.mp ha).elim (fun q => List.mem_append_left _ (r2.subset q)) (List.mem_append_right _), p.ok.subl (List.Sublist.append r2 (List.Sublist.refl _)), r1⟩
  refine ⟨enter d rs, Z, g, x.1, x.2, E0, ok, hx, ?_⟩
  obtain ⟨x1, x2⟩ := x
  cases x1 with
  | brk => simp only [answer, reduceCtorEq] at hr'
  | cnt => simp only [answer, reduceCtorEq] at hr'
  | nx =>
    simp only [answer, Option.some.injEq] at hr'
    subst hr'
    intro σ' H' Z' f' p
    obtain ⟨go, h1, h2, h3⟩ := fin p
    exact k .non H' Z' go [] h1 h2 ⟨rfl, rfl⟩ h3
  | ret r0 =>
    simp only [answer, Option.some.injEq] at hr'
    subst hr'
    intro σ' v H' Z' f' g' p hr0
    obtain ⟨go, h1, h2, h3⟩ := fin p
    exact k v H' Z' go g' h1 h2 hr0 h3
end
end Ev
namespace Ev
open PySem L2 PyProof.Rows
/-- the law's own call -/
theorem sp_top {K : PySem.W.Frag} {cf : Nat → List R → Option (R × List (Option R))} {wh : WhT} {j : Nat} {ns : List Int} {a : Addr} {H : Hp} {E : XK} (hS : SqL K H a (ns.map V.int)) (hex : ∃ outs, cf j [.val (.list (ns.map .int))] = some (.val (.bool true), outs)) : spF K ⟨cf, wh⟩ j 1 [.ref a] H (fun v _ => v = .bl true) E := by
  obtain ⟨outs, hc⟩ := hex
  have fin : ∀ Z : AP, (∀ b, Z b → H b ≠ none) → NL K H Z a (ns.map V.int) → spF K ⟨cf, wh⟩ j 1 [.ref a] H (fun v _ => v = .bl true) E := fun Z hz n =>
    ⟨rfl, Z, [], [.val (.list (ns.map .int))], .val (.bool true), outs, ⟨.ref a, [], [], [], rfl, ⟨rfl, a, ns.map V.int, rfl, n, rps_ints ns⟩, ⟨rfl, rfl⟩, rfl⟩, ⟨List.nodup_nil, (fun _ h => absurd h List.not_mem_nil), hz⟩, hc, fun v H' Z' go gr _ _ hr _ => hr.2⟩
  rcases hS with h | h
  · refine fin (fun b => b = a) (fun b hb => ?_) (.inl ⟨rfl, h⟩)
    subst hb
    rcases h with h | ⟨o, h⟩ <;> rw [h] <;> exact fun z => by cases z
  · exact fin (fun _ => False) (fun _ h => h.elim) (.inr (.inr h))
end Ev
set_option autoImplicit false
set_option linter.all false
set_option maxRecDepth 100000
/-! set of a list of numbers, sorted(set(l)). -/
namespace Ev
open PySem PySem.Spec L2 PyProof.Rows
/-- the set as it is made, without a member -/
abbrev sNew (w : World) : Obj := { cls := .type "set", dict := none, data := .set #[] 0 (.fresh 0 0 (!w.params.followText "set-order")) }
section
variable {P : Program} {w : World} {A : Around} {E : Value → Shared → Prop} {s : Shared} {l : Addr} {its : Array Value} {ns : List Int}
/-- what is so of the state behind set(l) -/
def SAft (w : World) (s : Shared) (ns : List Int) (t : Shared) : Prop :=
  ∃ (hp : Heap) (tk c : Nat), t = { s with heap := hp, toks := tk } ∧ SetR w hp s.heap.objs.size (fun j => decide (j ∈ ns)) c ∧ c ≤ ns.length ∧ ∀ b o, s.heap.get? b = some o → hp.get? b = some o
set_option maxHeartbeats 3200000 in
theorem call_setL {Q : Value → Shared → Prop} (hh : A.handled = none) (hl : s.heap.IsList l its) (hi : IntsAre its.toList ns) (hb : ns.length + 1 < scanBound) (h : ∀ t, SAft w s ns t → Q (.ref s.heap.objs.size) t) :
    wpAny (model P w) A (call (.type "set") [.ref l]) Q E s := by
  have ⟨c, tl, k1⟩ := F.called_set.mro
  have k2 := F.called_set.made
  have k3 := F.called_set.sub
  refine wpAny_call (codeAny_of_tree (show wpAny _ _ (callAny (.type "set") _) _ _ _ from wpAny_pure ⟨Code.quiet_builtin _ (by decide +kernel), codeAny_builtin F.entry_type_call ?_⟩))
  rw [Around.under_plain (weight_type_call_type "set" [.ref l] []) rfl]
  have k4 := F.called_set.notType; have k5 := F.called_set.canCreate; have k6 := F.typeCall_set_1 (.ref l)
  repeat (any_goals (first | assumption | wp_step))
  refine codeAny_mono (code_set_led1 (.ref l) (E := E) (Q₁ := fun r t => r = .ref s.heap.objs.size ∧ t = { s with heap := s.heap.push (sNew w) }) ⟨rfl, rfl⟩) fun r t hr => ?_
  match r, hr with
  | .error e, hr => exact hr
  | .ok (.ret r), hr =>
    obtain ⟨rfl, rfl⟩ := hr
    have n0 : (s.heap.push (sNew w)).get? s.heap.objs.size = some (sNew w) := Heap.get?_push_size _ rfl
    have hT : Shared.TypeIs { s with heap := s.heap.push (sNew w) } (.ref s.heap.objs.size) "set" := ⟨_, n0, rfl⟩
    have k7 := F.called_set.init.lookup; have k8 := F.called_set.init.bind (.ref s.heap.objs.size)
    repeat (any_goals (first | assumption | wp_step))
    refine codeAny_mono (codeAny_call_builtin (R := wants (fun r t => r = .none ∧ SAft w s ns t) E) F.called_set.init.plain F.entry_set_init (check_set_init_1 hT ?_)) fun r2 t2 hr2 => ?_
    · obtain ⟨⟨cl, dc, da, sl⟩, o1, rfl, nn, rfl⟩ := hl
      have e1 : (s.heap.push (sNew w)).get? l = some { cls := .type "list", dict := dc, data := .seq its nn, slots := sl } := Heap.get?_push_of_some _ o1
      have e2 : (s.heap.push (sNew w)).IsList l its := ⟨_, e1, rfl, nn, rfl⟩
      have f1 := F.sub_list_set; have f2 := F.sub_list_frozenset
      have f3 : (Value.type "list" == Value.type "dict") = false := by decide
      unfold Builtin.«set.__init__» noKeywords Builtin.Frozenset.updateFrom
      generalize hG : pyIter = G
      wp_walk
      subst hG
      refine wpAny_pyIter_list e2 (wpAny_bind (wpAny_runValue ?_))
      have lt : l < s.heap.objs.size := Heap.lt_size o1
      have sz : (s.heap.push (sNew w)).objs.size = s.heap.objs.size + 1 := Heap.size_push ..
      have d1 : l ≠ (s.heap.push (sNew w)).objs.size := fun z => Nat.lt_irrefl _ (Nat.lt_of_lt_of_le (Nat.lt_succ_of_lt lt) (Nat.le_of_eq (sz.symm.trans z.symm)))
      have d2 : s.heap.objs.size ∉ [(s.heap.push (sNew w)).objs.size, l] := by
        intro z
        rcases List.mem_cons.mp z with z | z
        · exact Nat.ne_of_lt (Nat.lt_succ_self _) (z.trans sz)
        · exact Nat.ne_of_gt lt (List.mem_singleton.mp z)
      have len : its.size = ns.length := (Array.length_toList (xs := its)).symm.trans (IntsAre.length hi)
      refine set_update_ints ((Walks.list (by simp [hh]) _ l d1 its).toS) s.heap.objs.size d2 ns len hb (fun i v e => ?_) (its.size - 0) 0 _ (by omega) (Nat.zero_le _) ⟨⟨_, Heap.get?_push_size _ rfl, rfl, rfl⟩, e2.push _⟩ ⟨0, Nat.le_refl 0, setR_new_at (Heap.get?_push_of_some _ n0)⟩ fun t c m le R => ?_
      · have lt2 : i < ns.length := len ▸ (Array.getElem?_eq_some_iff.mp e).1
        obtain ⟨tk, q⟩ := IntsAre.int_at hi i v ((Array.getElem?_toList ..).trans e)
        exact ⟨ns[i], tk, List.getElem?_eq_getElem lt2, by rw [q, List.getD_eq_getElem?_getD, List.getElem?_eq_getElem lt2]; rfl⟩
      · obtain ⟨hp, gs, dr, tk, os⟩ := t
        obtain rfl : gs = s.gens := m.gens
        obtain rfl : dr = s.drawn := m.drawn
        obtain rfl : os = s.os := m.os
        refine wpAny_pure (show wpAny _ _ (ret Value.none) _ _ _ from wpAny_pure ⟨rfl, hp, tk, c, rfl, R, len ▸ le, fun b o q => ?_⟩)
        have lt3 := Heap.lt_size q
        refine m.heap b o (fun z => ?_) (Heap.get?_push_of_some _ (Heap.get?_push_of_some _ q))
        rcases List.mem_cons.mp z with z | z
        · exact Nat.ne_of_lt lt3 z
        · exact Nat.ne_of_lt (Nat.lt_succ_of_lt lt3) ((List.mem_singleton.mp z).trans sz)
    · match r2, hr2 with
      | .error e, hr2 => exact hr2
      | .ok (.ret r), hr2 =>
        obtain ⟨rfl, q⟩ := hr2
        obtain ⟨hp, tk, c', rfl, q1, q2, q3⟩ := q
        repeat (any_goals (first | assumption | wp_step))
        exact h _ ⟨hp, tk, c', rfl, q1, q2, q3⟩
      | .ok .next, hr2 => exact hr2.elim
      | .ok .brk, hr2 => exact hr2.elim
      | .ok .cont, hr2 => exact hr2.elim
  | .ok .next, hr => exact hr.elim
  | .ok .brk, hr => exact hr.elim
  | .ok .cont, hr => exact hr.elim
end
end Ev
set_option autoImplicit false
set_option linter.all false
set_option maxRecDepth 100000
/-! Sets: how many numbers; sets of tuples of numbers, sorted. -/
namespace Ev
open PySem PySem.Spec L2 PyProof.Rows
/-! ### the order of rows -/
theorem lt_total {a b : List Int} (h : ¬ a < b) (h' : ¬ b < a) : a = b := List.le_antisymm (List.not_lt.mp h') (List.not_lt.mp h)
theorem mem_insT {a k : List Int} : ∀ {bs : List (List Int)}, k ∈ insT a bs ↔ k = a ∨ k ∈ bs
  | [] => by simp [insT]
  | b :: bs => by
    simp only [insT]
    split
    · simp
    · split
      · rename_i h; subst h; simp
      · simp only [List.mem_cons, mem_insT (bs := bs)]
        constructor
        · rintro (h | h | h)
          · exact .inr (.inl h)
          · exact .inl h
          · exact .inr (.inr h)
        · rintro (h | h | h)
          · exact .inr (.inl h)
          · exact .inl h
          · exact .inr (.inr h)
theorem insT_pw {a : List Int} : ∀ {bs : List (List Int)}, bs.Pairwise (· < ·) → (insT a bs).Pairwise (· < ·)
  | [], _ => by simp [insT]
  | b :: bs, h => by
    rw [List.pairwise_cons] at h
    simp only [insT]
    split
    · rename_i hi
      rw [List.pairwise_cons, List.pairwise_cons]
      refine ⟨fun k hk => ?_, h⟩
      rcases List.mem_cons.mp hk with rfl | hk
      · exact hi
      · exact List.lt_trans hi (h.1 k hk)
    · split
      · rw [List.pairwise_cons]; exact h
      · rename_i h1 h2
        rw [List.pairwise_cons]
        refine ⟨fun k hk => ?_, insT_pw h.2⟩
        rcases mem_insT.mp hk with rfl | hk
        · exact Classical.byContradiction fun h3 => h2 (lt_total h1 h3)
        · exact h.1 k hk
theorem mem_setT {k : List Int} : ∀ {ls : List (List Int)}, k ∈ setT ls ↔ k ∈ ls
  | [] => by simp [setT]
  | a :: as => by rw [setT, mem_insT, mem_setT, List.mem_cons]
theorem setT_pw : ∀ ls : List (List Int), (setT ls).Pairwise (· < ·)
  | [] => by simp [setT]
  | a :: as => insT_pw (setT_pw as)
/-- rows that rise, with the same members, are the same -/
theorem rows_eq {l m : List (List Int)} (hl : l.Pairwise (· < ·)) (hm : m.Pairwise (· < ·)) (h : ∀ k, k ∈ l ↔ k ∈ m) : l = m := by
  have ne : ∀ a b : List Int, a < b → a ≠ b := fun a b h e => List.lt_irrefl b (e ▸ h)
  refine List.Perm.eq_of_pairwise (le := fun a b => a < b) (fun a b _ _ h1 h2 => absurd h2 (List.lt_asymm h1)) hl hm ?_
  exact (List.perm_ext_iff_of_nodup (hl.imp fun h => ne _ _ h) (hm.imp fun h => ne _ _ h)).mpr h
theorem le_rows : PySem.W.dataLe false (fun q : Addr × List Int => tupD q.2) = fun p q => !decide (q.2 < p.2) := by
  rw [PySem.W.dataLe_eq]
  funext p q
  show (!PySem.W.dataLt (tupD q.2) (tupD p.2)) = _
  rw [tupD, tupD, PySem.W.dataLt_tuple]
  show (!PySem.W.rowLt (q.2.map .int) (p.2.map .int)) = _
  rw [PySem.W.dataLt_ints]
/-! ### how many -/
theorem set_many {w : World} {h : Heap} {a : Addr} {ns : List Int} {c : Nat} (R : SetR w h a (fun j => decide (j ∈ ns)) c) : c = (setI ns).length := by
  obtain ⟨o, es, ep, t, ho, hx, hd, g, nd, hm, hb, hf, hn, _⟩ := R
  have p : (es.toList.map keyOf).Perm (setI ns) := (List.perm_ext_iff_of_nodup nd (setI_lt.imp fun h => by omega)).mpr fun k => by
    rw [← hm k, setI_mem]
    simp
  rw [← hn, ← p.length_eq, List.length_map, Array.length_toList]
section
variable {X : Cx}
def NumsAt (K : PySem.W.Frag) (H : Hp) (p : Addr) (ns : List Int) : Prop := SqT K H p (ns.map V.int) ∨ SqL K H p (ns.map V.int)
theorem cb_setL (hc : X.calm = true) : CallR X (.type "set") (fun xs H Q => ∃ (p : Addr) (ns : List Int), xs = [.ref p] ∧ NumsAt X.K H p ns ∧ ns.length ≤ 4000 ∧
  ∀ l, H l = none → Q (.ref l) (upd H l (SetO X.w l (fun j => decide (j ∈ ns)) (setI ns).length))) := by
  intro pins s σ H xs us Q I r h
  obtain ⟨p, ns, rfl, hq, hn, k⟩ := h
  rw [Vals.ref1 r]
  rcases hq with hq | hq
  · obtain ⟨its, r', pl, hz⟩ := I.tuple hq
    refine call_set_tupI (P := X.prog) (w := X.w) ns (I.ok.hd hc) pl (Vals.ints r') (by unfold scanBound; omega) fun h' tk c R hcn kp => ?_
    obtain rfl := set_many R
    exact ⟨.ref s.heap.objs.size, _, I.laid (t' := tk) kp (Nat.le_refl _) (setO_new R), rfl, k _ (I.hok.fresh (Nat.le_refl _))⟩
  · obtain ⟨its, r', pl, hz⟩ := I.list hq
    refine call_setL (P := X.prog) (w := X.w) (I.ok.hd hc) pl.isList (Vals.ints r') (by unfold scanBound; omega) fun t ⟨hp, tk, c, e, R, hcn, kp⟩ => ?_
    subst e
    obtain rfl := set_many R
    exact ⟨.ref s.heap.objs.size, _, I.laid (t' := tk) kp (Nat.le_refl _) (setO_new R), rfl, k _ (I.hok.fresh (Nat.le_refl _))⟩
theorem cb_lenSet : CallR X (.builtin "len") (fun xs H Q => ∃ (a : Addr) (n : Nat), xs = [.ref a] ∧ ((∃ S, H a = some (SetO X.w a S n)) ∨ ∃ L, H a = some (SetTO X.prog X.w a L) ∧ (∀ p ∈ L, SqT X.K H p.1 (p.2.map V.int)) ∧ ((L.map (·.2)).Nodup → L.length = n)) ∧ n < 4096 ∧ Q (.int n) H) := by
  intro pins s σ H xs us Q I r h
  obtain ⟨a, n, rfl, hS, hn, q⟩ := h
  rw [Vals.ref1 r]
  rcases hS with ⟨S, hS⟩ | ⟨L, hS, ht, hl⟩
  · obtain ⟨o, es, ep, t, ho, hex, hd, _, _, _, _, hf, he, _⟩ := setO_get I hS
    exact call_len_set ho hex hd hf (by rw [he]; omega) ⟨.int n, H, I.tok _, ⟨_, by rw [he]⟩, q⟩
  · obtain ⟨es, ep, t, R⟩ := SetT0.full (show SetT0 X.prog X.w s.heap a L from (I.hok a _ hS).1) fun p hp => I.isT (ht p hp)
    obtain ⟨o, ho, hex, hd⟩ := R.ob
    have he := R.size
    have hl := hl R.nd
    exact call_len_set ho hex hd R.fits (by rw [he]; omega) ⟨.int n, H, I.tok _, ⟨_, by rw [he, hl]⟩, q⟩
/-- sorted(set) of tuples of numbers, of any lengths -/
theorem cb_sortSetT (hc : X.calm = true) (hu : X.A.units + 70 < cLine) : CallR X (.builtin "sorted") (fun vs H Q => ∃ (a : Addr) (L : List (Addr × List Int)), vs = [V.ref a] ∧ H a = some (SetTO X.prog X.w a L) ∧ (∀ p ∈ L, SqT X.K H p.1 (p.2.map V.int)) ∧
    ∀ (L' : List (Addr × List Int)) (p : Addr), (∀ q, q ∈ L' ↔ q ∈ L) → L'.length < 64 → (L'.map (·.2)).Pairwise (· < ·) → H p = none → Q (.ref p) (upd H p (.lst (L'.map fun q => V.ref q.1)))) := by
  intro pins s σ H vs us Q I r h
  obtain ⟨a, L, rfl, ha, hk, q⟩ := h
  have R0 : SetT0 X.prog X.w s.heap a L := (I.hok a _ ha).1
  obtain ⟨es, ep, t, R⟩ := R0.full fun p hp => I.isT (hk p hp)
  rw [Vals.ref1 r]
  have hh := I.ok.hd hc
  obtain ⟨o, ho, hex, hd⟩ := R.ob
  have hsz := R.size
  have hfew := R.few
  refine Calls.call_function_entry kind_sorted plain_sorted entry_sorted (args_sorted1 _) ?_
  unfold Builtin.«sorted»
  refine wpAny_bind (m := checkCount "sorted" 1 1 _) (wpAny_pure ?_)
  refine wpAny_bind (collect_set (A := X.A.in1) hh ⟨o, ho, hex.1, hd⟩ R.fits (by unfold scanBound; omega) R.tab.ris R.led fun s1 vs k1 hz g1 o1 pm => ?_)
  have hes : es.toList.map (·.2) = L.map fun q => Value.ref q.1 := by
    rw [R.rows]
    unfold rowsOf
    rw [List.map_map] <;> rfl
  rw [hes] at pm
  have ord : ∀ vs : List Value, (∀ v ∈ vs, ∃ q ∈ L, v = Value.ref q.1) → ∃ L1 : List (Addr × List Int), vs = L1.map (fun q => Value.ref q.1) ∧ ∀ q ∈ L1, q ∈ L := by
    intro vs
    induction vs with
    | nil => intro _; exact ⟨[], rfl, fun q hq => (by cases hq)⟩
    | cons v vs ih =>
      intro hv
      obtain ⟨q, hq, e⟩ := hv v List.mem_cons_self
      obtain ⟨L1, e1, hs⟩ := ih fun u hu => hv u (List.mem_cons_of_mem _ hu)
      refine ⟨q :: L1, by rw [List.map_cons, e, e1], fun r hr => ?_⟩
      rcases List.mem_cons.mp hr with z | z
      · rw [z]; exact hq
      · exact hs r z
  have one : ∀ q ∈ L, ∀ r ∈ L, q.1 = r.1 → q = r := fun q hq r hr e => by
    have a1 := R.tup q hq
    have a2 := R.tup r hr
    rw [e] at a1
    have e2 : q.2 = r.2 := a1.inj a2
    exact Prod.ext e e2
  obtain ⟨L1, e1, hs1⟩ := ord vs fun v hv => by
    obtain ⟨q, hq, e⟩ := List.mem_map.mp (pm.mem_iff.mp hv)
    exact ⟨q, hq, e.symm⟩
  have hvl : vs.length < 64 := by rw [pm.length_eq, List.length_map]; exact hfew
  have hl1 : L1.length = vs.length := by rw [e1, List.length_map]
  have perm : L1.Perm L := by
    rw [e1] at pm
    have nL : L.Nodup := nodup_of_map R.nd
    have nref : (L.map fun q => Value.ref q.1).Nodup := by
      refine List.pairwise_map.mpr (List.Pairwise.imp_of_mem (fun {q r} hq hr hne e => ?_) nL)
      injection e with e
      exact hne (one q hq r hr e)
    have n1 : L1.Nodup := nodup_of_map (pm.nodup_iff.mpr nref)
    refine (List.perm_ext_iff_of_nodup n1 nL).mpr fun q => ⟨hs1 q, fun hq => ?_⟩
    have hm : Value.ref q.1 ∈ L1.map (fun q => Value.ref q.1) := pm.mem_iff.mpr (List.mem_map.mpr ⟨q, hq, rfl⟩)
    obtain ⟨r, hr, e⟩ := List.mem_map.mp hm
    injection e with e
    rw [← one r (hs1 r hr) q hq e]
    exact hr
  refine wpAny_bind (wpAny_newList ?_ (by rw [sizeLine_eq]; omega))
  have hoL : (s1.heap.push (seqObj "list" vs.toArray 0)).get? s1.heap.objs.size = some (seqObj "list" vs.toArray 0) := Heap.get?_push_size _ rfl
  have rd : ∀ q ∈ L, Reads (s1.heap.push (seqObj "list" vs.toArray 0)) (.ref q.1) (tupD q.2) [] := fun q hq => by
    obtain ⟨b, xs, e, ⟨o, ho, hc, n, hd⟩, i⟩ := tupInts_of (P := X.prog) (w := X.w) (isT_keep (R.tup q hq) fun b u e => Heap.get?_push_of_some (seqObj "list" vs.toArray 0) (k1 b u e))
    injection e with e
    subst e
    refine Reads.tuple ho hc hd ?_
    generalize xs.toList = l at i
    generalize q.2 = ns at i
    induction i with
    | nil => exact .nil
    | cons n t _ ih => exact .cons (as := []) (.int _ _) ih
  have e2 : ∀ l : List (Addr × List Int), (∀ q ∈ l, q ∈ L) → PySem.W.EachIs (fun v (q : Addr × List Int) => v = Value.ref q.1 ∧ ∃ as, Reads (s1.heap.push (seqObj "list" vs.toArray 0)) v (tupD q.2) as ∧ s1.heap.objs.size ∉ as) (l.map fun q => Value.ref q.1) l := fun l => by
    induction l with
    | nil => intro _; exact .nil
    | cons q l ih => intro h; exact .cons ⟨rfl, [], rd q (h q List.mem_cons_self), List.not_mem_nil⟩ (ih fun r hr => h r (List.mem_cons_of_mem _ hr))
  have E2 := e2 L1 hs1
  rw [← e1] at E2
  have eb : ∀ {us : List Value} {l : List (Addr × List Int)}, PySem.W.EachIs (fun v (q : Addr × List Int) => v = Value.ref q.1) us l → us = l.map fun q => Value.ref q.1 := fun {us l} h => by
    induction h with
    | nil => rfl
    | cons h _ ih => rw [List.map_cons, h, ih]
  refine wpAny_bind (wpAny_holding (list_sort_any (s := { s1 with heap := s1.heap.push (seqObj "list" vs.toArray 0) }) (enc := fun q : Addr × List Int => tupD q.2) (bs := L1) (R := fun v q => v = Value.ref q.1) hoL (E2.mono fun _ _ h => h.1) (E2.mono fun _ _ h => h.2)
    (PySem.W.AllAlike.of fun b b' => by show PySem.W.alike (.tuple _) (.tuple _) = true; rw [PySem.W.alike]; exact PySem.W.alike_ints _ _) (.inl fun d hd => by obtain ⟨q, _, rfl⟩ := List.mem_map.mp hd; exact ⟨_, rfl⟩) (by rw [hl1, sizeLine_eq]; omega) (fun b _ => ?_) fun out hol a1 => ?_))
  · show X.A.in1.units + 1 + (PyData.tuple _).depth < cLine
    have : X.A.in1.units = X.A.units + 1 := rfl
    rw [this, PyData.depth, PySem.W.depth_ints]
    omega
  have eo := eb a1
  rw [le_rows] at eo
  obtain ⟨c, hc⟩ := sortedHeap_at (vs := vs) (out := out.toArray) hoL
  have pL : (L1.mergeSort fun p q => !decide (q.2 < p.2)).Perm L := (List.mergeSort_perm _ _).trans perm
  have pw : ((L1.mergeSort fun p q => !decide (q.2 < p.2)).map (·.2)).Pairwise (· < ·) := by
    have h1 := List.pairwise_mergeSort (le := fun p q : Addr × List Int => !decide (q.2 < p.2)) (fun x y z h1 h2 => by
      simp only [Bool.not_eq_true', decide_eq_false_iff_not] at h1 h2 ⊢
      exact List.not_lt.mpr (List.le_trans (List.not_lt.mp h1) (List.not_lt.mp h2))) (fun x y => by
      simp only [Bool.or_eq_true, Bool.not_eq_true', decide_eq_false_iff_not]
      exact (List.le_total x.2 y.2).imp List.not_lt.mpr List.not_lt.mpr) L1
    have h2 := (pL.map (·.2)).nodup_iff.mpr R.nd
    rw [List.Nodup, List.pairwise_map] at h2
    rw [List.pairwise_map]
    refine (h1.and h2).imp fun {x y} h => ?_
    have h3 := h.1
    simp only [Bool.not_eq_true', decide_eq_false_iff_not] at h3
    exact Classical.byContradiction fun h4 => h.2 (lt_total h4 h3)
  refine wpAny_pure ⟨_, rfl, ?_⟩
  have k : ∀ b u, s.heap.get? b = some u → (sortedHeap (s1.heap.push (seqObj "list" vs.toArray 0)) s1.heap.objs.size vs out.toArray).get? b = some u := fun b u e => by
    have q := k1 b u e
    have hlt := Heap.lt_size q
    rw [sortedHeap_old (Nat.ne_of_lt hlt) (by rw [size_push']; exact Nat.lt_succ_of_lt hlt)]
    exact Heap.get?_push_of_some _ q
  generalize hL' : (L1.mergeSort fun p q => !decide (q.2 < p.2)) = L' at eo pL pw
  have hfew : L'.length < 64 := by rw [pL.length_eq]; exact R.few
  have hlen : (L'.map fun q => V.ref q.1).length ≤ sizeLine := by rw [List.length_map, sizeLine_eq]; omega
  have hn : H s1.heap.objs.size = none := I.hok.fresh hz
  have hv : Vals (L'.map fun q => V.ref q.1) out := by rw [eo]; exact vals_of_refs L'
  have J : Inv X pins σ (upd H s1.heap.objs.size (.lst (L'.map fun q => V.ref q.1))) { s with heap := sortedHeap (s1.heap.push (seqObj "list" vs.toArray 0)) s1.heap.objs.size vs out.toArray, gens := s1.gens, drawn := s1.drawn, toks := s1.toks } :=
    I.call (ch := []) (Un.laid k hz hn) (I.hok.laid k hz ⟨hlen, out, c, hv, hc⟩) (by rw [g1]; exact I.bare) (fun _ z => nomatch z)
  have e : ({ s1 with heap := sortedHeap (s1.heap.push (seqObj "list" vs.toArray 0)) s1.heap.objs.size vs out.toArray } : Shared) = { s with heap := sortedHeap (s1.heap.push (seqObj "list" vs.toArray 0)) s1.heap.objs.size vs out.toArray, gens := s1.gens, drawn := s1.drawn, toks := s1.toks } := by
    cases s1
    cases s
    cases o1
    rfl
  rw [e]
  exact ⟨.ref s1.heap.objs.size, _, J, rfl, q L' s1.heap.objs.size (fun q => pL.mem_iff) hfew pw hn⟩
end
end Ev
set_option autoImplicit false
set_option linter.all false
set_option maxRecDepth 100000
/-! sorted(set(l)); append to an item; pop, extend; while. -/
namespace Ev
open PySem L2 PyProof.Rows
section
variable {X : Cx} {O : Orc} {pos p px : Pos} {e : Expr}
def rSetE (X : Cx) : List V → Hp → VK → Prop := fun xs H Q => (∃ (p : Addr) (ns : List Int), xs = [.ref p] ∧ NumsAt X.K H p ns ∧ ns.length ≤ 4000 ∧ ∀ l, H l = none → Q (.ref l) (upd H l (SetO X.w l (fun j => decide (j ∈ ns)) (setI ns).length))) ∨ rSetOfT X.K X.prog X.w xs H Q
theorem cb_setE (hc : X.calm = true) (hu : X.A.units + 70 < cLine) : CallR X (.type "set") (rSetE X) := fun pins s σ H xs us Q I r h => by
  rcases h with h | h
  · exact cb_setL hc pins s σ H xs us Q I r h
  · exact cr_setOfT hc (by omega) pins s σ H xs us Q I r h
def rSortE (X : Cx) : List V → Hp → VK → Prop := fun xs H Q => rSortedSet X.w xs H Q ∨ ∃ (a : Addr) (L : List (Addr × List Int)), xs = [V.ref a] ∧ H a = some (SetTO X.prog X.w a L) ∧ (∀ p ∈ L, SqT X.K H p.1 (p.2.map V.int)) ∧
    ∀ (L' : List (Addr × List Int)) (p : Addr), (∀ q, q ∈ L' ↔ q ∈ L) → L'.length < 64 → (L'.map (·.2)).Pairwise (· < ·) → H p = none → Q (.ref p) (upd H p (.lst (L'.map fun q => V.ref q.1)))
theorem cb_sortE (hc : X.calm = true) (hu : X.A.units + 70 < cLine) : CallR X (.builtin "sorted") (rSortE X) := fun pins s σ H xs us Q I r h => by
  rcases h with h | h
  · exact cr_sortedSet hc pins s σ H xs us Q I r h
  · exact cb_sortSetT hc hu pins s σ H xs us Q I r h
theorem tups_rps {K : PySem.W.Frag} {H : Hp} {Z : AP} : ∀ {ds : List PyData} {vs : List V} {ls : List (List Int)}, Rps K H Z ds vs → tupsOf ds = some ls → ∃ ks : List (Addr × List Int), vs = ks.map (fun q => V.ref q.1) ∧ ls = ks.map (·.2) ∧ ∀ q ∈ ks, Rp K H Z (tupD q.2) (.ref q.1) ∧ SqT K H q.1 (q.2.map V.int)
  | [], _, ls, h, e => by
    simp only [tupsOf, Option.some.injEq] at e
    subst e
    exact ⟨[], h, rfl, by simp⟩
  | d :: ds, _, ls, ⟨v, w, ev, h1, h2⟩, e => by
    cases d <;> simp only [tupsOf, reduceCtorEq] at e
    rename_i xs
    simp only [Option.bind_eq_some_iff, Option.map_eq_some_iff] at e
    obtain ⟨is, e1, l2, e2, rfl⟩ := e
    obtain ⟨ks, q1, q2, q3⟩ := tups_rps h2 e2
    subst ev
    have hx : xs = is.map .int := by
      clear h1 e2 q2 q1
      induction xs generalizing is with
      | nil => simp only [intsOf, Option.some.injEq] at e1; subst e1; rfl
      | cons x xs ih =>
        cases x <;> simp only [intsOf, reduceCtorEq] at e1
        simp only [Option.map_eq_some_iff] at e1
        obtain ⟨js, e3, rfl⟩ := e1
        rw [ih js e3]; rfl
    obtain ⟨a, vs, ea, n, w1⟩ := id h1
    subst ea
    have ev2 := ints_vs w1 e1
    subst ev2
    refine ⟨(a, is) :: ks, by rw [q1]; rfl, by rw [q2]; rfl, fun q hq => ?_⟩
    rcases List.mem_cons.mp hq with rfl | hq
    · refine ⟨?_, n.sq⟩
      rw [hx] at h1
      exact h1
    · exact q3 q hq
theorem rps_tups {K : PySem.W.Frag} {H : Hp} {Z : AP} : ∀ (L : List (Addr × List Int)), (∀ q ∈ L, Rp K H Z (tupD q.2) (.ref q.1)) → Rps K H Z (L.map fun q => tupD q.2) (L.map fun q => V.ref q.1)
  | [], _ => rfl
  | q :: L, h => ⟨_, _, rfl, h q List.mem_cons_self, rps_tups L fun r hr => h r (List.mem_cons_of_mem _ hr)⟩
/-- a set at a new place changes nothing that is told -/
theorem new_set {K : PySem.W.Frag} {H1 : Hp} {Z2 : AP} {l : Addr} {o : HO} (hz : Stood H1 Z2) (hl0 : H1 l = none) : New K H1 Z2 (.val .none) .non (upd H1 l o) Z2 [] :=
  ⟨fun a o e => upd_keep hl0 e, fun _ h => h, fun _ h => .inl h, ⟨rfl, rfl⟩, ⟨List.nodup_nil, (fun _ h => absurd h List.not_mem_nil), fun a z => by
    cases e : H1 a with
    | none => exact absurd e (hz a z)
    | some o => rw [upd_keep hl0 e]; exact fun q => by cases q⟩, fun _ h => absurd h List.not_mem_nil⟩
theorem sqt_keep {K : PySem.W.Frag} {H : Hp} {a l : Addr} {o : HO} {vs : List V} (hl0 : H l = none) (h : SqT K H a vs) : SqT K (upd H l o) a vs := by
  rcases h with h | h
  · exact .inl (Rd.same h fun o q => upd_keep hl0 q)
  · exact .inr h
/-- set(e) for a reader k of the set -/
theorem set_then {m : ME} {σ : L2.St} {H : Hp} {Q : VK} {k : V → Hp → Prop} {o : Bi} (ho : o = .sset ∨ o = .lset) (h : tEv X.K O (.bi o [m]) σ H Q)
    (hi : ∀ (H1 : Hp) (Z2 : AP) (l : Addr) (is : List Int) (r : R), (setI is).length < 64 → H1 l = none → Stood H1 Z2 → (o = .sset → r = vals ((setI is).map .int)) → (o = .lset → r = int (setI is).length) → (∀ (v : V) (H2 : Hp) (Z3 : AP) (f : List Addr), New X.K (upd H1 l (SetO X.w l (fun j => decide (j ∈ is)) (setI is).length)) Z2 r v H2 Z3 f → Q v H2) → k (.ref l) (upd H1 l (SetO X.w l (fun j => decide (j ∈ is)) (setI is).length)))
    (ht : ∀ (H1 : Hp) (Z2 : AP) (l : Addr) (L : List (Addr × List Int)) (ls : List (List Int)) (r : R), H1 l = none → Stood H1 Z2 → (∀ q ∈ L, Rp X.K (upd H1 l (SetTO X.prog X.w l L)) Z2 (tupD q.2) (.ref q.1) ∧ SqT X.K (upd H1 l (SetTO X.prog X.w l L)) q.1 (q.2.map V.int)) → (∀ k, k ∈ L.map (·.2) ↔ k ∈ ls) → ls.length < 64 → (o = .sset → r = vals ((setT ls).map tupD)) → (o = .lset → r = int (setT ls).length) → (∀ (v : V) (H2 : Hp) (Z3 : AP) (f : List Addr), New X.K (upd H1 l (SetTO X.prog X.w l L)) Z2 r v H2 Z3 f → Q v H2) → k (.ref l) (upd H1 l (SetTO X.prog X.w l L))) :
    tAs X.K O [m] σ H fun xs H1 => rSetE X xs H1 k := by
  obtain ⟨env, Z, f, o', env', hE, ok, he, kk⟩ := h
  simp only [ev, Option.bind_eq_some_iff, Option.some.injEq, Prod.mk.injEq] at he
  obtain ⟨x, hx, y, hy, r, hr, rfl, rfl⟩ := he
  refine ⟨env, Z, f, x.1, x.2, hE, ok, hx, fun vs H1 Z1 f1 g1 P1 o1 => ?_⟩
  obtain ⟨Z2, f2, P2, w, _⟩ := Post.vws (h := []) (by rw [List.append_nil]; exact P1) o1 (show views x.1 x.2 = some (y.1, y.2) from hy)
  obtain ⟨y1, y2⟩ := y
  have hz : Stood H1 Z2 := P2.ok.trk
  have fin : ∀ (a : Addr) (is : List Int), vs = [.ref a] → NumsAt X.K H1 a is → is.length ≤ 4000 → (setI is).length < 64 → (o = .sset → r = vals ((setI is).map .int)) → (o = .lset → r = int (setI is).length) → rSetE X vs H1 k := fun a is ea q1 hl hl2 er er2 =>
    .inl ⟨a, is, ea, q1, hl, fun l hl0 => hi H1 Z2 l is r hl2 hl0 hz er er2 fun v H2 Z3 f3 N => kk _ _ _ _ _ ((P2.new (new_set hz hl0)).new N) N.rep⟩
  match y1, w, hr with
  | [p], w, hr =>
    obtain ⟨v, rfl, hp⟩ := w.one
    cases p
    case tuple ds =>
      obtain ⟨a, vs, e, n, w⟩ := hp
      have q1 := n.sq
      rcases ho with rfl | rfl
      all_goals
        simp only [biop, Option.bind_eq_some_iff] at hr
        obtain ⟨is, e1, hr⟩ := hr
        rw [ints_vs w e1] at q1
        split at hr
        · rename_i hl
          exact fin a is (by rw [e]) (.inl q1) hl.1 hl.2 (fun q => by first | exact (Option.some.inj hr).symm | cases q) (fun q => by first | exact (Option.some.inj hr).symm | cases q)
        · cases hr
    case list ds =>
      obtain ⟨a, vs, e, n, w⟩ := hp
      have hs : ∃ es, setp ds = some es ∧ (o = .sset → r = vals es) ∧ (o = .lset → r = int es.length) := by
        rcases ho with rfl | rfl
        · simp only [biop, Option.map_eq_some_iff] at hr
          obtain ⟨es, h1, h2⟩ := hr
          exact ⟨es, h1, fun _ => h2.symm, fun q => by cases q⟩
        · simp only [biop, Option.map_eq_some_iff] at hr
          obtain ⟨es, h1, h2⟩ := hr
          exact ⟨es, h1, fun q => (by cases q), fun _ => h2.symm⟩
      obtain ⟨es, h1, h2, h3⟩ := hs
      unfold setp at h1
      split at h1
      · rename_i is e1
        split at h1
        · rename_i hl
          obtain rfl := Option.some.inj h1
          rw [ints_vs w e1] at n
          rw [List.length_map] at h3
          exact fin a is (by rw [e]) (.inr n) hl.1 hl.2 h2 h3
        · cases h1
      · simp only [Option.bind_eq_some_iff] at h1
        obtain ⟨ls, e1, h1⟩ := h1
        split at h1
        · rename_i hl
          obtain rfl := Option.some.inj h1
          obtain ⟨ks, g1', g2', g3'⟩ := tups_rps w e1
          subst g1'
          rw [List.length_map] at h3
          refine .inr ⟨a, ks, by rw [e], n, fun p hp => (g3' p hp).2, by rw [g2', List.length_map] at hl; exact hl, fun l L hl0 hs1 hs2 => ?_⟩
          refine ht H1 Z2 l L ls r hl0 hz (fun q hq => ?_) (fun x => ?_) hl h2 h3 fun v H2 Z3 f3 N => kk _ _ _ _ _ ((P2.new (new_set hz hl0)).new N) N.rep
          · have g := g3' q (hs1 q hq)
            exact ⟨Rp.mono (fun a o _ e => upd_keep hl0 e) (fun _ z => z) _ _ g.1, sqt_keep hl0 g.2⟩
          · rw [g2']
            constructor
            · intro hx
              obtain ⟨q, hq, rfl⟩ := List.mem_map.mp hx
              exact List.mem_map_of_mem (hs1 q hq)
            · intro hx
              obtain ⟨q, hq, rfl⟩ := List.mem_map.mp hx
              exact hs2 q hq
        · cases h1
    all_goals (exfalso; rcases ho with rfl | rfl <;> simp only [biop, reduceCtorEq] at hr)
  | [], _, hr => exfalso; rcases ho with rfl | rfl <;> cases hr
  | _ :: _ :: _, _, hr => exfalso; rcases ho with rfl | rfl <;> simp only [biop, reduceCtorEq] at hr
/-- sorted(set(e)) -/
theorem s_sset {m : ME} {p' pos' : Pos} (hu : X.A.units + 70 < cLine) (hc : X.calm = true) (hg : Gl X "sorted") (hm : X.mg "sorted" = none) (hg' : Gl X "set") (hm' : X.mg "set" = none) (hs : noStar e = true) (ha : PA X [e] (tAs X.K O [m])) :
    PE X (.Call (.Name "sorted" p) [.Call (.Name "set" p') [e] [] pos'] [] pos) (tEv X.K O (.bi .sset [m])) := by
  have h1 := pe_callTy (pos := pos') (p := p') (cb_setE hc hu) hg' hm' (by rfl) ha (by decide) (by decide) (star_each hs [] _) (by rfl)
  refine PE.imp (pe_callB (cb_sortE hc hu) hg hm (by rfl) (pa_cons h1 pa_nil) (by decide) (by decide)) fun σ H Q h => ?_
  refine set_then (.inl rfl) h (fun H1 Z2 l is r hl hl0 hz er _ k => .inl ⟨l, _, _, rfl, upd_same, hl, fun ns q hs hm' hn hq => ?_⟩) fun H1 Z2 l L ls r hl0 hz hL hmem hl er _ k => .inr ⟨l, L, rfl, upd_same, fun q hq => (hL q hq).2, fun L' q hmem' hlen hpw hq => ?_⟩
  · have e3 : ns = setI is := lt_uniq hs setI_lt fun k => by rw [hm' k, setI_mem]; simp
    subst e3
    have N0 := (new_set (K := X.K) (o := SetO X.w l (fun j => decide (j ∈ is)) (setI is).length) hz hl0)
    obtain rfl := er rfl
    exact k _ _ _ _ (New.lst (K := X.K) (fun a z => N0.ok.trk a z) hq (rps_ints (setI is)))
  · have e3 : L'.map (·.2) = setT ls := rows_eq hpw (setT_pw ls) fun k => by
      rw [mem_setT, ← hmem]
      simp only [List.mem_map, hmem']
    have N0 := (new_set (K := X.K) (o := SetTO X.prog X.w l L) hz hl0)
    obtain rfl := er rfl
    have e4 : (setT ls).map tupD = L'.map fun q => tupD q.2 := by rw [← e3, List.map_map]; rfl
    rw [e4] at k
    exact k _ _ _ _ (New.lst (K := X.K) (fun a z => N0.ok.trk a z) hq (rps_tups L' fun q hq => (hL q ((hmem' q).mp hq)).1))
/-- len(set(e)) -/
theorem s_lset {m : ME} {p' pos' : Pos} (hu : X.A.units + 70 < cLine) (hc : X.calm = true) (hg : Gl X "len") (hm : X.mg "len" = none) (hg' : Gl X "set") (hm' : X.mg "set" = none) (hs : noStar e = true) (ha : PA X [e] (tAs X.K O [m])) :
    PE X (.Call (.Name "len" p) [.Call (.Name "set" p') [e] [] pos'] [] pos) (tEv X.K O (.bi .lset [m])) := by
  have h1 := pe_callTy (pos := pos') (p := p') (cb_setE hc hu) hg' hm' (by rfl) ha (by decide) (by decide) (star_each hs [] _) (by rfl)
  refine PE.imp (pe_callB cb_lenSet hg hm (by rfl) (pa_cons h1 pa_nil) (by decide) (by decide)) fun σ H Q h => ?_
  refine set_then (.inr rfl) h (fun H1 Z2 l is r hl hl0 hz _ er k => ⟨l, _, rfl, .inl ⟨_, upd_same⟩, by omega, ?_⟩) fun H1 Z2 l L ls r hl0 hz hL hmem hl _ er k => ?_
  · have N0 := (new_set (K := X.K) (o := SetO X.w l (fun j => decide (j ∈ is)) (setI is).length) hz hl0)
    obtain rfl := er rfl
    exact k _ _ _ _ (New.of (fun a z => N0.ok.trk a z) rfl)
  · have ne : ∀ a b : List Int, a < b → a ≠ b := fun a b h e => List.lt_irrefl b (e ▸ h)
    have many : (L.map (·.2)).Nodup → L.length = (setT ls).length := fun nd => by
      have p : (L.map (·.2)).Perm (setT ls) := (List.perm_ext_iff_of_nodup nd ((setT_pw ls).imp fun h => ne _ _ h)).mpr fun x => by rw [hmem, mem_setT]
      rw [← p.length_eq, List.length_map]
    have le : ∀ l : List (List Int), (setT l).length ≤ l.length := fun l => by
      have ins : ∀ (a : List Int) (bs : List (List Int)), (insT a bs).length ≤ bs.length + 1 := fun a bs => by
        induction bs with
        | nil => simp [insT]
        | cons b bs ih => simp only [insT]; split <;> (try split) <;> simp only [List.length_cons] <;> omega
      induction l with
      | nil => simp [setT]
      | cons a as ih => have := ins a (setT as); simp only [setT, List.length_cons]; omega
    have hlt := le ls
    have N0 := (new_set (K := X.K) (o := SetTO X.prog X.w l L) hz hl0)
    obtain rfl := er rfl
    exact ⟨l, _, rfl, .inr ⟨L, upd_same, fun q hq => (hL q hq).2, many⟩, by omega, k _ _ _ _ (New.of (fun a z => N0.ok.trk a z) rfl)⟩
/-! ### x[k].append(e) -/
theorem s_app2 {x : Str} {ke : Expr} {i : Nat} {mk m : ME} {apos cpos p2 : Pos} (ho : PE X (.Name x px) (tEv X.K O (.var i))) (hk : PE X ke (tS X.K mk)) (hpl : PlainIx ke) (hs : noStar e = true) (he : PE X e (tS X.K m))
    (hbase : attributeBase (.Subscript (.Name x px) ke p2) "append" X.env (eval (.Subscript (.Name x px) ke p2) X.env) = eval (.Subscript (.Name x px) ke p2) X.env)
    (hfew : ((backTo cpos (starEach [e] X.env)).all (fun x => !x.1) && (backToKw cpos (keywordEach [] X.env)).all (fun x => x.1.isSome) && decide ([e].length + ([] : List Keyword).length + (if ([] : List Keyword).isEmpty then 0 else 1) < 30)) = true)
    (hline : (apos.endLine == cpos.line) = true) (hsw : swapsWith (.Call (.Attribute (.Subscript (.Name x px) ke p2) "append" apos) [e] [] cpos) none pos.line X.env = pure false) :
    PS X (.Expr (.Call (.Attribute (.Subscript (.Name x px) ke p2) "append" apos) [e] [] cpos) pos) (tSt X.K O (.app2 i mk m)) := by
  refine PS.imp (ps_expr (pe_bm PySem.F.plainAttrs_list PySem.F.slot_list_append PySem.F.type_list_append mt_append (pe_ix ix_list ho hk hpl) (pa_cons he pa_nil (star_each hs [] _)) hbase hfew hline (star_each hs [] _) rfl) hsw) fun D σ H ⟨env, Z, f, fl, env', hE, ok, he, k⟩ => ?_
  simp only [ex, Option.bind_eq_some_iff, Option.some.injEq, Prod.mk.injEq] at he
  obtain ⟨q, hq, q', hq', e', hc, rfl, rfl⟩ := he
  obtain ⟨u, u', hg, hu', rfl⟩ := chg_of hc
  have hown : isOwn (gt env i) = true := by
    rw [hg]
    cases u with
    | val p => simp only [onAt, reduceCtorEq] at hu'
    | lst _ => rfl
    | dct _ => rfl
  refine ⟨env, Z, f, .vr i, env, hE, ok, ev_var_own hown, fun v H1 Z1 f1 g1 P1 o1 => ?_⟩
  obtain ⟨hv, rfl⟩ := o1
  refine ⟨env, Z1, f1, q, P1.rel, hq, fun ky hky => ?_⟩
  obtain ⟨v', g0, hv', hr, nd, sep, fin⟩ := P1.chg hg
  rw [hv] at hv'
  obtain rfl := Option.some.inj (Option.some.inj hv')
  obtain ⟨a, vs, ix, r, r', vj, gj, e1, e2, e3, e4, e5, e6, e7, e8, e9⟩ := on_ok (g := []) hr hky.vw (fun _ h => absurd h List.not_mem_nil) nd sep hu'
  cases r <;> simp only [addTo, reduceCtorEq] at e6
  rename_i rs
  split at e6
  case isFalse => cases e6
  rename_i hlt
  obtain rfl := Option.some.inj e6
  obtain ⟨b, ws, gg, eb, nb, r1, qg⟩ := e5
  have ty : L2.tyV X.K "list" vj H1 := by subst eb; exact .inl ⟨rfl, ws, .inl (.inl nb)⟩
  refine ⟨a, vs, ix, vj, e1, e3, .inl (.inl e2), e4, ⟨ty, env, Z1, f1, q', P1.rel, hq', fun w hw => ?_⟩⟩
  subst qg
  have sb : ¬ Z1 b := sep b (e8 b List.mem_cons_self)
  have keep : ∀ c x, c ≠ b → H1 c = some x → upd H1 b (.lst (ws ++ [w])) c = some x := fun c x hc e => by rw [upd_ne hc]; exact e
  have kz : ∀ c x, Z1 c → H1 c = some x → upd H1 b (.lst (ws ++ [w])) c = some x := fun c x z e => keep c x (fun q => sb (q ▸ z)) e
  rw [List.append_nil] at e7
  have nb' := List.nodup_cons.mp e7
  have k1 := Rrs.mono kz (fun _ z => z) rs ws gg (fun c hc x e => keep c x (fun q => nb'.1 (q ▸ hc)) e) r1
  have k2 := Rp.mono kz (fun _ z => z) q' w hw
  have k3 : Rr X.K (upd H1 b (.lst (ws ++ [w]))) Z1 (.lst (rs ++ [.val q'])) vj (b :: gg) := ⟨b, ws ++ [w], gg, eb, upd_same, by
    have z : Rr X.K (upd H1 b (.lst (ws ++ [w]))) Z1 (.val q') w [] := ⟨rfl, k2⟩
    have := Rrs.snoc k1 z
    rwa [List.append_nil] at this, rfl⟩
  obtain ⟨g9, r9, s9, n9⟩ := e9 b (.lst (ws ++ [w])) (b :: gg) List.mem_cons_self k3 (fun c hc => .inl hc) e7
  obtain ⟨f9, P9⟩ := fin b _ u' g9 (e8 b List.mem_cons_self) r9 s9 n9
  exact ⟨b, ws, w, eb, rfl, nb, by rw [r1.len]; exact hlt, k σ _ _ _ P9.s⟩
/-! ### pop, extend -/
theorem Rrs.unsnoc {K : PySem.W.Frag} {H : Hp} {Z : AP} {r : R} : ∀ {rs : List R} {vs : List V} {g : List Addr}, Rrs K H Z (rs ++ [r]) vs g → ∃ ws y g1 g2, vs = ws ++ [y] ∧ g = g1 ++ g2 ∧ Rrs K H Z rs ws g1 ∧ Rr K H Z r y g2
  | [], _, _, ⟨v, w, g1, g2, e, h1, ⟨e2, e3⟩, q⟩ => by
    subst e2; subst e3; subst e; subst q
    exact ⟨[], v, [], g1, rfl, by simp, ⟨rfl, rfl⟩, h1⟩
  | r0 :: rs, _, _, ⟨v, w, g1, g2, e, h1, h2, q⟩ => by
    obtain ⟨ws, y, g3, g4, e5, e6, h7, h8⟩ := Rrs.unsnoc h2
    subst e5; subst e6; subst e; subst q
    exact ⟨v :: ws, y, g1 ++ g3, g4, rfl, by simp, ⟨v, ws, g1, g3, rfl, h1, h7, rfl⟩, h8⟩
theorem Rrs.app {K : PySem.W.Frag} {H : Hp} {Z : AP} {us : List R} {ws : List V} {g5 : List Addr} (h2 : Rrs K H Z us ws g5) : ∀ {rs : List R} {vs : List V} {g : List Addr}, Rrs K H Z rs vs g → Rrs K H Z (rs ++ us) (vs ++ ws) (g ++ g5)
  | [], _, _, ⟨e, q⟩ => by subst e; subst q; exact h2
  | r0 :: rs, _, _, ⟨v, w, g1, g2, e, h1, h3, q⟩ => by
    subst e; subst q
    exact ⟨v, w ++ ws, g1, g2 ++ g5, rfl, h1, Rrs.app h2 h3, by simp⟩
theorem s_pop {x : Str} {i : Nat} {apos cpos : Pos} (ho : PE X (.Name x px) (tEv X.K O (.var i))) (hbase : attributeBase (.Name x px) "pop" X.env (eval (.Name x px) X.env) = eval (.Name x px) X.env) (hline : (apos.endLine == cpos.line) = true) :
    PE X (.Call (.Attribute (.Name x px) "pop" apos) [] [] cpos) (tEv X.K O (.pop i)) := by
  refine PE.imp (pe_bm0 PySem.F.plainAttrs_list PySem.F.slot_list_pop PySem.F.type_list_pop mt_pop ho hbase hline) fun σ H Q ⟨env, Z, f, o', env', hE, ok, he, k⟩ => ?_
  simp only [ev] at he
  split at he
  case h_2 => cases he
  rename_i rs hg
  split at he
  case h_2 => cases he
  rename_i q hl
  simp only [Option.some.injEq, Prod.mk.injEq] at he
  obtain ⟨rfl, rfl⟩ := he
  refine ⟨env, Z, f, .vr i, env, hE, ok, ev_var_own (by rw [hg]; rfl), fun v H1 Z1 f1 g1 P1 o1 => ?_⟩
  obtain ⟨hv, rfl⟩ := o1
  obtain ⟨v', g0, hv', hr, nd, sep, fin⟩ := P1.chg hg
  rw [hv] at hv'
  obtain rfl := Option.some.inj (Option.some.inj hv')
  obtain ⟨a, vs, gg, e, n, r1, q1⟩ := hr
  subst q1
  have hrs : rs = rs.dropLast ++ [.val q] := by
    have := List.getLast?_eq_some_iff.mp hl
    obtain ⟨ys, rfl⟩ := this
    simp
  rw [hrs] at r1
  obtain ⟨ws, y, g2, g3, e2, e3, r2, e4, hp⟩ := Rrs.unsnoc r1
  subst e4
  rw [List.append_nil] at e3
  subst e3
  subst e2
  rw [List.append_nil] at nd
  have na := List.nodup_cons.mp nd
  have sa := sep a List.mem_cons_self
  have keep : ∀ b x, b ≠ a → H1 b = some x → upd H1 a (.lst ws) b = some x := fun b x hb e => by rw [upd_ne hb]; exact e
  have kz : ∀ b x, Z1 b → H1 b = some x → upd H1 a (.lst ws) b = some x := fun b x z e => keep b x (fun q => sa (q ▸ z)) e
  have k1 := Rrs.mono kz (fun _ z => z) rs.dropLast ws gg (fun b hb x e => keep b x (fun q => na.1 (q ▸ hb)) e) r2
  obtain ⟨f5, P5⟩ := fin a (.lst ws) (.lst rs.dropLast) (a :: gg) List.mem_cons_self ⟨a, ws, gg, e, upd_same, k1, rfl⟩ (fun b hb => .inl hb) nd
  have ty : L2.tyV X.K "list" v H1 := by subst e; exact .inl ⟨rfl, _, .inl (.inl n)⟩
  refine ⟨ty, a, ws ++ [y], y, e, rfl, n, by simp, ?_⟩
  have := k y _ Z1 f5 [] P5 ⟨rfl, Rp.mono kz (fun _ z => z) q y hp⟩
  rwa [List.dropLast_concat]
theorem s_ext {x : Str} {i : Nat} {m : ME} {apos cpos : Pos} (ho : PE X (.Name x px) (tEv X.K O (.var i))) (hs : noStar e = true) (he : PE X e (tEv X.K O m))
    (hbase : attributeBase (.Name x px) "extend" X.env (eval (.Name x px) X.env) = eval (.Name x px) X.env)
    (hfew : ((backTo cpos (starEach [e] X.env)).all (fun x => !x.1) && (backToKw cpos (keywordEach [] X.env)).all (fun x => x.1.isSome) && decide ([e].length + ([] : List Keyword).length + (if ([] : List Keyword).isEmpty then 0 else 1) < 30)) = true)
    (hline : (apos.endLine == cpos.line) = true) (hsw : swapsWith (.Call (.Attribute (.Name x px) "extend" apos) [e] [] cpos) none pos.line X.env = pure false) :
    PS X (.Expr (.Call (.Attribute (.Name x px) "extend" apos) [e] [] cpos) pos) (tSt X.K O (.ext i m)) := by
  refine PS.imp (ps_expr (pe_bm PySem.F.plainAttrs_list PySem.F.slot_list_extend PySem.F.type_list_extend mt_extend ho (pa_cons he pa_nil (star_each hs [] _)) hbase hfew hline (star_each hs [] _) rfl) hsw) fun D σ H ⟨env, Z, f, fl, env', hE, ok, he, k⟩ => ?_
  simp only [ex] at he
  split at he
  case isFalse => cases he
  rename_i hl
  simp only [Option.bind_eq_some_iff] at he
  obtain ⟨x, hx, he⟩ := he
  obtain ⟨x1, x2⟩ := x
  split at he
  case h_2 => cases he
  rename_i us hx1
  simp only at hx1
  subst hx1
  simp only [Option.bind_eq_some_iff, Option.some.injEq, Prod.mk.injEq] at he
  obtain ⟨e', hc, rfl, rfl⟩ := he
  refine ⟨env, Z, f, .vr i, env, hE, ok, ev_var_own (lst_own hl), fun v H1 Z1 f1 g1 P1 o1 => ?_⟩
  obtain ⟨hv, rfl⟩ := o1
  have ty : L2.tyV X.K "list" v H1 := by
    obtain ⟨x, fa, g0, fb, e1, e2, e3, e4⟩ := P1.rel.focus0 (i := i) (by intro z; rw [z] at hl; cases hl)
    cases hg : gt env i with
    | no => rw [hg] at hl; cases hl
    | lk r => rw [hg] at hl; cases hl
    | sl r => cases r with
      | val p => rw [hg] at hl; cases hl
      | dct _ => rw [hg] at hl; cases hl
      | lst rs =>
        rw [hg] at e2
        obtain ⟨v', rfl, a, vs, g, e, n, _⟩ := e2
        rw [hv] at e1
        obtain rfl := Option.some.inj (Option.some.inj e1)
        subst e
        exact .inl ⟨rfl, vs, .inl (.inl n)⟩
  refine ⟨ty, env, Z1, f1, .tm (.lst us), x2, P1.rel, P1.ok0, hx, fun w H2 Z2 f2 g2 P2 o2 => ?_⟩
  have P4 := P1.nil_seq P2
  obtain ⟨u, u', hg, hu, rfl⟩ := chg_of hc
  obtain ⟨v', g0, hv', hr, nd, sep, fin⟩ := P4.chg hg
  rw [hv] at hv'
  obtain rfl := Option.some.inj (Option.some.inj hv')
  cases u <;> simp only [extTo, reduceCtorEq] at hu
  rename_i rs
  split at hu
  · rename_i hlt
    obtain rfl := Option.some.inj hu
    obtain ⟨a, vs, gg, e, n, r1, q⟩ := hr
    obtain ⟨b, ws, g5, eb, nb, r2, q2⟩ := o2
    subst q
    subst q2
    have ndg := List.nodup_append.mp nd
    have na := List.nodup_cons.mp ndg.1
    have keep : ∀ c x, c ≠ a → H2 c = some x → upd H2 a (.lst (vs ++ ws)) c = some x := fun c x hb e => by rw [upd_ne hb]; exact e
    have kz : ∀ c x, Z2 c → H2 c = some x → upd H2 a (.lst (vs ++ ws)) c = some x := fun c x z e => keep c x (fun q => sep a List.mem_cons_self (q ▸ z)) e
    have k1 := Rrs.mono kz (fun _ z => z) rs vs gg (fun c hb x e => keep c x (fun q => na.1 (q ▸ hb)) e) r1
    have k2 := Rrs.mono kz (fun _ z => z) us ws g5 (fun c hb x e => keep c x (fun q => ndg.2.2 a List.mem_cons_self c (List.mem_cons_of_mem _ hb) q.symm) e) r2
    obtain ⟨f5, P5⟩ := fin a (.lst (vs ++ ws)) (.lst (rs ++ us)) (a :: (gg ++ g5)) List.mem_cons_self ⟨a, vs ++ ws, gg ++ g5, e, upd_same, Rrs.app k2 k1, rfl⟩ (fun c hb => by
      rcases List.mem_cons.mp hb with z | z
      · subst z; exact .inl List.mem_cons_self
      · exact (List.mem_append.mp z).imp (List.mem_cons_of_mem _) (List.mem_cons_of_mem _)) (by
      refine nd.sublist ?_
      rw [List.cons_append]
      exact (List.Sublist.append (List.Sublist.refl gg) (List.sublist_cons_self b g5)).cons_cons a)
    exact ⟨a, b, vs, ws, e, by rw [eb], n, nb, by rw [r1.len, r2.len]; exact hlt, k σ _ _ _ P5.s⟩
  · cases hu
/-! ### while -/
theorem s_wh {c : Expr} {body : List Stmt} {mc : ME} {mb : List MS} (hw : ∀ c b e y, O.wh c b e = some y → ∃ n, turns c b n e = some y) (hp : PassesOwn (model X.prog X.w) X.A X.env X.xe) (hc : PT X c (tTs X.K O mc)) (hb : PSs X body (tSts X.K O mb)) :
    PS X (.While c body [] pos) (tSt X.K O (.wh mc mb)) := PS.imp (ps_while hp hc hb) fun D σ H ⟨env, Z, f, fl, env', hE, ok, he, k⟩ => by
  simp only [ex] at he
  obtain ⟨n, hn⟩ := hw _ _ _ _ he
  let P : Nat → Bool := fun i => asn i (.wh mc mb)
  refine ⟨fun m σ' H' => ∃ env_i Z_i f_i, PostS X.K σ σ' P H Z f env_i H' Z_i f_i [] ∧ turns (fun e => (ev O mc e).bind fun x => (view x.1 x.2).bind fun p => (asB p.1).bind fun k => some (k, p.2)) (fun e => exs O mb e) m env_i = some (fl, env'), ⟨n, env, Z, f, PostS.refl hE ok, hn⟩, ?_⟩
  rintro m σ' H' ⟨env_i, Z_i, f_i, Q, ht⟩
  cases m with
  | zero => simp only [turns, reduceCtorEq] at ht
  | succ m =>
    simp only [turns, Option.bind_eq_some_iff] at ht
    obtain ⟨z, hz, ht⟩ := ht
    obtain ⟨z1, z2⟩ := z
    refine ⟨env_i, Z_i, f_i, z1, z2, Q.rel, Q.ok0, by simpa only [evB, Option.bind_eq_some_iff] using hz, fun H2 Z2 f2 P2 => ?_⟩
    have l2 : ∀ j, P j = false → asns j mb = false := fun j h => by simp only [P, asn] at h; exact h
    have Q2 := Q.trans (P2.s (P := P)) fun _ h => h
    cases z1 with
    | false =>
      simp only [Bool.false_eq_true, if_false, Option.some.injEq, Prod.mk.injEq] at ht
      obtain ⟨rfl, rfl⟩ := ht
      exact k σ' H2 Z2 f2 Q2
    | true =>
      simp only [if_true, Option.bind_eq_some_iff] at ht
      obtain ⟨y, hy, ht⟩ := ht
      obtain ⟨y1, y2⟩ := y
      refine ⟨fun σ'' H'' => ∃ env_i Z_i f_i, PostS X.K σ σ'' P H Z f env_i H'' Z_i f_i [] ∧ turns (fun e => (ev O mc e).bind fun x => (view x.1 x.2).bind fun p => (asB p.1).bind fun k => some (k, p.2)) (fun e => exs O mb e) m env_i = some (fl, env'), fun σ'' H'' ⟨a, b, c, q1, q2⟩ => ⟨m, Nat.lt_succ_self m, a, b, c, q1, q2⟩, z2, Z2, f2, y1, y2, P2.rel, P2.ok0, hy, ?_⟩
      cases y1 with
      | nx => exact fun σ3 H3 Z3 f3 q => ⟨y2, Z3, f3, Q2.trans q l2, ht⟩
      | cnt => exact fun σ3 H3 Z3 f3 q => ⟨y2, Z3, f3, Q2.trans q l2, ht⟩
      | brk =>
        simp only [Option.some.injEq, Prod.mk.injEq] at ht
        obtain ⟨rfl, rfl⟩ := ht
        exact fun σ3 H3 Z3 f3 q => k σ3 H3 Z3 f3 (Q2.trans q l2)
      | ret r =>
        simp only [Option.some.injEq, Prod.mk.injEq] at ht
        obtain ⟨rfl, rfl⟩ := ht
        exact fun σ3 v H3 Z3 f3 g q hr => k σ3 v H3 Z3 f3 g (Q2.trans q l2) hr
end
/-! ### loop gives turns -/
theorem loop_turns (c : Env → Option (Bool × Env)) (b : Env → Option (Fl × Env)) (e : Env) (y : Fl × Env) (h : loop c b e = some y) : ∃ n, turns c b n e = some y := by
  unfold loop at h
  split at h
  · rename_i hh
    exact ⟨_, h⟩
  · cases h
theorem turns_more {c : Env → Option (Bool × Env)} {b : Env → Option (Fl × Env)} : ∀ {n m : Nat} {e : Env} {y : Fl × Env}, n ≤ m → turns c b n e = some y → turns c b m e = some y
  | 0, _, _, _, _, h => by simp only [turns, reduceCtorEq] at h
  | n + 1, 0, _, _, hm, _ => absurd hm (by omega)
  | n + 1, m + 1, e, y, hm, h => by
    simp only [turns, Option.bind_eq_some_iff] at h ⊢
    obtain ⟨x, hx, h⟩ := h
    refine ⟨x, hx, ?_⟩
    split at h
    · rename_i hb
      rw [if_pos hb]
      simp only [Option.bind_eq_some_iff] at h ⊢
      obtain ⟨z, hz, h⟩ := h
      refine ⟨z, hz, ?_⟩
      split at h
      · exact turns_more (Nat.le_of_succ_le_succ hm) h
      · exact turns_more (Nat.le_of_succ_le_succ hm) h
      · exact h
      · exact h
    · rename_i hb
      rw [if_neg hb]
      exact h
theorem loop_of {c : Env → Option (Bool × Env)} {b : Env → Option (Fl × Env)} {n : Nat} {e : Env} {y : Fl × Env} (h : turns c b n e = some y) : loop c b e = some y := by
  have hh : ∃ n, (turns c b n e).isSome = true := ⟨n, by rw [h]; rfl⟩
  unfold loop
  rw [dif_pos hh]
  have h2 := hh.choose_spec
  rcases Nat.le_total n hh.choose with hle | hle
  · exact turns_more hle h
  · cases q : turns c b hh.choose e with
    | none => rw [q] at h2; cases h2
    | some z => rw [← turns_more hle q, h]
end Ev
set_option autoImplicit false
set_option linter.all false
set_option maxRecDepth 100000
/-! A list of two fors. -/
namespace Ev
open PySem L2 PyProof.Rows
section
variable {K : PySem.W.Frag} {H H1 H2 H' : Hp} {Z Z1 Z2 Z' : AP} {σ σ1 σ2 : L2.St} {f f1 f2 g g1 g2 : List Addr} {env env1 env2 : Env}
theorem Post.glue (p : Post K σ1 H Z f env1 H1 Z1 f1 g) (q : Post K σ2 H1 Z1 (f1 ++ g) env2 H2 Z2 f2 g2) : Post K σ2 H Z f env2 H2 Z2 f2 g2 := by
  have t := p.tr
  rw [← List.append_nil (f1 ++ g)] at t
  have u := t.trans q.tr
  rw [List.append_nil] at u
  exact ⟨q.rel, q.ok, u⟩
/-- the slots is are hidden -/
theorem Post.hide (own : List Nat) (q : Post K σ1 H Z f env1 H1 Z1 f1 g) : ∃ f2, Post K (L2.wipe σ1 own) H Z f (Ev.wipe env1 own) H1 Z1 f2 g ∧ ∀ a ∈ f2, a ∈ f1 := by
  obtain ⟨f6, E6, s6, n6⟩ := hide_ok own q.rel
  exact ⟨f6, ⟨E6, Ok.mk3 ⟨n6 q.ok.left.nd, fun a ha => q.ok.left.sep a (s6 a ha), q.ok.trk⟩ q.ok.right.nd q.ok.right.sep (fun a ha hb => q.ok.apart (s6 a ha) hb), q.tr.weak fun a ha => (List.mem_append.mp ha).elim (fun q => List.mem_append_left _ (s6 a q)) (List.mem_append_right _)⟩, s6⟩
theorem Post.app' {D : Addr} {rs : List R} {r : R} {y : V} {gg g5 : List Addr} (P : Post K σ H Z f env1 H1 Z1 f1 (D :: gg ++ g5)) (hD : D ∈ f) (hl : Rr K H1 Z1 (.lst rs) (.ref D) (D :: gg)) (hr : Rr K H1 Z1 r y g5) :
    ∃ acc, H1 D = some (.lst acc) ∧ acc.length = rs.length ∧ Post K σ H Z f env1 (upd H1 D (.lst (acc ++ [y]))) Z1 f1 (D :: (gg ++ g5)) ∧ Rr K (upd H1 D (.lst (acc ++ [y]))) Z1 (.lst (rs ++ [r])) (.ref D) (D :: (gg ++ g5)) := by
  obtain ⟨a, vs, g0, e, n, r1, q⟩ := hl
  obtain rfl := V.ref.inj e
  obtain ⟨_, rfl⟩ := List.cons.inj q
  have nd := List.nodup_append.mp P.ok.nd
  have nc : (D :: (gg ++ g5)).Nodup := nd.2.1
  have dn := (List.nodup_cons.mp nc).1
  have dz : ¬ Z1 D := P.ok.sep D (List.mem_append_right _ List.mem_cons_self)
  have keep : ∀ b x, b ≠ D → H1 b = some x → upd H1 D (.lst (vs ++ [y])) b = some x := fun b x hb e => by rw [upd_ne hb]; exact e
  have kz : ∀ b x, Z1 b → H1 b = some x → upd H1 D (.lst (vs ++ [y])) b = some x := fun b x z e => keep b x (fun q => dz (q ▸ z)) e
  have k1 := Rrs.mono kz (fun _ z => z) rs vs gg (fun b hb x e => keep b x (fun q => dn (by rw [← q]; exact List.mem_append_left _ hb)) e) r1
  have k2 := Rr.mono kz (fun _ z => z) r y g5 (fun b hb x e => keep b x (fun q => dn (by rw [← q]; exact List.mem_append_right _ hb)) e) hr
  refine ⟨vs, n, r1.len, ⟨RelE.mono kz (fun _ z => z) _ _ _ (fun b hb x e => keep b x (fun q => nd.2.2 b hb D List.mem_cons_self q) e) P.rel, ⟨P.ok.nd, P.ok.sep, fun b z => ?_⟩, P.tr.zle, P.tr.zin, fun b x e' n' => keep b x (fun q => n' (q ▸ hD)) (P.tr.frm b x e' n'), P.tr.sub⟩, D, vs ++ [y], gg ++ g5, rfl, upd_same, Rrs.snoc k1 k2, rfl⟩
  by_cases q : b = D
  · subst q; exact absurd z dz
  · rw [upd_ne q]; exact P.ok.trk b z
end
theorem lc2_of {K : PySem.W.Frag} {O : Orc} {mt mt1 : MT} {mi mi1 : MI} {mc : Option ME} {me : ME} {own own1 : List Nat} {σ : L2.St} {H : Hp} {Q : VK} (hin : ∀ i, i ∉ own → tgHas i mt = false) (hin1 : ∀ i, i ∉ own1 → tgHas i mt1 = false) (hsub : ∀ i ∈ own1, i ∈ own)
    (h : tEv K O (.lc2 me mt mi mt1 mi1 mc own own1) σ H Q) : tLc2 (tI K O mi) (gB K mt) (tC K O none) (tI K O mi1) (gB K mt1) (tC K O mc) (tEv K O me) own own1 σ H Q := by
  obtain ⟨env, Z, f, o', env', hE, ok, he, k⟩ := h
  simp only [ev, Option.bind_eq_some_iff] at he
  obtain ⟨x, hx, he⟩ := he
  obtain ⟨ds, li, env1⟩ := x
  have hli : li = none := evI_none _ _ _ _ hx
  subst hli
  split at he
  case isFalse => cases he
  rename_i hpl
  simp only [Option.bind_eq_some_iff] at he
  obtain ⟨y, hy, he⟩ := he
  split at he
  case isFalse => cases he
  rename_i hbig
  simp only [Option.some.injEq, Prod.mk.injEq] at he
  obtain ⟨rfl, rfl⟩ := he
  refine ⟨env, Z, f, ds, env1, hE, ok, hx, fun J H1 Z1 f1 P1 wk => ?_⟩
  intro D hD
  obtain ⟨fw, E1, sb1, n1⟩ := hide_ok own P1.rel
  have okw : Ok H1 Z1 fw := ⟨n1 P1.ok0.nd, fun a ha => P1.ok0.sep a (sb1 a ha), P1.ok0.trk⟩
  have N0 := New.lst (K := K) (ds := []) (vs := []) P1.ok0.trk hD rfl
  have P0 := (Post.refl E1 okw).new N0
  let F2 : PyData → Env → Option (Option R × Env) := fun d e => (bindT mt1 d e).bind fun e1 => (evC O mc e1).bind fun c => if c.1 then (ev O me c.2).bind fun y => (Ev.own y.1 y.2).bind fun r => some (some r.1, wipe r.2 own1) else some (none, wipe c.2 own1)
  let F : PyData → Env → Option (List R × Env) := fun d e => (bindT mt d e).bind fun e1 => (evI O mi1 e1).bind fun u => (mapE F2 u.1 (wipe u.2.2 own1)).bind fun y => some (y.1, wipe y.2 own)
  refine ⟨fun i m H' => ∃ env_i Z_i f_i gg rs rest, Post K (L2.wipe σ own) H1 Z1 fw env_i H' Z_i f_i (D :: gg) ∧ Rr K H' Z_i (.lst rs) (.ref D) (D :: gg) ∧ mapEs F (ds.drop i) env_i = some (rest, y.2) ∧ rs ++ rest = y.1 ∧ m = ds.length - i,
    ⟨ds.length, _, Z1, fw, [], [], y.1, P0, N0.rep, by simpa using hy, by simp, rfl⟩, ?_⟩
  rintro i m H' ⟨env_i, Z_i, f_i, gg, rs, rest, P, RL, hm, hrs, rfl⟩
  have src := wk H' Z_i P.tr.zle (fun a o z e => P.tr.frm a o e fun q => okw.sep a q z) P.ok.trk i
  by_cases hlt : i < ds.length
  · right
    have hd : ds[i]? = some ds[i] := List.getElem?_eq_getElem hlt
    obtain ⟨go, yl⟩ := src.1 _ hd
    rw [List.drop_eq_getElem_cons hlt] at hm
    simp only [mapEs, Option.bind_eq_some_iff, Option.some.injEq, Prod.mk.injEq] at hm
    obtain ⟨z, hz, w, hw, e1, e2⟩ := hm
    simp only [F, Option.bind_eq_some_iff] at hz
    obtain ⟨eb, hb, u, hu, v, hv, hz⟩ := hz
    obtain rfl := Option.some.inj hz
    obtain ⟨us, ul, env2⟩ := u
    have hul : ul = none := evI_none _ _ _ _ hu
    subst hul
    let Nx : Hp → Prop := fun H'' => ∃ env_i Z_i f_i gg rs rest, Post K (L2.wipe σ own) H1 Z1 fw env_i H'' Z_i f_i (D :: gg) ∧ Rr K H'' Z_i (.lst rs) (.ref D) (D :: gg) ∧ mapEs F (ds.drop (i + 1)) env_i = some (rest, y.2) ∧ rs ++ rest = y.1
    refine ⟨go, Nx, fun H'' ⟨a, b, c, d, e, f, q1, q2, q3, q4⟩ => ⟨ds.length - (i + 1), by omega, a, b, c, d, e, f, q1, q2, q3, q4, rfl⟩, fun vv H2 hvv => ?_⟩
    obtain ⟨Z2, N⟩ := yl vv H2 hvv
    have tg := Rr.trk _ _ _ RL
    have Pn : Post K (L2.wipe σ own) H' Z_i f_i env_i H2 Z2 f_i [] := Post.new (Post.refl P.rel P.ok.left) N
    have RL2 := Pn.tr.rr P.ok RL
    have P2 := P.seq Pn tg
    rw [List.append_nil] at P2
    refine ⟨env_i, Z2, f_i, ds[i], eb, P2.rel, P2.ok.left, N.rep.2, hb, fun σ2 f2 E2 ok2 s2 u2 => ?_⟩
    have hlen : σ2.length = (L2.wipe σ own).length := by rw [← E2.len, bindT_len _ _ _ _ hb, P2.rel.len]
    have hw1 : L2.wipe σ2 own = L2.wipe σ own := by
      have q1 : L2.wipe σ2 own = L2.wipe (L2.wipe σ own) own := wipe_eq hlen fun j hj => u2 j (hin j hj)
      rw [q1]
      exact wipe_eq (by rw [L2.wipe_length]) fun j hj => L2.wipe_out hj
    refine ⟨hw1, ?_⟩
    have okg : Ok H2 Z2 (f2 ++ (D :: gg)) := ok2.mk3 P2.ok.right.nd P2.ok.right.sep fun a ha hb => P2.ok.apart (s2 a ha) hb
    have PB : Post K σ2 H1 Z1 fw eb H2 Z2 f2 (D :: gg) := ⟨E2, okg, P2.tr.weak fun a ha => (List.mem_append.mp ha).elim (fun q => List.mem_append_left _ (s2 a q)) (List.mem_append_right _)⟩
    have tg2 := Rr.trk _ _ _ RL2
    refine ⟨eb, Z2, f2, true, eb, E2, ok2, by simp only [evC], fun H3 Z3 f3 P3 => ?_⟩
    dsimp only
    rw [if_pos rfl]
    have RL3 := P3.tr.rr okg RL2
    have PC := PB.seq P3 tg2
    rw [List.append_nil] at PC
    refine ⟨eb, Z3, f3, us, env2, P3.rel, P3.ok0, hu, fun J1 H4 Z4 f4 P4 wk1 => ?_⟩
    have RL4 := P4.tr.rr PC.ok RL3
    have PD := PC.seq P4 (Rr.trk _ _ _ RL3)
    rw [List.append_nil] at PD
    obtain ⟨fw1, PD1, sb4⟩ := PD.hide own1
    have Q0 : Post K (L2.wipe σ2 own1) H4 Z4 (fw1 ++ (D :: gg)) (Ev.wipe env2 own1) H4 Z4 fw1 (D :: gg) := ⟨PD1.rel, PD1.ok, Tr.refl⟩
    have hw2 : L2.wipe (L2.wipe σ2 own1) own = L2.wipe σ own := by
      rw [← hw1]
      exact wipe_eq (by rw [L2.wipe_length]) fun j hj => L2.wipe_out fun q => hj (hsub j q)
    have dm : D ∈ fw1 ++ (D :: gg) := List.mem_append_right _ List.mem_cons_self
    refine ⟨fun j m H' => ∃ env_j Z_j f_j gj rj restj, Post K (L2.wipe σ2 own1) H4 Z4 (fw1 ++ (D :: gg)) env_j H' Z_j f_j (D :: gj) ∧ Rr K H' Z_j (.lst rj) (.ref D) (D :: gj) ∧ mapE F2 (us.drop j) env_j = some (restj, v.2) ∧ rj ++ restj = rs ++ v.1 ∧ m = us.length - j,
      ⟨us.length, _, Z4, fw1, gg, rs, v.1, Q0, RL4, by simpa using hv, rfl, rfl⟩, ?_⟩
    rintro j m Hj ⟨env_j, Zj, fj, gj, rj, restj, Pj, RLj, hmj, hrsj, rfl⟩
    have srcj := wk1 Hj Zj Pj.tr.zle (fun a o z e => Pj.tr.frm a o e fun q => PD1.ok.sep a q z) Pj.ok.trk j
    by_cases hltj : j < us.length
    · right
      have hdj : us[j]? = some us[j] := List.getElem?_eq_getElem hltj
      obtain ⟨goj, ylj⟩ := srcj.1 _ hdj
      rw [List.drop_eq_getElem_cons hltj] at hmj
      simp only [mapE, Option.bind_eq_some_iff, Option.some.injEq, Prod.mk.injEq] at hmj
      obtain ⟨zj, hzj, wj, hwj, e1j, e2j⟩ := hmj
      simp only [F2, Option.bind_eq_some_iff] at hzj
      obtain ⟨ebj, hbj, cj, hcj, hzj⟩ := hzj
      refine ⟨goj, fun H'' => ∃ env_j Z_j f_j gj rj restj, Post K (L2.wipe σ2 own1) H4 Z4 (fw1 ++ (D :: gg)) env_j H'' Z_j f_j (D :: gj) ∧ Rr K H'' Z_j (.lst rj) (.ref D) (D :: gj) ∧ mapE F2 (us.drop (j + 1)) env_j = some (restj, v.2) ∧ rj ++ restj = rs ++ v.1, fun H'' ⟨a, b, c, d, e, f, q1, q2, q3, q4⟩ => ⟨us.length - (j + 1), by omega, a, b, c, d, e, f, q1, q2, q3, q4, rfl⟩, fun vj H5 hvj => ?_⟩
      obtain ⟨Z5, Nj⟩ := ylj vj H5 hvj
      have tgj := Rr.trk _ _ _ RLj
      have Pnj : Post K (L2.wipe σ2 own1) Hj Zj fj env_j H5 Z5 fj [] := Post.new (Post.refl Pj.rel Pj.ok.left) Nj
      have RL5 := Pnj.tr.rr Pj.ok RLj
      have P5 := Pj.seq Pnj tgj
      rw [List.append_nil] at P5
      refine ⟨env_j, Z5, fj, us[j], ebj, P5.rel, P5.ok.left, Nj.rep.2, hbj, fun σ3 f6 E6 ok6 s6 u6 => ?_⟩
      have hlen3 : σ3.length = (L2.wipe σ2 own1).length := by rw [← E6.len, bindT_len _ _ _ _ hbj, P5.rel.len]
      have hw3 : L2.wipe σ3 own1 = L2.wipe σ2 own1 := by
        have q1 : L2.wipe σ3 own1 = L2.wipe (L2.wipe σ2 own1) own1 := wipe_eq hlen3 fun j hj => u6 j (hin1 j hj)
        rw [q1]
        exact wipe_eq (by rw [L2.wipe_length]) fun j hj => L2.wipe_out hj
      refine ⟨hw3, ?_⟩
      have okj : Ok H5 Z5 (f6 ++ (D :: gj)) := ok6.mk3 P5.ok.right.nd P5.ok.right.sep fun a ha hb => P5.ok.apart (s6 a ha) hb
      have PBj : Post K σ3 H4 Z4 (fw1 ++ (D :: gg)) ebj H5 Z5 f6 (D :: gj) := ⟨E6, okj, P5.tr.weak fun a ha => (List.mem_append.mp ha).elim (fun q => List.mem_append_left _ (s6 a q)) (List.mem_append_right _)⟩
      have tg6 := Rr.trk _ _ _ RL5
      refine ⟨ebj, Z5, f6, cj.1, cj.2, E6, ok6, hcj, fun H7 Z7 f7 P7 => ?_⟩
      have RL7 := P7.tr.rr okj RL5
      have PCj := PBj.seq P7 tg6
      rw [List.append_nil] at PCj
      dsimp only
      by_cases hcb : cj.1 = true
      · rw [if_pos hcb] at hzj
        rw [if_pos hcb]
        simp only [Option.bind_eq_some_iff, Option.some.injEq] at hzj
        obtain ⟨un, hun, r, hr, rfl⟩ := hzj
        refine ⟨cj.2, Z7, f7, un.1, un.2, P7.rel, P7.ok0, hun, fun v8 H8 Z8 f8 g8 P8 o8 => ?_⟩
        obtain ⟨f9, g9, P9, r9⟩ := Post.own (h := []) (by rw [List.append_nil]; exact P8) o8 (show Ev.own un.1 un.2 = some (r.1, r.2) from hr)
        rw [List.append_nil] at P9
        have RL9 := P9.tr.rr PCj.ok RL7
        have PDj := PCj.seq P9 (Rr.trk _ _ _ RL7)
        obtain ⟨f10, PE10, _⟩ := PDj.hide own1
        rw [hw3] at PE10
        obtain ⟨acc, a1, a2, a3, a4⟩ := PE10.app' dm RL9 r9
        have e1' : restj = r.1 :: wj.1 := e1j.symm
        refine ⟨acc, a1, ?_, _, Z8, f10, gj ++ g9, rj ++ [r.1], wj.1, a3, a4, ?_, ?_⟩
        · rw [a2]
          have h1 : rj.length + restj.length = rs.length + v.1.length := by rw [← List.length_append, hrsj, List.length_append]
          have h2 : rs.length + rest.length = y.1.length := by rw [← hrs, List.length_append]
          have h3 : v.1.length + w.1.length = rest.length := by rw [← e1, List.length_append]
          rw [e1'] at h1
          simp only [List.length_cons] at h1
          have hb2 : y.1.length ≤ sizeLine := hbig
          omega
        · rw [← e2j]
          exact hwj
        · rw [← hrsj, e1']; simp
      · rw [if_neg hcb] at hzj
        rw [if_neg hcb]
        obtain rfl := Option.some.inj hzj
        obtain ⟨f10, PE10, _⟩ := PCj.hide own1
        rw [hw3] at PE10
        refine ⟨_, Z7, f10, gj, rj, wj.1, PE10, RL7, ?_, ?_⟩
        · rw [← e2j]; exact hwj
        · rw [← hrsj, ← e1j]
    · left
      rw [List.drop_eq_nil_of_le (by omega)] at hmj
      simp only [mapE, Option.some.injEq, Prod.mk.injEq] at hmj
      obtain ⟨rfl, e2j⟩ := hmj
      refine ⟨srcj.2 (by omega), ?_⟩
      have PG := PD1.glue Pj
      obtain ⟨f11, PG1, _⟩ := PG.hide own
      rw [hw2] at PG1
      rw [List.append_nil] at hrsj
      subst e2j
      refine ⟨_, Zj, f11, gj, rj, w.1, PG1, RLj, ?_, ?_⟩
      · rw [← e2]; exact hw
      · rw [hrsj, ← hrs, ← e1, List.append_assoc]
  · left
    rw [List.drop_eq_nil_of_le (by omega)] at hm
    simp only [mapEs, Option.some.injEq, Prod.mk.injEq] at hm
    obtain ⟨rfl, e2⟩ := hm
    refine ⟨src.2 (by omega), ?_⟩
    have kz : ∀ a o, Z1 a → H1 a = some o → H' a = some o := fun a o z e => P.tr.frm a o e fun q => okw.sep a q z
    obtain ⟨f7, E7, s7, n7⟩ := unhide_ok P1.rel kz P.tr.zle own hpl P.rel
    rw [restore_wipe] at E7
    rw [List.append_nil] at hrs
    subst hrs
    have PF : Post K σ H1 Z1 f1 (again env1 env_i own) H' Z_i f7 (D :: gg) := ⟨E7, Ok.mk3 ⟨n7 P.ok.left.nd, fun a ha => P.ok.left.sep a (s7 a ha), P.ok.trk⟩ P.ok.right.nd P.ok.right.sep (fun a ha hb => P.ok.apart (s7 a ha) hb), (P.tr.weak fun a ha => (List.mem_append.mp ha).elim (fun q => List.mem_append_left _ (s7 a q)) (List.mem_append_right _)).grow sb1⟩
    have PG := P1.nil_seq PF
    rw [e2] at PG
    exact k _ H' Z_i f7 (D :: gg) PG RL
section
variable {X : Cx} {O : Orc} {pos : Pos}
theorem s_lc2 {elt tg iter tg1 iter1 : Expr} {ifs1 : List Expr} {scope : Scope} {own : List (Str × Nat)} {own1 : List Nat} {mt mt1 : MT} {mi mi1 : MI} {mc : Option ME} {me : ME} (hc : X.calm = true) (hN : X.N.Nodup) (ok : BlkOk X.N X.env.scope scope own) (hin : ∀ i, i ∉ own.map (·.2) → tgHas i mt = false) (hin1 : ∀ i, i ∉ own1 → tgHas i mt1 = false) (hsub : ∀ i ∈ own1, i ∈ own.map (·.2))
    (hs : ∀ x, foldedSetIterable iter X.env x = pure x) (hs1 : ∀ env x, foldedSetIterable iter1 env x = pure x) (hi : PI X tg iter (tI X.K O mi))
    (hg : ∀ (s : Shared) (H : Hp) (C : Addr) (cl : List (Str × Addr)) (fp : List Addr), PG (X.blk s H scope (compEnvC scope cl C X.env) fp) tg (gB X.K mt))
    (hi1 : ∀ (s : Shared) (H : Hp) (C : Addr) (cl : List (Str × Addr)) (fp : List Addr), PI (X.blk s H scope (compEnvC scope cl C X.env) fp) tg1 iter1 (tI X.K O mi1))
    (hg1 : ∀ (s : Shared) (H : Hp) (C : Addr) (cl : List (Str × Addr)) (fp : List Addr), PG (X.blk s H scope (compEnvC scope cl C X.env) fp) tg1 (gB X.K mt1))
    (ht1 : ∀ (s : Shared) (H : Hp) (C : Addr) (cl : List (Str × Addr)) (fp : List Addr), PTs (X.blk s H scope (compEnvC scope cl C X.env) fp) ifs1 (tC X.K O mc))
    (he : ∀ (s : Shared) (H : Hp) (C : Addr) (cl : List (Str × Addr)) (fp : List Addr), PE (X.blk s H scope (compEnvC scope cl C X.env) fp) elt (tEv X.K O me)) :
    PE X (.ListComp elt [⟨tg, iter, [], 0⟩, ⟨tg1, iter1, ifs1, 0⟩] scope pos) (tEv X.K O (.lc2 me mt mi mt1 mi1 mc (own.map (·.2)) own1)) :=
  PE.imp (pe_lc2 hc hN hi ok hsub hg (fun _ _ _ _ _ => c_none) hi1 hg1 ht1 he hs hs1) fun σ H Q h => lc2_of hin hin1 hsub h
theorem s_setLc2 {i : Nat} {y : Str} {py : Pos} {spos : Pos} {elt tg iter tg1 iter1 : Expr} {ifs1 : List Expr} {scope : Scope} {own : List (Str × Nat)} {own1 : List Nat} {mt mt1 : MT} {mi mi1 : MI} {mc : Option ME} {me : ME} (hc : X.calm = true) (hN : X.N.Nodup) (hy : X.N[i]? = some y) (hyl : X.env.scope.names.lookup y = some .local)
    (hsw : swapsWith (.ListComp elt [⟨tg, iter, [], 0⟩, ⟨tg1, iter1, ifs1, 0⟩] scope pos) (some (.Name y py)) spos.line X.env = pure true) (ok : BlkOk X.N X.env.scope scope own) (hin : ∀ i, i ∉ own.map (·.2) → tgHas i mt = false) (hin1 : ∀ i, i ∉ own1 → tgHas i mt1 = false) (hsub : ∀ i ∈ own1, i ∈ own.map (·.2))
    (hs : ∀ x, foldedSetIterable iter X.env x = pure x) (hs1 : ∀ env x, foldedSetIterable iter1 env x = pure x) (hi : PI X tg iter (tI X.K O mi))
    (hg : ∀ (s : Shared) (H : Hp) (C : Addr) (cl : List (Str × Addr)) (fp : List Addr), PG (X.blk s H scope (compEnvC scope cl C X.env) fp) tg (gB X.K mt))
    (hi1 : ∀ (s : Shared) (H : Hp) (C : Addr) (cl : List (Str × Addr)) (fp : List Addr), PI (X.blk s H scope (compEnvC scope cl C X.env) fp) tg1 iter1 (tI X.K O mi1))
    (hg1 : ∀ (s : Shared) (H : Hp) (C : Addr) (cl : List (Str × Addr)) (fp : List Addr), PG (X.blk s H scope (compEnvC scope cl C X.env) fp) tg1 (gB X.K mt1))
    (ht1 : ∀ (s : Shared) (H : Hp) (C : Addr) (cl : List (Str × Addr)) (fp : List Addr), PTs (X.blk s H scope (compEnvC scope cl C X.env) fp) ifs1 (tC X.K O mc))
    (he : ∀ (s : Shared) (H : Hp) (C : Addr) (cl : List (Str × Addr)) (fp : List Addr), PE (X.blk s H scope (compEnvC scope cl C X.env) fp) elt (tEv X.K O me)) :
    PS X (.Assign [.Name y py] (.ListComp elt [⟨tg, iter, [], 0⟩, ⟨tg1, iter1, ifs1, 0⟩] scope pos) spos) (tSt X.K O (.asg (.nm i) (.lc2 me mt mi mt1 mi1 mc (own.map (·.2)) own1))) :=
  PS.imp (ps_setLc2 hc hN hy hyl hsw hi ok hsub hg (fun _ _ _ _ _ => c_none) hi1 hg1 ht1 he hs hs1) fun D σ H h => by
    have q := set_end h
    exact lc2_of (Q := fun v H1 => gName i v σ H1 D.nx) hin hin1 hsub q
end
end Ev
set_option autoImplicit false
set_option linter.all false
set_option maxRecDepth 100000
/-! min, max; x += n; index, count. -/
namespace Ev
open PySem L2 PyProof.Rows
theorem each_reads {h : Heap} : ∀ {us : List Value} {ds : List PyData}, PySem.W.EachIs (fun u d => ∃ as, Reads h u d as) us ds → ∃ as, ReadsAll h us ds as
  | _, _, .nil => ⟨_, .nil⟩
  | _, _, .cons ⟨_, r⟩ t => by
    obtain ⟨_, q⟩ := each_reads t
    exact ⟨_, .cons r q⟩
theorem each_at {β : Type} {R : Value → β → Prop} : ∀ {us : List Value} {ds : List β}, PySem.W.EachIs R us ds → ∀ (i : Nat) (u : Value), us[i]? = some u → ∃ d, ds[i]? = some d ∧ R u d
  | _, _, .nil, i, u, h => by simp at h
  | _, _, .cons (R := _) r t, 0, u, h => by
    simp only [List.getElem?_cons_zero, Option.some.injEq] at h
    subst h
    exact ⟨_, rfl, r⟩
  | _, _, .cons r t, i + 1, u, h => by
    simp only [List.getElem?_cons_succ] at h ⊢
    exact each_at t i u h
section
variable {X : Cx}
theorem bestD_of {f : PyData → PyData → Bool} {ds : List PyData} {m : PyData} (h : bestD f ds = some m) : ∃ d es, ds = d :: es ∧ allAlike ds = true ∧ ds.all (fun x => !isN x) = true ∧ ds.all SeqAt.shaped = true ∧ m = es.foldl (fun a y => if f y a then y else a) d := by
  cases ds with
  | nil => cases h
  | cons d es =>
    simp only [bestD] at h
    split at h
    · rename_i c
      simp only [Bool.and_eq_true] at c
      exact ⟨d, es, rfl, c.1.1, c.1.2, c.2, (Option.some.inj h).symm⟩
    · cases h
theorem not_none {ds : List PyData} (h : ds.all (fun x => !isN x) = true) : ∀ x ∈ ds, x ≠ .none := fun x hx e => by
  have := List.all_eq_true.mp h x hx
  subst e
  cases this
theorem depths {ds : List PyData} (h : ds.all SeqAt.shaped = true) : PyData.depthAll ds ≤ 64 := by
  induction ds with
  | nil => simp [PyData.depthAll]
  | cons d ds ih =>
    simp only [List.all_cons, Bool.and_eq_true] at h
    simp only [PyData.depthAll]
    exact Nat.max_le.mpr ⟨SeqAt.depth_of_shaped h.1, ih h.2⟩
def rBest (K : PySem.W.Frag) (f : PyData → PyData → Bool) : List V → Hp → VK → Prop := fun xs H Q => ∃ (Z : AP) (a : Addr) (vs : List V) (ds : List PyData) (m : PyData), xs = [.ref a] ∧ SqL K H a vs ∧ Rps K H Z ds vs ∧ bestD f ds = some m ∧ ∀ v, Rp K H Z m v → Q v H
theorem best_end {Z : AP} {pins : List (Addr × Obj)} {σ : L2.St} {H : Hp} {s : Shared} {Q : VK} {its : List Value} {ds : List PyData} {m : PyData} (I : Inv X pins σ H s) (q1 : PySem.W.EachIs (fun u d => ∃ v, RelV v u ∧ Rp X.K H Z d v) its ds) (q2 : PySem.W.EachIs (fun u d => ∃ as, Reads s.heap u d as) its ds) (c : ds.all SeqAt.shaped = true) (k : ∀ v, Rp X.K H Z m v → Q v H)
    {i : Nat} {v : Value} {h' : Heap} {tk : Nat} {bs : List Addr} (hv : its[i]? = some v) (hr : Reads h' v m bs) (hk : ∀ b o, s.heap.get? b = some o → h'.get? b = some o) : EP X pins σ Q v { s with heap := h', toks := tk } := by
  obtain ⟨d, hd, x, rx, hp⟩ := each_at q1 i v hv
  obtain ⟨d', hd', as, rd⟩ := each_at q2 i v hv
  rw [hd] at hd'
  obtain rfl := Option.some.inj hd'
  have e : d = m := PySem.SeqAt.Reads.unique d m v _ _ (SeqAt.canLay_of_shaped (List.all_eq_true.mp c d (List.mem_of_getElem? hd))) (PySem.W.reads_keeps hk rd) hr
  subst e
  exact ⟨x, H, I.kept hk, rx, k x hp⟩
theorem cr_minD (hu : X.A.units + 70 < cLine) (hc : X.calm = true) : CallR X (.builtin "min") (rBest X.K fun y a => PySem.W.dataLt y a) := by
  intro pins s σ H xs us Q I r h
  obtain ⟨Z, a, vs, ds, m, rfl, hR, w, hs, k⟩ := h
  obtain ⟨d, es, rfl, c1, c2, c3, rfl⟩ := bestD_of hs
  obtain ⟨its, rv, pl, _⟩ := I.list hR
  rw [Vals.ref1 r]
  obtain ⟨q1, q2⟩ := rps_each I w rv c3
  obtain ⟨as, ra⟩ := each_reads q2
  have hd := depths c3
  refine PySem.W.min_list_data (vs := its.toArray) (I.ok.hd hc) pl.isList (by simpa using ra) ⟨fun x hx y hy => List.all_eq_true.mp (List.all_eq_true.mp c1 x hx) y hy, not_none c2⟩ (by omega) fun i v h' tk bs hv hr hk => best_end I q1 q2 c3 k (by rwa [List.getElem?_toArray] at hv) hr hk
theorem cr_maxD (hu : X.A.units + 70 < cLine) (hc : X.calm = true) : CallR X (.builtin "max") (rBest X.K fun y a => PySem.W.dataLt a y) := by
  intro pins s σ H xs us Q I r h
  obtain ⟨Z, a, vs, ds, m, rfl, hR, w, hs, k⟩ := h
  obtain ⟨d, es, rfl, c1, c2, c3, rfl⟩ := bestD_of hs
  obtain ⟨its, rv, pl, _⟩ := I.list hR
  rw [Vals.ref1 r]
  obtain ⟨q1, q2⟩ := rps_each I w rv c3
  obtain ⟨as, ra⟩ := each_reads q2
  have hd := depths c3
  refine PySem.W.max_list_data (vs := its.toArray) (I.ok.hd hc) pl.isList (by simpa using ra) ⟨fun x hx y hy => List.all_eq_true.mp (List.all_eq_true.mp c1 x hx) y hy, not_none c2⟩ (by omega) fun i v h' tk bs hv hr hk => best_end I q1 q2 c3 k (by rwa [List.getElem?_toArray] at hv) hr hk
def rBestT (K : PySem.W.Frag) (f : PyData → PyData → Bool) : List V → Hp → VK → Prop := fun xs H Q => ∃ (Z : AP) (a : Addr) (vs : List V) (ds : List PyData) (m : PyData), xs = [.ref a] ∧ SqT K H a vs ∧ Rps K H Z ds vs ∧ bestD f ds = some m ∧ ∀ v, Rp K H Z m v → Q v H
theorem cr_minDT (hu : X.A.units + 70 < cLine) (hc : X.calm = true) : CallR X (.builtin "min") (rBestT X.K fun y a => PySem.W.dataLt y a) := by
  intro pins s σ H xs us Q I r h
  obtain ⟨Z, a, vs, ds, m, rfl, hR, w, hs, k⟩ := h
  obtain ⟨d, es, rfl, c1, c2, c3, rfl⟩ := bestD_of hs
  obtain ⟨its, rv, pl, _⟩ := I.tuple hR
  rw [Vals.ref1 r]
  obtain ⟨q1, q2⟩ := rps_each I w rv c3
  obtain ⟨as, ra⟩ := each_reads q2
  have hd := depths c3
  refine PySem.W.min_tuple_data (vs := its.toArray) (I.ok.hd hc) (show s.heap.IsTuple _ _ from pl) (by simpa using ra) ⟨fun x hx y hy => List.all_eq_true.mp (List.all_eq_true.mp c1 x hx) y hy, not_none c2⟩ (by omega) fun i v h' tk bs hv hr hk => best_end I q1 q2 c3 k (by rwa [List.getElem?_toArray] at hv) hr hk
theorem cr_maxDT (hu : X.A.units + 70 < cLine) (hc : X.calm = true) : CallR X (.builtin "max") (rBestT X.K fun y a => PySem.W.dataLt a y) := by
  intro pins s σ H xs us Q I r h
  obtain ⟨Z, a, vs, ds, m, rfl, hR, w, hs, k⟩ := h
  obtain ⟨d, es, rfl, c1, c2, c3, rfl⟩ := bestD_of hs
  obtain ⟨its, rv, pl, _⟩ := I.tuple hR
  rw [Vals.ref1 r]
  obtain ⟨q1, q2⟩ := rps_each I w rv c3
  obtain ⟨as, ra⟩ := each_reads q2
  have hd := depths c3
  refine PySem.W.max_tuple_data (vs := its.toArray) (I.ok.hd hc) (show s.heap.IsTuple _ _ from pl) (by simpa using ra) ⟨fun x hx y hy => List.all_eq_true.mp (List.all_eq_true.mp c1 x hx) y hy, not_none c2⟩ (by omega) fun i v h' tk bs hv hr hk => best_end I q1 q2 c3 k (by rwa [List.getElem?_toArray] at hv) hr hk
theorem cb_min (hu : X.A.units + 70 < cLine) (hc : X.calm = true) : CallR X (.builtin "min") (rVs X.K (biop .min)) := by
  refine CallR.either fun xs H Q ⟨Z, ps, r, hz, hv, hr, k⟩ => ?_
  match ps, hv, hr with
  | [p], hv, hr =>
    obtain ⟨v, rfl, hp⟩ := hv.one
    cases p <;> simp only [biop, reduceCtorEq] at hr
    case tuple ds =>
      obtain ⟨a, vs, e, n, w⟩ := hp
      simp only [Option.map_eq_some_iff] at hr
      obtain ⟨m, h3, h2⟩ := hr
      subst h2
      exact ⟨_, cr_minDT hu hc, Z, a, vs, ds, m, by rw [e], n.sq, w, h3, fun v hm => k _ _ _ _ (New.of hz hm)⟩
    rename_i ds
    obtain ⟨a, vs, e, n, w⟩ := hp
    cases h1 : intsOf ds with
    | some is =>
      simp only [h1, Option.map_eq_some_iff] at hr
      obtain ⟨m, h3, h2⟩ := hr
      subst h2
      rw [ints_vs w h1] at n
      obtain ⟨u1, u2⟩ := List.min?_eq_some_iff.mp h3
      refine ⟨_, cr_min hc, a, is, by rw [e], n, len_pos (.inl h3), fun m' g1 g2 => ?_⟩
      have a1 := g2 m u1
      have a2 := u2 m' g1
      obtain rfl : m' = m := by omega
      exact k _ _ _ _ (New.of hz rfl)
    | none =>
      simp only [h1, Option.map_eq_some_iff] at hr
      obtain ⟨m, h3, h2⟩ := hr
      subst h2
      exact ⟨_, cr_minD hu hc, Z, a, vs, ds, m, by rw [e], n, w, h3, fun v hm => k _ _ _ _ (New.of hz hm)⟩
  | [], _, hr => cases hr
  | _ :: _ :: _, _, hr => simp only [biop, reduceCtorEq] at hr
theorem cb_max (hu : X.A.units + 70 < cLine) (hc : X.calm = true) : CallR X (.builtin "max") (rVs X.K (biop .max)) := by
  refine CallR.either fun xs H Q ⟨Z, ps, r, hz, hv, hr, k⟩ => ?_
  match ps, hv, hr with
  | [p], hv, hr =>
    obtain ⟨v, rfl, hp⟩ := hv.one
    cases p <;> simp only [biop, reduceCtorEq] at hr
    case tuple ds =>
      obtain ⟨a, vs, e, n, w⟩ := hp
      simp only [Option.map_eq_some_iff] at hr
      obtain ⟨m, h3, h2⟩ := hr
      subst h2
      exact ⟨_, cr_maxDT hu hc, Z, a, vs, ds, m, by rw [e], n.sq, w, h3, fun v hm => k _ _ _ _ (New.of hz hm)⟩
    rename_i ds
    obtain ⟨a, vs, e, n, w⟩ := hp
    cases h1 : intsOf ds with
    | some is =>
      simp only [h1, Option.map_eq_some_iff] at hr
      obtain ⟨m, h3, h2⟩ := hr
      subst h2
      rw [ints_vs w h1] at n
      obtain ⟨u1, u2⟩ := List.max?_eq_some_iff.mp h3
      refine ⟨_, cr_max hc, a, is, by rw [e], n, len_pos (.inr h3), fun m' g1 g2 => ?_⟩
      have a1 := g2 m u1
      have a2 := u2 m' g1
      obtain rfl : m' = m := by omega
      exact k _ _ _ _ (New.of hz rfl)
    | none =>
      simp only [h1, Option.map_eq_some_iff] at hr
      obtain ⟨m, h3, h2⟩ := hr
      subst h2
      exact ⟨_, cr_maxD hu hc, Z, a, vs, ds, m, by rw [e], n, w, h3, fun v hm => k _ _ _ _ (New.of hz hm)⟩
  | [], _, hr => cases hr
  | _ :: _ :: _, _, hr => simp only [biop, reduceCtorEq] at hr
end
section
variable {X : Cx} {O : Orc} {pos p px : Pos}
def ipO (o : Bop) : TIp := fun x y H Q => ∃ (i j k : Int), x = .int i ∧ y = .int j ∧ augop o (.int i) (.int j) = some (int k) ∧ Q (.int k) H
theorem ip_add' : PIp X .Add (ipO .add) := fun pins s σ H x y v u Q I r1 r2 ⟨i, j, k, e1, e2, e3, q⟩ => ip_add pins s σ H x y v u Q I r1 r2 ⟨i, j, e1, e2, by
  simp only [augop, int, Option.some.injEq, R.val.injEq, PyData.int.injEq] at e3
  show Q (V.int (i + j)) H
  rw [e3]; exact q⟩
theorem ip_sub' : PIp X .Sub (ipO .sub) := fun pins s σ H x y v u Q I r1 r2 ⟨i, j, k, e1, e2, e3, q⟩ => ip_sub pins s σ H x y v u Q I r1 r2 ⟨i, j, e1, e2, by
  simp only [augop, int, Option.some.injEq, R.val.injEq, PyData.int.injEq] at e3
  show Q (V.int (i - j)) H
  rw [e3]; exact q⟩
theorem augop_of {o : Bop} {p q : PyData} {r : R} (h : augop o p q = some r) : ∃ i j k : Int, p = .int i ∧ q = .int j ∧ r = int k := by
  cases o <;> cases p <;> cases q <;> simp only [augop, Option.some.injEq, reduceCtorEq] at h
  · exact ⟨_, _, _, rfl, rfl, h.symm⟩
  · exact ⟨_, _, _, rfl, rfl, h.symm⟩
theorem s_aug {i : Nat} {x : Str} {e : Expr} {m : ME} {op : Operator} (o : Bop) {pos' : Pos} (hN : X.N.Nodup) (hi : X.N[i]? = some x) (hx : Loc X.env.scope x) (hf : X.fn x = true ∨ X.env.scope.names.lookup x = some .local) (ho : PIp X op (ipO o)) (he : PE X e (tEv X.K O m)) :
    PS X (.AugAssign (.Name x pos') op e pos) (tSt X.K O (.aug i o m)) := PS.imp (ps_aug hN hi hx he ho hf) fun D σ H ⟨env, Z, f, fl, env', hE, ok, he, k⟩ => by
  simp only [ex] at he
  split at he
  case h_2 => cases he
  rename_i p hg
  simp only [Option.bind_eq_some_iff, Option.some.injEq, Prod.mk.injEq] at he
  obtain ⟨x, hx, q, hq, r, hr, e', hb, rfl, rfl⟩ := he
  obtain ⟨a, b, c, rfl, hq1, rfl⟩ := augop_of hr
  obtain ⟨y, f1, g0, f2, e1, e2, e3, e4⟩ := hE.focus0 (i := i) (by rw [hg]; exact fun z => by cases z)
  rw [hg] at e2
  obtain ⟨v, rfl, _, hp⟩ := e2
  refine ⟨v, e1, env, Z, f, x.1, x.2, hE, ok, hx, fun w H1 Z1 f1 g1 P1 o1 => ?_⟩
  obtain ⟨Z5, f5, P5, w5, z5⟩ := Post.vw (h := []) (by rw [List.append_nil]; exact P1) o1 (show view x.1 x.2 = some (q.1, q.2) from hq)
  rw [hq1] at w5 hr
  refine ⟨a, b, c, hp, w5, hr, ?_⟩
  have hrr : Rr X.K H1 Z5 (int c) (.int c) [] := ⟨rfl, rfl⟩
  obtain rfl := bindR_nm hb
  obtain ⟨f3, P3⟩ := P5.put (i := i) (P := fun j => asn j (.aug i o m)) hrr fun j hj e => by subst e; simp [asn] at hj
  exact k _ _ _ _ P3
/-! ### methods -/
theorem ty_list {K : PySem.W.Frag} {H : Hp} {Z : AP} {ds : List PyData} {v : V} (h : Vw K H Z (.list ds) v) : L2.tyV K "list" v H := by
  obtain ⟨a, vs, e, n, _⟩ := h
  subst e
  exact .inl ⟨rfl, vs, n⟩
theorem mt_index_of {K : PySem.W.Frag} {ma m : ME} {σ : L2.St} {H : Hp} {Q : VK} (h : tEv K O (.mt .index ma [m]) σ H Q) : tBM K "list" (rIndexD K) (tEv K O ma) (fun σ H Q => tAs K O [m] σ H Q) σ H Q := by
  obtain ⟨env, Z, f, o', env', hE, ok, he, k⟩ := h
  simp only [ev, Option.bind_eq_some_iff] at he
  obtain ⟨x, hx, p0, hp0, y, hy, p, hp, q, hq, he⟩ := he
  split at he
  case isFalse => cases he
  rename_i hst
  simp only [Option.bind_eq_some_iff, Option.some.injEq, Prod.mk.injEq] at he
  obtain ⟨r, hr, rfl, rfl⟩ := he
  obtain ⟨p1, p2⟩ := p
  obtain ⟨q1, q2⟩ := q
  match p1, q1, hr with
  | .list ds, [d], hr =>
    simp only [mtop] at hr
    split at hr
    case isFalse => cases hr
    rename_i c
    simp only [Bool.and_eq_true] at c
    simp only [Option.map_eq_some_iff] at hr
    obtain ⟨j, hj, rfl⟩ := hr
    refine ⟨env, Z, f, x.1, x.2, hE, ok, hx, fun v1 H1 Z1 f1 g1 P1 o1 => ?_⟩
    have ty : L2.tyV K "list" v1 H1 := by
      obtain ⟨p01, p02⟩ := p0
      cases p01 <;> simp only [sameTop, Bool.false_eq_true] at hst
      obtain ⟨Z5, f5, P5, w5, z5⟩ := Post.vw (h := []) (by rw [List.append_nil]; exact P1) o1 hp0
      exact ty_list w5
    refine ⟨ty, x.2, Z1, f1, y.1, y.2, P1.rel, P1.ok.left, hy, fun vs H2 Z2 f2 g2 P2 o2 => ?_⟩
    have P := P1.seq P2 o1.trk
    have o1' := P2.tr.ro P1.ok o1
    obtain ⟨Z3, f3, P3, w1, z3⟩ := P.vw o1' hp
    have o2' := o2.mono (fun _ _ _ e => e) z3 (fun _ _ _ e => e)
    obtain ⟨Z4, f4, P4, w2, z4⟩ := Post.vws (h := []) (by rw [List.append_nil]; exact P3) o2' hq
    obtain ⟨v2, ev2, w5⟩ := Vws.one w2
    subst ev2
    have w1 := w1.mono (fun _ _ e => e) z4
    have dd := w1.dp c.1
    obtain ⟨a, vs, rfl, n, w⟩ := w1
    obtain ⟨h1, h2, h3⟩ := List.findIdx?_eq_some_iff_getElem.mp hj
    refine ⟨a, v2, d, ds, j, ds[j], rfl, rfl, dd, w5.dp c.2, c.1, c.2, List.getElem?_eq_getElem h1, h2, fun m z' hm hz => ?_, ?_⟩
    · have hm' : m < ds.length := Nat.lt_trans hm h1
      rw [List.getElem?_eq_getElem hm'] at hz
      obtain rfl := Option.some.inj hz
      simpa using h3 m hm
    · have hrr : New K H2 Z4 (int (j : Int)) (.int j) H2 Z4 [] := New.of P4.ok.trk rfl
      exact k _ _ _ _ _ (P4.new hrr) hrr.rep
  | .none, _, hr => simp [mtop] at hr
  | .bool _, _, hr => simp [mtop] at hr
  | .int _, _, hr => simp [mtop] at hr
  | .str _, _, hr => simp [mtop] at hr
  | .tuple _, _, hr => simp [mtop] at hr
  | .dict _, _, hr => simp [mtop] at hr
  | .list _, [], hr => simp [mtop] at hr
  | .list _, _ :: _ :: _, hr => simp [mtop] at hr
theorem s_index {a e : Expr} {ma m : ME} {apos cpos : Pos} (hu : X.A.units + 65 < cLine) (ho : PE X a (tEv X.K O ma)) (hs : noStar e = true) (he : PA X [e] (tAs X.K O [m]))
    (hbase : attributeBase a "index" X.env (eval a X.env) = eval a X.env)
    (hfew : ((backTo cpos (starEach [e] X.env)).all (fun x => !x.1) && (backToKw cpos (keywordEach [] X.env)).all (fun x => x.1.isSome) && decide ([e].length + ([] : List Keyword).length + (if ([] : List Keyword).isEmpty then 0 else 1) < 30)) = true)
    (hline : (apos.endLine == cpos.line) = true) : PE X (.Call (.Attribute a "index" apos) [e] [] cpos) (tEv X.K O (.mt .index ma [m])) :=
  PE.imp (pe_bm PySem.F.plainAttrs_list PySem.F.slot_list_index PySem.F.type_list_index (mt_indexD hu) ho he hbase hfew hline (star_each hs [] _) rfl) fun σ H Q h => mt_index_of h
end
end Ev
set_option autoImplicit false
set_option linter.all false
set_option maxRecDepth 100000
/-! x[k] += n; three names at once; displays with a star. -/
namespace Ev
open PySem L2 PyProof.Rows
section
variable {X : Cx} {O : Orc} {pos p px : Pos}
theorem onAt_put {gf : R → Option R} {u u' : R} {q : PyData} (h : onAt gf u q = some u') : ∃ r r', gf r = some r' ∧ putAt u q r' = some u' := by
  cases u <;> cases q <;> simp only [onAt, reduceCtorEq, Option.bind_eq_some_iff, Option.some.injEq] at h
  obtain ⟨j, h1, r, hj, r', hr', rfl⟩ := h
  exact ⟨r, r', hr', by simp only [putAt, h1, Option.bind_some]⟩
theorem get_list {X : Cx} : PGet X (rIxL X.K) := by
  intro pins s σ H x y v u Q I rx ry h
  obtain ⟨p, xs, i, z, rfl, rfl, hq, he, q⟩ := h
  cases rx
  obtain ⟨t, rfl⟩ := ry
  obtain ⟨its, r, pl, hz⟩ := I.list hq
  obtain ⟨j, h1, h2, h3, h4, h5⟩ := atI_get he
  obtain ⟨w, ew, rw'⟩ := r.get h2
  have hl := r.length
  have hn := line63
  have fin : EP X pins σ Q w s := ⟨z, H, I, rw', q⟩
  rcases Int.lt_or_le i 0 with h0 | h0
  · have hj : (i + (its.toArray.size : Int)).toNat = j := by
      rw [seqIndex_neg h0 h4] at h1
      rw [List.size_toArray, ← hl]
      exact Option.some.inj h1
    exact wpAny_getItem_list_neg pl.isList h0 (by rw [List.size_toArray]; omega) (by omega) (by rw [hj]; simpa using ew) fin
  · have hj : i.toNat = j := by
      rw [seqIndex_of h0 h5] at h1
      exact Option.some.inj h1
    exact wpAny_getItem_list pl.isList h0 (by omega) (by rw [hj]; simpa using ew) fin
theorem s_aix {x : Str} {ke ve : Expr} {i : Nat} {mk mv : ME} {op : Operator} {tpos : Pos} (o : Bop) (hu : X.A.units + 1 < cLine) (ho : PE X (.Name x px) (tEv X.K O (.var i))) (hk : PE X ke (tS X.K mk)) (hv : PE X ve (tS X.K mv)) (hop : PIp X op (ipO o))
    (ha : ∀ ov iv new, augStore ke ov iv new = (do holding [new, ov, iv] (setItem ov iv new); release [new, ov, iv] []; pure .next)) :
    PS X (.AugAssign (.Subscript (.Name x px) ke tpos) op ve pos) (tSt X.K O (.aix i mk o mv)) := by
  refine PS.imp (ps_augS ho hk get_list hv hop (put_set hu) ha) fun D σ H ⟨env, Z, f, fl, env', hE, ok, he, k⟩ => ?_
  simp only [ex, Option.bind_eq_some_iff, Option.some.injEq, Prod.mk.injEq] at he
  obtain ⟨q, hq, q', hq', e', hc, rfl, rfl⟩ := he
  obtain ⟨u, u', hg, hu', rfl⟩ := chg_of hc
  have hown : isOwn (gt env i) = true := by
    rw [hg]
    cases u with
    | val p => simp only [onAt, reduceCtorEq] at hu'
    | lst _ => rfl
    | dct _ => rfl
  refine ⟨env, Z, f, .vr i, env, hE, ok, ev_var_own hown, fun v H1 Z1 f1 g1 P1 o1 => ?_⟩
  obtain ⟨hvv, rfl⟩ := o1
  refine ⟨env, Z1, f1, q, P1.rel, hq, fun ky hky => ?_⟩
  obtain ⟨v', g0, hv', hr, nd, sep, fin⟩ := P1.chg hg
  rw [hvv] at hv'
  obtain rfl := Option.some.inj (Option.some.inj hv')
  have hset : ∃ rs z j r r', u = .lst rs ∧ q = .int z ∧ ixOf rs.length z = some j ∧ rs[j]? = some r ∧ (fun w : R => match w with | .val x => augop o x q' | _ => none) r = some r' ∧ putAt u q r' = some u' := by
    cases u <;> cases q <;> simp only [onAt, reduceCtorEq, Option.bind_eq_some_iff, Option.some.injEq] at hu'
    obtain ⟨j, h1, r, hj, r', hr', rfl⟩ := hu'
    exact ⟨_, _, j, r, r', rfl, rfl, h1, hj, hr', by simp only [putAt, h1, Option.bind_some]⟩
  obtain ⟨rs, z, j, r0, r0', rfl, rfl, hj1, hj2, hj3, hput⟩ := hset
  cases r0 <;> simp only [reduceCtorEq] at hj3
  rename_i x0
  obtain ⟨a0, b0, c0, rfl, rfl, rfl⟩ := augop_of hj3
  obtain ⟨a, vs, gg, e, n, r1, qg⟩ := hr
  obtain ⟨vj, ga, gj, gb, e1, e2, e3, e4⟩ := r1.at hj2
  obtain ⟨e5, hx0⟩ := e2
  have hky2 : ky = .int z := hky
  have hvj : vj = .int a0 := hx0
  subst qg
  refine ⟨a, vs, z, vj, e, hky2, .inl (.inl n), atI_of (by rw [r1.len]; exact hj1) e1, env, Z1, f1, .int b0, P1.rel, hq', fun w hw => ⟨a0, b0, c0, hvj, hw, hj3, ?_⟩⟩
  have hr' : Rr X.K H1 Z1 (.lst rs) v (a :: gg) := ⟨a, vs, gg, e, n, r1, rfl⟩
  have hi : Rr X.K H1 Z1 (int c0) (.int c0) [] := ⟨rfl, rfl⟩
  obtain ⟨b, o', g8, _, bin, put, r8, s8, n8⟩ := put_ok hr' (Rp.vw hky) hi nd sep hput
  obtain ⟨f9, P9⟩ := fin b o' u' g8 bin r8 (fun c hc => s8 c hc) n8
  exact put _ (k σ _ _ _ P9.s)
/-! ### three names at once -/
theorem s_par3 {i j l : Nat} {x y z : Str} {a b c : Expr} {ma mb mc : ME} {py pz pt : Pos} {kt k2 : Nat} {pt2 : Pos} (hc : X.calm = true) (hN : X.N.Nodup) (hi : X.N[i]? = some x) (hj : X.N[j]? = some y) (hl : X.N[l]? = some z) (hij : i ≠ j) (hil : i ≠ l) (hjl : j ≠ l)
    (hx : X.env.scope.names.lookup x = some .local) (hy : X.env.scope.names.lookup y = some .local) (hz : X.env.scope.names.lookup z = some .local) (hw : swappedStores [.Tuple [.Name x px, .Name y py, .Name z pz] kt pt] (.Tuple [a, b, c] k2 pt2) X.env = pure (some [x, y, z]))
    (hs : swapsWithSole [.Tuple [.Name x px, .Name y py, .Name z pz] kt pt] (.Tuple [a, b, c] k2 pt2) pos.line X.env = pure false) (ha : PA X [a, b, c] (tAs X.K O [ma, mb, mc])) :
    PS X (.Assign [.Tuple [.Name x px, .Name y py, .Name z pz] kt pt] (.Tuple [a, b, c] k2 pt2) pos) (tSt X.K O (.par [i, j, l] [ma, mb, mc])) := by
  refine PS.imp (ps_par3 hc hN hi hj hl hij hil hjl hx hy hz ha hw hs) fun D σ H ⟨env, Z, f, fl, env', hE, ok, he, k⟩ => ?_
  simp only [ex, Option.bind_eq_some_iff, Option.some.injEq, Prod.mk.injEq] at he
  obtain ⟨x, hx, y, hy, e', hb, rfl, rfl⟩ := he
  refine ⟨env, Z, f, x.1, x.2, hE, ok, hx, fun vs H1 Z1 f1 g1 P1 o1 => ?_⟩
  obtain ⟨f2, g2, P2, r2⟩ := Post.owns (h := []) (by rw [List.append_nil]; exact P1) o1 (show Ev.owns x.1 x.2 = some (y.1, y.2) from hy)
  rw [List.append_nil] at P2
  obtain ⟨y1, y2⟩ := y
  match y1, hb, r2 with
  | [r, r', r''], hb, r2 =>
    obtain ⟨v, w, ga, gb, rfl, h1, ⟨v', w', gc, gd, rfl, h2, ⟨v'', w'', ge, gf, rfl, h3, ⟨rfl, rfl⟩, e3⟩, e4⟩, e5⟩ := r2
    rw [List.append_nil] at e3
    subst e3
    subst e4
    subst e5
    simp only [bindRs, Option.bind_eq_some_iff, Option.some.injEq] at hb
    obtain ⟨ea, hb1, eb, hb2, ec, hb3, rfl⟩ := hb
    refine ⟨v, v', v'', rfl, ?_⟩
    have ne1 : ∀ t, asn t (.par [i, j, l] [ma, mb, mc]) = false → i ≠ t ∧ j ≠ t ∧ l ≠ t := fun t ht => by
      simp only [asn, List.contains_cons, List.contains_nil, Bool.or_false, Bool.or_eq_false_iff, beq_eq_false_iff_ne] at ht
      exact ⟨fun e => ht.1 e.symm, fun e => ht.2.1 e.symm, fun e => ht.2.2 e.symm⟩
    obtain rfl := bindR_nm hb1
    obtain rfl := bindR_nm hb2
    obtain rfl := bindR_nm hb3
    obtain ⟨f3, P3⟩ := P2.s.put (P := fun t => asn t (.par [i, j, l] [ma, mb, mc])) (i := i) h1 fun t ht => (ne1 t ht).1
    obtain ⟨f4, P4⟩ := PostS.put P3 (i := j) h2 fun t ht => (ne1 t ht).2.1
    obtain ⟨f5, P5⟩ := PostS.put (h := []) (by rw [List.append_nil]; exact P4) (i := l) h3 fun t ht => (ne1 t ht).2.2
    exact k _ _ _ _ P5
  | [], hb, _ => simp only [bindRs, reduceCtorEq] at hb
  | [_], hb, _ => simp [bindRs] at hb
  | [_, _], hb, _ => simp [bindRs] at hb
  | _ :: _ :: _ :: _ :: _, hb, _ => simp [bindRs] at hb
/-! ### (*e, ..) -/
theorem froAll_app (rs : List R) : ∀ ds : List PyData, froAll (ds.map .val ++ rs) = ds ++ froAll rs
  | [] => rfl
  | d :: ds => by simp only [List.map_cons, List.cons_append, froAll, fro, froAll_app rs ds]
theorem rrs_vals {K : PySem.W.Frag} {H : Hp} {Z : AP} {ds : List PyData} {vs : List V} (h : Rps K H Z ds vs) : Rrs K H Z (ds.map .val) vs [] := Rps.own ds vs h
theorem s_tupS {e : Expr} {es : List Expr} {m : ME} {ms : List ME} {k0 : Nat} {ps : Pos} (he : PE X e (tEv X.K O m)) (ha : PA X es (tAs X.K O ms)) (hs : starEach (.Starred e ps :: es) X.env = (true, eval e X.env) :: starEach es X.env) :
    PE X (.Tuple (.Starred e ps :: es) k0 pos) (tEv X.K O (.tupS m ms)) := by
  refine PE.imp (pe_tup (StX.pa_star he ha hs)) fun σ H Q ⟨env, Z, f, o', env', hE, ok, he, k⟩ => ?_
  simp only [ev, Option.bind_eq_some_iff] at he
  obtain ⟨x, hx, q, hq, ds, hds, y, hy, z, hz, he⟩ := he
  split at he
  case isFalse => cases he
  rename_i hb
  simp only [Option.some.injEq, Prod.mk.injEq] at he
  obtain ⟨rfl, rfl⟩ := he
  refine ⟨env, Z, f, x.1, x.2, hE, ok, hx, fun v H1 Z1 f1 g1 P1 o1 => ?_⟩
  obtain ⟨q1, q2⟩ := q
  obtain ⟨Z2, f2, P2, w, _⟩ := Post.vw (h := []) (by rw [List.append_nil]; exact P1) o1 hq
  have src : ∃ a vs, v = .ref a ∧ (SqT X.K H1 a vs ∨ SqL X.K H1 a vs) ∧ Rps X.K H1 Z2 ds vs := by
    cases q1 <;> simp only [rowOf, reduceCtorEq, Option.some.injEq] at hds
    · subst hds
      obtain ⟨a, vs, e, n, r⟩ := w
      exact ⟨a, vs, e, .inr n, r⟩
    · subst hds
      obtain ⟨a, vs, e, n, r⟩ := w
      exact ⟨a, vs, e, .inl n.sq, r⟩
  obtain ⟨a, vs, rfl, hsq, hr⟩ := src
  refine ⟨a, vs, rfl, hsq, q2, Z2, f2, y.1, y.2, P2.rel, P2.ok0, hy, fun ws H3 Z3 f3 g3 P3 o3 => ?_⟩
  obtain ⟨f4, g4, P4, r4⟩ := Post.owns (h := []) (by rw [List.append_nil]; exact P3) o3 (show Ev.owns y.1 y.2 = some (z.1, z.2) from hz)
  rw [List.append_nil] at P4
  have hr3 : Rps X.K H3 Z3 ds vs := Rps.mono (fun a o z e => P4.tr.frm a o e fun q => P2.ok0.sep a q z) P4.tr.zle ds vs hr
  have all : Rrs X.K H3 Z3 (ds.map .val ++ z.1) (vs ++ ws) g4 := by
    have := Rrs.app r4 (rrs_vals hr3)
    rwa [List.nil_append] at this
  have P5 := P2.nil_seq P4
  refine ⟨?_, fun p hp => ?_⟩
  · rw [List.length_append, hr3.len, r4.len]
    exact hb
  · obtain ⟨Z6, P6, r6⟩ := P5.mkT all hp
    have e := froAll_app z.1 ds
    rw [e] at r6
    exact k _ _ _ _ _ P6 r6
end
end Ev
set_option autoImplicit false
set_option linter.all false
set_option maxRecDepth 100000
/-! l.extend([(*x, p) for x in l]); two names at once by a tuple. -/
namespace Ev
open PySem L2 PyProof.Rows
def toldT (r : R) : Bool := match r with | .val (.tuple ts) => decide (ts.length < 1000) | _ => false
def gro (q : PyData) (r : R) : R := match r with | .val (.tuple ts) => .val (.tuple (ts ++ [q])) | _ => r
theorem growTo_of {q : PyData} {u u' : R} (h : growTo q u = some u') : ∃ rs, u = .lst rs ∧ rs.length + rs.length ≤ big ∧ rs.all toldT = true ∧ u' = .lst (rs ++ rs.map (gro q)) := by
  cases u <;> simp only [growTo, reduceCtorEq] at h
  split at h
  · rename_i rs c
    simp only [Bool.and_eq_true, decide_eq_true_eq] at c
    exact ⟨rs, rfl, c.1, c.2, (Option.some.inj h).symm⟩
  · cases h
theorem told_at {rs : List R} (h : rs.all toldT = true) {k : Nat} {r : R} (hr : rs[k]? = some r) : ∃ ts, r = .val (.tuple ts) ∧ ts.length < 1000 := by
  have := List.all_eq_true.mp h r (List.mem_of_getElem? hr)
  unfold toldT at this
  split at this
  · exact ⟨_, rfl, by simpa using this⟩
  · cases this
theorem st_same (env : Env) (i : Nat) : st env i (gt env i) = env := by
  induction env generalizing i with
  | nil => rfl
  | cons s e ih => cases i with
    | zero => rfl
    | succ n => simp only [st, gt, ih]
theorem st_twice (env : Env) (i : Nat) (a b : Sl) : st (st env i a) i b = st env i b := by
  induction env generalizing i with
  | nil => rfl
  | cons s e ih => cases i with
    | zero => rfl
    | succ n => simp only [st, ih]
theorem gt_other (env : Env) (i j : Nat) (a : Sl) (h : i ≠ j) : gt (st env i a) j = gt env j := by
  induction env generalizing i j with
  | nil => rfl
  | cons s e ih => cases i with
    | zero => cases j with
      | zero => exact absurd rfl h
      | succ m => rfl
    | succ n => cases j with
      | zero => rfl
      | succ m => simp only [st, gt]; exact ih n m fun e => h (by rw [e])
theorem gt_here (env : Env) (i : Nat) (a : Sl) (h : i < env.length) : gt (st env i a) i = a := by
  induction env generalizing i with
  | nil => exact absurd h (Nat.not_lt_zero _)
  | cons s e ih => cases i with
    | zero => rfl
    | succ n => simp only [st, gt]; exact ih n (Nat.lt_of_succ_lt_succ h)
section
variable {X : Cx} {O : Orc} {pos p px : Pos}
theorem rr_upd {K : PySem.W.Frag} {H : Hp} {Z : AP} {a : Addr} (ha : H a = none) (o : HO) {r : R} {v : V} {g : List Addr} (h : Rr K H Z r v g) : Rr K (upd H a o) Z r v g :=
  Rr.mono (fun b x _ e => upd_keep ha e) (fun _ z => z) r v g (fun c _ x e => upd_keep ha e) h
theorem s_parC {i j : Nat} {x y : Str} {a b : Expr} {ma mb : ME} {py pt : Pos} {kt k2 : Nat} {pt2 : Pos} (hc : X.calm = true) (hN : X.N.Nodup) (hi : X.N[i]? = some x) (hj : X.N[j]? = some y)
    (hx : Loc X.env.scope x) (hy : Loc X.env.scope y) (hfx : X.fn x = true ∨ X.env.scope.names.lookup x = some .local) (hfy : X.fn y = true ∨ X.env.scope.names.lookup y = some .local) (hw : swappedStores [.Tuple [.Name x px, .Name y py] kt pt] (.Tuple [a, b] k2 pt2) X.env = pure none)
    (hs : swapsWithSole [.Tuple [.Name x px, .Name y py] kt pt] (.Tuple [a, b] k2 pt2) pos.line X.env = pure false) (h1 : (assignEach [.Tuple [.Name x px, .Name y py] kt pt] X.env).map (·.2) = [assign (.Tuple [.Name x px, .Name y py] kt pt) X.env])
    (hn : (assignEach [.Name x px, .Name y py] X.env).length = 2) (hst : (assignEach [.Name x px, .Name y py] X.env).findIdx? (·.1) = none) (hl1 : (assignEach [.Name x px, .Name y py] X.env).map (·.2) = assign (.Name x px) X.env :: (assignEach [.Name y py] X.env).map (·.2)) (hl2 : (assignEach [.Name y py] X.env).map (·.2) = assign (.Name y py) X.env :: (assignEach [] X.env).map (·.2))
    (ha : PA X [a, b] (tAs X.K O [ma, mb])) : PS X (.Assign [.Tuple [.Name x px, .Name y py] kt pt] (.Tuple [a, b] k2 pt2) pos) (tSt X.K O (.par [i, j] [ma, mb])) := by
  refine PS.imp (ps_asg (pe_tup ha) (pg_tup hc (pgs_cons (pg_name hN hi hx hfx) (pgs_cons (pg_name hN hj hy hfy) pgs_nil hl2) hl1) hn hst) hs hw h1) fun D σ H ⟨env, Z, f, fl, env', hE, ok, he, k⟩ => ?_
  simp only [ex, Option.bind_eq_some_iff, Option.some.injEq, Prod.mk.injEq] at he
  obtain ⟨x, hx, y, hy, e', hb, rfl, rfl⟩ := he
  refine ⟨env, Z, f, x.1, x.2, hE, ok, hx, fun vs H1 Z1 f1 g1 P1 o1 => ?_⟩
  have hlen : vs.length = 2 := by rw [o1.len, evs_len hx]; rfl
  refine ⟨by rw [hlen]; exact Nat.le_of_lt (small1000 (by decide)), fun pa hpa => ?_⟩
  obtain ⟨f2, g2, P2, r2⟩ := Post.owns (h := []) (by rw [List.append_nil]; exact P1) o1 (show Ev.owns x.1 x.2 = some (y.1, y.2) from hy)
  rw [List.append_nil] at P2
  obtain ⟨y1, y2⟩ := y
  match y1, hb, r2 with
  | [r, r'], hb, r2 =>
    obtain ⟨v, w, ga, gb, rfl, h1, ⟨v', w', gc, gd, rfl, h2, ⟨rfl, rfl⟩, e3⟩, e4⟩ := r2
    subst e4
    rw [List.append_nil] at e3
    subst e3
    simp only [bindRs, Option.bind_eq_some_iff, Option.some.injEq] at hb
    obtain ⟨ea, hb1, eb, hb2, rfl⟩ := hb
    have hz : Stood H1 Z1 := P2.ok.trk
    have N0 : New X.K H1 Z1 (.val .none) .non (upd H1 pa (.tup [v, v'])) Z1 [] :=
      ⟨fun a o e => upd_keep hpa e, fun _ h => h, fun _ h => .inl h, ⟨rfl, rfl⟩, ⟨List.nodup_nil, (fun _ h => absurd h List.not_mem_nil), fun a z => by
        cases e : H1 a with
        | none => exact absurd e (hz a z)
        | some o => rw [upd_keep hpa e]; exact fun q => by cases q⟩, fun _ h => absurd h List.not_mem_nil⟩
    have Pn := Post.new (Post.refl P2.rel P2.ok.left) N0
    have tg : ∀ c ∈ ga ++ gb, H1 c ≠ none := fun c hc => (List.mem_append.mp hc).elim (Rr.trk _ _ _ h1 c) (Rr.trk _ _ _ h2 c)
    have P3 := P2.seq Pn tg
    rw [List.append_nil] at P3
    have k1 : Rr X.K (upd H1 pa (.tup [v, v'])) Z1 r v ga := Rr.mono (fun a o _ e => upd_keep hpa e) (fun _ z => z) r v ga (fun c _ x e => upd_keep hpa e) h1
    have k2 : Rr X.K (upd H1 pa (.tup [v, v'])) Z1 r' v' gb := Rr.mono (fun a o _ e => upd_keep hpa e) (fun _ z => z) r' v' gb (fun c _ x e => upd_keep hpa e) h2
    refine ⟨pa, [v, v'], rfl, .inl (.inl upd_same), hlen, v, [v'], rfl, ?_⟩
    refine ⟨v', [], rfl, ?_⟩
    refine ⟨rfl, ?_⟩
    have ne1 : ∀ t, asn t (.par [i, j] [ma, mb]) = false → i ≠ t ∧ j ≠ t := fun t ht => by
      simp only [asn, List.contains_cons, List.contains_nil, Bool.or_false, Bool.or_eq_false_iff, beq_eq_false_iff_ne] at ht
      exact ⟨fun e => ht.1 e.symm, fun e => ht.2 e.symm⟩
    obtain rfl := bindR_nm hb1
    obtain rfl := bindR_nm hb2
    obtain ⟨f3, P4⟩ := P3.s.put (P := fun t => asn t (.par [i, j] [ma, mb])) (i := i) k1 fun t ht => (ne1 t ht).1
    obtain ⟨f4, P5⟩ := PostS.put (h := []) (by rw [List.append_nil]; exact P4) (i := j) k2 fun t ht => (ne1 t ht).2
    exact k _ _ _ _ P5
  | [], hb, _ => simp only [bindRs, reduceCtorEq] at hb
  | [_], hb, _ => simp [bindRs] at hb
  | _ :: _ :: _ :: _, hb, _ => simp [bindRs] at hb
theorem s_par3C {i j l : Nat} {x y z : Str} {a b c : Expr} {ma mb mc : ME} {py pz pt : Pos} {kt k2 : Nat} {pt2 : Pos} (hc : X.calm = true) (hN : X.N.Nodup) (hi : X.N[i]? = some x) (hj : X.N[j]? = some y) (hl : X.N[l]? = some z)
    (hx : Loc X.env.scope x) (hy : Loc X.env.scope y) (hz : Loc X.env.scope z) (hfx : X.fn x = true ∨ X.env.scope.names.lookup x = some .local) (hfy : X.fn y = true ∨ X.env.scope.names.lookup y = some .local) (hfz : X.fn z = true ∨ X.env.scope.names.lookup z = some .local)
    (hw : swappedStores [.Tuple [.Name x px, .Name y py, .Name z pz] kt pt] (.Tuple [a, b, c] k2 pt2) X.env = pure none)
    (hs : swapsWithSole [.Tuple [.Name x px, .Name y py, .Name z pz] kt pt] (.Tuple [a, b, c] k2 pt2) pos.line X.env = pure false) (h1 : (assignEach [.Tuple [.Name x px, .Name y py, .Name z pz] kt pt] X.env).map (·.2) = [assign (.Tuple [.Name x px, .Name y py, .Name z pz] kt pt) X.env])
    (hn : (assignEach [.Name x px, .Name y py, .Name z pz] X.env).length = 3) (hst : (assignEach [.Name x px, .Name y py, .Name z pz] X.env).findIdx? (·.1) = none) (hl1 : (assignEach [.Name x px, .Name y py, .Name z pz] X.env).map (·.2) = assign (.Name x px) X.env :: (assignEach [.Name y py, .Name z pz] X.env).map (·.2))
    (hl2 : (assignEach [.Name y py, .Name z pz] X.env).map (·.2) = assign (.Name y py) X.env :: (assignEach [.Name z pz] X.env).map (·.2)) (hl3 : (assignEach [.Name z pz] X.env).map (·.2) = assign (.Name z pz) X.env :: (assignEach [] X.env).map (·.2))
    (ha : PA X [a, b, c] (tAs X.K O [ma, mb, mc])) : PS X (.Assign [.Tuple [.Name x px, .Name y py, .Name z pz] kt pt] (.Tuple [a, b, c] k2 pt2) pos) (tSt X.K O (.par [i, j, l] [ma, mb, mc])) := by
  refine PS.imp (ps_asg (pe_tup ha) (pg_tup hc (pgs_cons (pg_name hN hi hx hfx) (pgs_cons (pg_name hN hj hy hfy) (pgs_cons (pg_name hN hl hz hfz) pgs_nil hl3) hl2) hl1) hn hst) hs hw h1) fun D σ H ⟨env, Z, f, fl, env', hE, ok, he, k⟩ => ?_
  simp only [ex, Option.bind_eq_some_iff, Option.some.injEq, Prod.mk.injEq] at he
  obtain ⟨x, hx, y, hy, e', hb, rfl, rfl⟩ := he
  refine ⟨env, Z, f, x.1, x.2, hE, ok, hx, fun vs H1 Z1 f1 g1 P1 o1 => ?_⟩
  have hlen : vs.length = 3 := by rw [o1.len, evs_len hx]; rfl
  refine ⟨by rw [hlen]; exact Nat.le_of_lt (small1000 (by decide)), fun pa hpa => ?_⟩
  obtain ⟨f2, g2, P2, r2⟩ := Post.owns (h := []) (by rw [List.append_nil]; exact P1) o1 (show Ev.owns x.1 x.2 = some (y.1, y.2) from hy)
  rw [List.append_nil] at P2
  obtain ⟨y1, y2⟩ := y
  match y1, hb, r2 with
  | [r, r', r''], hb, r2 =>
    obtain ⟨v, w, ga, gb, rfl, h1, ⟨v', w', gc, gd, rfl, h2, ⟨v'', w'', ge, gf, rfl, h3, ⟨rfl, rfl⟩, e3⟩, e4⟩, e5⟩ := r2
    rw [List.append_nil] at e3
    subst e3
    subst e4
    subst e5
    simp only [bindRs, Option.bind_eq_some_iff, Option.some.injEq] at hb
    obtain ⟨ea, hb1, eb, hb2, ec, hb3, rfl⟩ := hb
    have hz : Stood H1 Z1 := P2.ok.trk
    have N0 : New X.K H1 Z1 (.val .none) .non (upd H1 pa (.tup [v, v', v''])) Z1 [] :=
      ⟨fun a o e => upd_keep hpa e, fun _ h => h, fun _ h => .inl h, ⟨rfl, rfl⟩, ⟨List.nodup_nil, (fun _ h => absurd h List.not_mem_nil), fun a z => by
        cases e : H1 a with
        | none => exact absurd e (hz a z)
        | some o => rw [upd_keep hpa e]; exact fun q => by cases q⟩, fun _ h => absurd h List.not_mem_nil⟩
    have Pn := Post.new (Post.refl P2.rel P2.ok.left) N0
    have P3 := P2.seq Pn (fun c hc => (List.mem_append.mp hc).elim (Rr.trk _ _ _ h1 c) fun hc => (List.mem_append.mp hc).elim (Rr.trk _ _ _ h2 c) (Rr.trk _ _ _ h3 c))
    rw [List.append_nil] at P3
    have k1 := rr_upd hpa (.tup [v, v', v'']) h1
    have k2 := rr_upd hpa (.tup [v, v', v'']) h2
    have k3 := rr_upd hpa (.tup [v, v', v'']) h3
    refine ⟨pa, [v, v', v''], rfl, .inl (.inl upd_same), hlen, v, [v', v''], rfl, ?_⟩
    refine ⟨v', [v''], rfl, ?_⟩
    refine ⟨v'', [], rfl, ?_⟩
    refine ⟨rfl, ?_⟩
    have ne1 : ∀ t, asn t (.par [i, j, l] [ma, mb, mc]) = false → i ≠ t ∧ j ≠ t ∧ l ≠ t := fun t ht => by
      simp only [asn, List.contains_cons, List.contains_nil, Bool.or_false, Bool.or_eq_false_iff, beq_eq_false_iff_ne] at ht
      exact ⟨fun e => ht.1 e.symm, fun e => ht.2.1 e.symm, fun e => ht.2.2 e.symm⟩
    obtain rfl := bindR_nm hb1
    obtain rfl := bindR_nm hb2
    obtain rfl := bindR_nm hb3
    obtain ⟨f3, P4⟩ := P3.s.put (P := fun t => asn t (.par [i, j, l] [ma, mb, mc])) (i := i) k1 fun t ht => (ne1 t ht).1
    obtain ⟨f4, P5⟩ := PostS.put P4 (i := j) k2 fun t ht => (ne1 t ht).2.1
    obtain ⟨f5, P6⟩ := PostS.put (h := []) (by rw [List.append_nil]; exact P5) (i := l) k3 fun t ht => (ne1 t ht).2.2
    exact k _ _ _ _ P6
  | [], hb, _ => simp only [bindRs, reduceCtorEq] at hb
  | [_], hb, _ => simp [bindRs] at hb
  | [_, _], hb, _ => simp [bindRs] at hb
  | _ :: _ :: _ :: _ :: _, hb, _ => simp [bindRs] at hb
end
section
variable {X : Cx} {O : Orc} {pos p px : Pos}
theorem s_grow {xi : Str} {elt tg : Expr} {scope : Scope} {own : List (Str × Nat)} {i x pq : Nat} {apos cpos lpos pi : Pos} (hown : own.map (·.2) = [x]) (hc : X.calm = true) (hN : X.N.Nodup) (ho : PE X (.Name xi px) (tEv X.K O (.var i))) (ho2 : PE X (.Name xi pi) (tEv X.K O (.var i))) (okb : BlkOk X.N X.env.scope scope own)
    (hg : ∀ (s : Shared) (H : Hp) (C : Addr) (cl : List (Str × Addr)) (fp : List Addr), PG (X.blk s H scope (compEnvC scope cl C X.env) fp) tg (gB X.K (.nm x)))
    (he : ∀ (s : Shared) (H : Hp) (C : Addr) (cl : List (Str × Addr)) (fp : List Addr), PE (X.blk s H scope (compEnvC scope cl C X.env) fp) elt (tEv X.K O (.tupS (.var x) [.var pq])))
    (hsf : ∀ y, foldedSetIterable (.Name xi pi) X.env y = pure y)
    (hbase : attributeBase (.Name xi px) "extend" X.env (eval (.Name xi px) X.env) = eval (.Name xi px) X.env)
    (hfew : ((backTo cpos (starEach [.ListComp elt [⟨tg, .Name xi pi, [], 0⟩] scope lpos] X.env)).all (fun x => !x.1) && (backToKw cpos (keywordEach [] X.env)).all (fun x => x.1.isSome) && decide ([Expr.ListComp elt [⟨tg, .Name xi pi, [], 0⟩] scope lpos].length + ([] : List Keyword).length + (if ([] : List Keyword).isEmpty then 0 else 1) < 30)) = true)
    (hline : (apos.endLine == cpos.line) = true) (hsw : swapsWith (.Call (.Attribute (.Name xi px) "extend" apos) [.ListComp elt [⟨tg, .Name xi pi, [], 0⟩] scope lpos] [] cpos) none pos.line X.env = pure false) :
    PS X (.Expr (.Call (.Attribute (.Name xi px) "extend" apos) [.ListComp elt [⟨tg, .Name xi pi, [], 0⟩] scope lpos] [] cpos) pos) (tSt X.K O (.grow i x pq)) := by
  have hlc := pe_lc (pos := lpos) (tt := tC X.K O none) hc hN (pi_list (tg := tg) ho2) okb hg (fun _ _ _ _ _ => c_none) he hsf
  refine PS.imp (ps_expr (pe_bm PySem.F.plainAttrs_list PySem.F.slot_list_extend PySem.F.type_list_extend mt_extend ho (pa_cons hlc pa_nil (star_each rfl [] _)) hbase hfew hline (star_each rfl [] _) rfl) hsw) fun D σ H ⟨env, Z, f, fl, env', hE, ok, he, k⟩ => ?_
  simp only [ex] at he
  split at he
  case h_2 => cases he
  rename_i q hgp
  split at he
  case isFalse => cases he
  rename_i hcond
  simp only [Bool.and_eq_true, bne_iff_ne, ne_eq, decide_eq_true_eq] at hcond
  obtain ⟨⟨⟨⟨hix, hpx⟩, hip⟩, hpl⟩, hxl⟩ := hcond
  simp only [Option.bind_eq_some_iff, Option.some.injEq, Prod.mk.injEq] at he
  obtain ⟨e', hch, rfl, rfl⟩ := he
  obtain ⟨u, u', hgi, hu, rfl⟩ := chg_of hch
  obtain ⟨rs, rfl, hbig, htold, rfl⟩ := growTo_of hu
  have hown1 : isOwn (gt env i) = true := by rw [hgi]; rfl
  refine ⟨env, Z, f, .vr i, env, hE, ok, ev_var_own hown1, fun v H1 Z1 f1 g1 P1 o1 => ?_⟩
  obtain ⟨hv, rfl⟩ := o1
  have ty : L2.tyV X.K "list" v H1 := by
    obtain ⟨v', g0, hv', hr, nd, sep, fin⟩ := P1.chg hgi
    rw [hv] at hv'
    obtain rfl := Option.some.inj (Option.some.inj hv')
    obtain ⟨a, vs, gg, e, n, r1, q⟩ := hr
    subst e
    exact .inl ⟨rfl, vs, .inl (.inl n)⟩
  refine ⟨ty, env, Z1, f1, .vr i, env, P1.rel, P1.ok0, ev_var_own hown1, fun v2 H2 Z2 f2 g2 P2 o2 => ?_⟩
  obtain ⟨hv2, rfl⟩ := o2
  rw [hv] at hv2
  obtain rfl := Option.some.inj (Option.some.inj hv2)
  have P12 := P1.nil_seq P2
  have hlist : ∃ a vs, v = .ref a ∧ H2 a = some (.lst vs) := by
    obtain ⟨v', g0, hv', hr, nd, sep, fin⟩ := P12.chg hgi
    rw [hv] at hv'
    obtain rfl := Option.some.inj (Option.some.inj hv')
    obtain ⟨a, vs, gg, e, n, r1, q⟩ := hr
    exact ⟨a, vs, e, n⟩
  obtain ⟨a, vs0, rfl, n0⟩ := hlist
  refine ⟨a, rfl, ⟨vs0, .inl (.inl n0)⟩, ?_⟩
  intro Dn hD
  rw [hown]
  obtain ⟨fw, E1, sb1, n1⟩ := hide_ok [x] P12.rel
  have hw0 : Ev.wipe env [x] = st env x .no := by cases env <;> rfl
  rw [hw0] at E1
  have okw : Ok H2 Z2 fw := ⟨n1 P12.ok0.nd, fun a ha => P12.ok0.sep a (sb1 a ha), P12.ok0.trk⟩
  have N0 := New.lst (K := X.K) (ds := []) (vs := []) P12.ok0.trk hD rfl
  have P0 := (Post.refl E1 okw).new N0
  have gi0 : gt (st env x .no) i = .sl (.lst rs) := by rw [gt_other _ _ _ _ fun e => hix e.symm]; exact hgi
  have gp0 : gt (st env x .no) pq = .sl (.val q) := by rw [gt_other _ _ _ _ fun e => hpx e.symm]; exact hgp
  have hsx : (L2.wipe σ [x])[i]? = some (some (.ref a)) := by
    rw [L2.wipe_out (by simpa using hix)]
    exact hv
  refine ⟨fun k m H' => ∃ Zk fk, Post X.K (L2.wipe σ [x]) H2 Z2 fw (st env x .no) H' Zk fk [Dn] ∧ Rr X.K H' Zk (.lst ((rs.take k).map (gro q))) (.ref Dn) [Dn] ∧ k ≤ rs.length ∧ m = rs.length - k,
    ⟨rs.length, Z2, fw, P0, by simpa [vals] using N0.rep, Nat.zero_le _, rfl⟩, ?_⟩
  rintro kk m H' ⟨Zk, fk, P, RL, hkk, rfl⟩
  have src : ∃ vs' gg, H' a = some (.lst vs') ∧ Rrs X.K H' Zk rs vs' gg := by
    obtain ⟨y, f1', g0, f2', e1, e2, e3, e4⟩ := P.rel.focus0 (i := i) (by rw [gi0]; exact fun z => by cases z)
    rw [gi0] at e2
    obtain ⟨v', rfl, a', vs', gg, e, n', r1, _⟩ := e2
    rw [hsx] at e1
    obtain rfl := V.ref.inj ((Option.some.inj (Option.some.inj e1)).trans e)
    exact ⟨vs', gg, n', r1⟩
  obtain ⟨vs', gg', n', r1⟩ := src
  by_cases hlt : kk < rs.length
  · right
    have hd : rs[kk]? = some rs[kk] := List.getElem?_eq_getElem hlt
    obtain ⟨ts, hts, htl⟩ := told_at htold hd
    obtain ⟨vk, ga, gj, gb, q1, q2, q3, q4⟩ := r1.at hd
    rw [hts] at q2
    obtain ⟨q5, q6⟩ := q2
    refine ⟨⟨vs', vk, .inl (.inl n'), q1⟩, fun H'' => ∃ Zk fk, Post X.K (L2.wipe σ [x]) H2 Z2 fw (st env x .no) H'' Zk fk [Dn] ∧ Rr X.K H'' Zk (.lst ((rs.take (kk + 1)).map (gro q))) (.ref Dn) [Dn], fun H'' ⟨a1, a2, a3, a4⟩ => ⟨rs.length - (kk + 1), by omega, a1, a2, a3, a4, by omega, rfl⟩, fun xx H'' hyl => ?_⟩
    obtain ⟨rfl, hy2⟩ := hyl
    have hxx : vk = xx := by
      have := hy2 vs' (.inl (.inl n'))
      rw [q1] at this
      exact Option.some.inj this
    subst hxx
    have hb : bindT (.nm x) (.tuple ts) (st env x .no) = some (st env x (.sl (.val (.tuple ts)))) := by
      simp only [bindT]
      have hno : ∀ r, gt (st env x .no) x ≠ .lk r := fun r z => by rw [gt_here _ _ _ hxl] at z; cases z
      split
      · rename_i r hr; exact absurd hr (hno r)
      · rw [st_twice]
    refine ⟨st env x .no, Zk, fk, .tuple ts, _, P.rel, P.ok.left, q6, hb, fun σ2 f2 E2 ok2 s2 u2 => ?_⟩
    have hin : ∀ j, j ∉ [x] → tgHas j (.nm x) = false := fun j hj => by simpa [tgHas] using hj
    have hlen : σ2.length = (L2.wipe σ [x]).length := by rw [← E2.len, bindT_len _ _ _ _ hb, P.rel.len]
    have hw1 : L2.wipe σ2 [x] = L2.wipe σ [x] := by
      have q1 : L2.wipe σ2 [x] = L2.wipe (L2.wipe σ [x]) [x] := wipe_eq hlen fun j hj => u2 j (hin j hj)
      rw [q1]
      exact wipe_eq (by rw [L2.wipe_length]) fun j hj => L2.wipe_out hj
    refine ⟨hw1, ?_⟩
    have okg : Ok H'' Zk (f2 ++ [Dn]) := ok2.mk3 P.ok.right.nd P.ok.right.sep fun a ha hb => P.ok.apart (s2 a ha) hb
    have PB : Post X.K σ2 H2 Z2 fw (st env x (.sl (.val (.tuple ts)))) H'' Zk f2 [Dn] := ⟨E2, okg, P.tr.weak fun a ha => (List.mem_append.mp ha).elim (fun q => List.mem_append_left _ (s2 a q)) (List.mem_append_right _)⟩
    have tg2 := Rr.trk _ _ _ RL
    refine ⟨_, Zk, f2, true, st env x (.sl (.val (.tuple ts))), E2, ok2, by simp only [evC], fun H3 Z3 f3 P3 => ?_⟩
    dsimp only
    rw [if_pos rfl]
    have RL3 := P3.tr.rr okg RL
    have PC := PB.seq P3 tg2
    rw [List.append_nil] at PC
    have gx1 : gt (st env x (.sl (.val (.tuple ts)))) x = .sl (.val (.tuple ts)) := gt_here _ _ _ hxl
    have gp1 : gt (st env x (.sl (.val (.tuple ts)))) pq = .sl (.val q) := by rw [gt_other _ _ _ _ fun e => hpx e.symm]; exact hgp
    have hev : ev O (.tupS (.var x) [.var pq]) (st env x (.sl (.val (.tuple ts)))) = some (.tm (.val (.tuple (ts ++ [q]))), st env x (.sl (.val (.tuple ts)))) := by
      simp only [ev, evs, gx1, gp1, Option.bind_some, view, fro, rowOf, owns, Ev.own, List.length_singleton, froAll]
      rw [if_pos (by simp only [big]; omega)]
    refine ⟨_, Z3, f3, .tm (.val (.tuple (ts ++ [q]))), _, P3.rel, P3.ok0, hev, fun vv H4 Z4 f4 g4 P4 o4 => ?_⟩
    have RL4 := P4.tr.rr PC.ok RL3
    have PD := PC.seq P4 (Rr.trk _ _ _ RL3)
    obtain ⟨f6, PE6, _⟩ := PD.hide [x]
    have hwe : Ev.wipe (st env x (.sl (.val (.tuple ts)))) [x] = st env x .no := by
      have : Ev.wipe (st env x (.sl (.val (.tuple ts)))) [x] = st (st env x (.sl (.val (.tuple ts)))) x .no := by cases (st env x (.sl (.val (.tuple ts)))) <;> rfl
      rw [this, st_twice]
    rw [hw1, hwe] at PE6
    obtain ⟨o5, o6⟩ := o4
    subst o5
    have r5 : Rr X.K H4 Z4 (.val (.tuple (ts ++ [q]))) vv [] := ⟨rfl, o6⟩
    obtain ⟨acc, a1, a2, a3, a4⟩ := Post.app (gg := []) (g5 := []) PE6 hD RL4 r5
    refine ⟨acc, a1, ?_, Z4, f6, a3, ?_⟩
    · rw [a2, List.length_map, List.length_take]
      have : rs.length ≤ sizeLine := Nat.le_trans (Nat.le_add_right _ _) hbig
      omega
    · have e : (rs.take (kk + 1)).map (gro q) = (rs.take kk).map (gro q) ++ [.val (.tuple (ts ++ [q]))] := by
        rw [List.take_succ, hd, hts, List.map_append]
        rfl
      rw [e]
      exact a4
  · left
    refine ⟨⟨vs', .inl (.inl n'), by rw [r1.len]; omega⟩, ?_⟩
    have ek : rs.take kk = rs := List.take_of_length_le (by omega)
    rw [ek] at RL
    have kz : ∀ a o, Z2 a → H2 a = some o → H' a = some o := fun a o z e => P.tr.frm a o e fun q => okw.sep a q z
    obtain ⟨f7, E7, s7, n7⟩ := unhide_ok P12.rel kz P.tr.zle [x] (by simp only [List.all_cons, List.all_nil, Bool.and_true]; exact hpl) P.rel
    rw [restore_wipe] at E7
    have hag : again env (st env x .no) [x] = env := by
      have : again env (st env x .no) [x] = st (st env x .no) x (gt env x) := by cases (st env x .no) <;> rfl
      rw [this, st_twice, st_same]
    rw [hag] at E7
    have PF : Post X.K σ H2 Z2 f2 env H' Zk f7 [Dn] := ⟨E7, Ok.mk3 ⟨n7 P.ok.left.nd, fun a ha => P.ok.left.sep a (s7 a ha), P.ok.trk⟩ P.ok.right.nd P.ok.right.sep (fun a ha hb => P.ok.apart (s7 a ha) hb), (P.tr.weak fun a ha => (List.mem_append.mp ha).elim (fun q => List.mem_append_left _ (s7 a q)) (List.mem_append_right _)).grow sb1⟩
    have PG := P12.nil_seq PF
    obtain ⟨v', g0, hv', hr, nd, sep, fin⟩ := PG.chg hgi
    rw [hv] at hv'
    obtain rfl := Option.some.inj (Option.some.inj hv')
    obtain ⟨a', vs, gg, e, n, r3, qg⟩ := hr
    obtain rfl := V.ref.inj e
    obtain ⟨b, ws, g5, eb, nb, r2, q2⟩ := RL
    obtain rfl := V.ref.inj eb
    subst qg
    obtain ⟨_, rfl⟩ := List.cons.inj q2
    have ndg := List.nodup_append.mp nd
    have na := List.nodup_cons.mp ndg.1
    have keep : ∀ c x, c ≠ a → H' c = some x → upd H' a (.lst (vs ++ ws)) c = some x := fun c x hb e => by rw [upd_ne hb]; exact e
    have kz2 : ∀ c x, Zk c → H' c = some x → upd H' a (.lst (vs ++ ws)) c = some x := fun c x z e => keep c x (fun q => sep a List.mem_cons_self (q ▸ z)) e
    have k1 := Rrs.mono kz2 (fun _ z => z) rs vs gg (fun c hb x e => keep c x (fun q => na.1 (q ▸ hb)) e) r3
    have k2 := Rrs.mono kz2 (fun _ z => z) (rs.map (gro q)) ws [] (fun c hb x e => absurd hb List.not_mem_nil) r2
    obtain ⟨f5, P5⟩ := fin a (.lst (vs ++ ws)) (.lst (rs ++ rs.map (gro q))) (a :: gg) List.mem_cons_self ⟨a, vs ++ ws, gg, rfl, upd_same, by have := Rrs.app k2 k1; rwa [List.append_nil] at this, rfl⟩ (fun b hb => .inl hb) ndg.1
    exact ⟨a, Dn, vs, ws, rfl, rfl, n, nb, by rw [r3.len, r2.len, List.length_map]; exact hbig, k σ _ _ _ P5.s⟩
end
end Ev
set_option autoImplicit false
set_option linter.all false
set_option maxRecDepth 100000
/-! list(range(n)), tuple(range(n)); {k: v}; d.get(k), d.get(k, x). -/
namespace Ev
open PySem L2 PyProof.Rows
section
variable {X : Cx} {O : Orc} {pos p p' pos' : Pos} {e : Expr}
theorem bi_one {K : PySem.W.Frag} {o : Bi} {m : ME} {σ : L2.St} {H : Hp} {Q : VK} {k : V → Hp → Prop} (h : tEv K O (.bi o [m]) σ H Q)
    (hk : ∀ (H1 : Hp) (Z : AP) (q : PyData) (v : V) (r : R), Vw K H1 Z q v → biop o [q] = some r → Stood H1 Z → (∀ (v : V) (H2 : Hp) (Z3 : AP) (f : List Addr), New K H1 Z r v H2 Z3 f → Q v H2) → k v H1) : tEv K O m σ H k := by
  obtain ⟨env, Z, f, o', env', hE, ok, he, kk⟩ := h
  simp only [ev, evs, Option.bind_eq_some_iff, Option.some.injEq, Prod.mk.injEq] at he
  obtain ⟨x, ⟨x0, hx, x1, ⟨rfl, hx1⟩, rfl⟩, y, hy, r, hr, rfl, rfl⟩ := he
  refine ⟨env, Z, f, x0.1, x0.2, hE, ok, hx, fun v H1 Z1 f1 g1 P1 o1 => ?_⟩
  simp only [views, Option.bind_eq_some_iff, Option.some.injEq] at hy
  obtain ⟨z, hz, z1, rfl, rfl⟩ := hy
  obtain ⟨Z2, f2, P2, w, _⟩ := Post.vw (h := []) (by rw [List.append_nil]; exact P1) o1 hz
  exact hk H1 Z2 _ v r w hr P2.ok.trk fun v H2 Z3 f3 N => kk _ _ _ _ _ (P2.new N) N.rep
theorem rgV_nat {i : Int} : rgV 0 i = (List.range i.toNat).map fun (k : Nat) => V.int k := by
  unfold rgV
  rw [Int.sub_zero]
  exact List.map_congr_left fun k _ => by rw [Int.zero_add]
theorem rps_rng {K : PySem.W.Frag} {H : Hp} {Z : AP} : ∀ l : List Nat, Rps K H Z (l.map fun (k : Nat) => PyData.int k) (l.map fun (k : Nat) => V.int k)
  | [] => rfl
  | k :: l => ⟨_, _, rfl, rfl, rps_rng l⟩
theorem s_lrange {m : ME} (hc : X.calm = true) (hg : Gl X "list") (hm : X.mg "list" = none) (hg' : Gl X "range") (hm' : X.mg "range" = none) (hs : noStar e = true) (hs' : noStar (.Call (.Name "range" p') [e] [] pos') = true) (ha : PE X e (tEv X.K O m)) :
    PE X (.Call (.Name "list" p) [.Call (.Name "range" p') [e] [] pos'] [] pos) (tEv X.K O (.bi .lrange [m])) := by
  refine PE.imp (pe_listRg hc hg hm (prg_1 hg' hm' ha (star_each hs [] _)) (star_each hs' [] _)) fun σ H Q h => bi_one h fun H1 Z q v r w hr hz k => ?_
  cases q <;> simp only [biop, reduceCtorEq] at hr
  rename_i i
  split at hr
  case isFalse => cases hr
  rename_i hi
  obtain rfl := Option.some.inj hr
  refine ⟨i, w, ⟨by omega, by omega, by omega, by omega, by omega⟩, fun q hq => ?_⟩
  rw [rgV_nat]
  exact k _ _ _ _ (New.lst hz hq (rps_rng _))
theorem s_trange {m : ME} (hc : X.calm = true) (hg : Gl X "tuple") (hm : X.mg "tuple" = none) (hg' : Gl X "range") (hm' : X.mg "range" = none) (hs : noStar e = true) (hs' : noStar (.Call (.Name "range" p') [e] [] pos') = true) (ha : PE X e (tEv X.K O m)) :
    PE X (.Call (.Name "tuple" p) [.Call (.Name "range" p') [e] [] pos'] [] pos) (tEv X.K O (.bi .trange [m])) := by
  refine PE.imp (pe_tupRg hc hg hm (prg_1 hg' hm' ha (star_each hs [] _)) (star_each hs' [] _)) fun σ H Q h => bi_one h fun H1 Z q v r w hr hz k => ?_
  cases q <;> simp only [biop, reduceCtorEq] at hr
  rename_i i
  split at hr
  case isFalse => cases hr
  rename_i hi
  obtain rfl := Option.some.inj hr
  refine ⟨i, w, ⟨by omega, by omega, by omega, by omega, by omega⟩, fun q hq => ?_⟩
  rw [rgV_nat]
  exact k _ _ _ _ (New.tup hz hq (rps_rng _))
/-! ### {k: v} -/
theorem s_dct1 {ke ve : Expr} {mk mv : ME} (hk : PE X ke (tS X.K mk)) (hv : PE X ve (tS X.K mv)) : PE X (.Dict [some ke] [ve] pos) (tEv X.K O (.dct1 mk mv)) := by
  refine PE.imp (pe_disp (pps_cons hk hv pps_nil) rfl rfl (by simp) (by simp)) fun σ H Q ⟨env, Z, f, o, env', hE, ok, he, k⟩ => ?_
  simp only [ev, Option.bind_eq_some_iff] at he
  obtain ⟨kp, h1, vp, h2, he⟩ := he
  split at he
  case isFalse => cases he
  rename_i hf
  simp only [Option.some.injEq, Prod.mk.injEq] at he
  obtain ⟨rfl, rfl⟩ := he
  intro p hp
  have P0 := Post.refl hE ok
  have keep : ∀ o b x, H b = some x → upd H p o b = some x := fun o b x e => upd_keep hp e
  have E1 : RelE X.K (upd H p (.dK [])) Z env σ f := RelE.mono (fun a o _ e => keep _ a o e) (fun _ z => z) _ _ _ (fun a _ o e => keep _ a o e) hE
  refine ⟨env, Z, f, kp, E1, h1, fun x hx => ⟨env, Z, f, vp, E1, h2, fun y hy => ?_⟩⟩
  obtain ⟨kk, rfl, hkk⟩ := flat_of hx hf
  refine ⟨upd_same, [(kk, y)], rfl, by simp, ?_⟩
  rw [upd_upd]
  have em : mergeK [] [(kk, y)] = [(kk, y)] := rfl
  rw [em]
  have back : ∀ {q : PyData} {u : V}, Rp X.K (upd H p (.dK [])) Z q u → Rp X.K (upd H p (.dK [(kk, y)])) Z q u := fun {q u} h => by
    refine Rp.mono (fun a o z e => ?_) (fun _ z => z) _ _ h
    have ha : a ≠ p := fun e => ok.trk a z (e ▸ hp)
    rw [upd_ne ha] at e ⊢
    exact e
  have N : New X.K H Z (.dct [(kp, .val vp)]) (.ref p) (upd H p (.dK [(kk, y)])) Z [p] := ⟨keep _, fun _ h => h, fun _ h => .inl h, ⟨p, [(kV kk, y)], [], rfl, ⟨[(kk, y)], upd_same, rfl⟩, ⟨kV kk, y, [], [], [], rfl, back hx, ⟨rfl, back hy⟩, ⟨rfl, rfl⟩, rfl⟩, rfl⟩,
    ⟨by simp, fun a ha z => by rw [List.mem_singleton.mp ha] at z; exact ok.trk p z hp, fun a z => by
    cases e : H a with
    | none => exact absurd e (ok.trk a z)
    | some o => rw [keep _ a o e]; exact fun q => by cases q⟩, fun a ha => by rw [List.mem_singleton.mp ha]; exact hp⟩
  exact k _ _ _ _ _ (P0.new N) N.rep
/-! ### get -/
theorem get_val {K : PySem.W.Frag} {H : Hp} {Z : AP} {kvs : List (PyData × PyData)} {q : PyData} {v y : V} (w : Vw K H Z (.dict kvs) v) (hq : Vw K H Z q y) (hk : kOk (keysOf kvs) q = true) :
    ∃ a o, v = .ref a ∧ DGet H a y o ∧ IsD H a ∧ ((dget kvs q = none ∧ o = none) ∨ ∃ d u, dget kvs q = some d ∧ o = some u ∧ Rp K H Z d u) := by
  obtain ⟨a, es, e, ⟨ks, n, q'⟩, w⟩ := w
  subst q'
  obtain ⟨f1, f2⟩ : flatKey q = true ∧ ((kvs.map (·.1))).all flatKey = true := by simpa only [kOk, keysOf, Bool.and_eq_true] using hk
  obtain ⟨kk, e1, e2⟩ := vw_key f1 hq
  subst e2; subst e1
  refine ⟨a, valV ks kk, e, DGet.k n, .inl ⟨ks, .inl n⟩, ?_⟩
  rcases paired_find kk (rpk_flat w f2) with ⟨h1, h2⟩ | ⟨d', v', h1, h2, h3⟩
  · exact .inl ⟨h1, h2⟩
  · exact .inr ⟨d', v', h1, h2, h3⟩
theorem dict_at {K : PySem.W.Frag} {H : Hp} {Z : AP} {kvs : List (PyData × PyData)} {v : V} (w : Vw K H Z (.dict kvs) v) : ∃ a, v = .ref a ∧ IsD H a := by
  obtain ⟨a, es, e, ⟨ks, n, _⟩, _⟩ := w
  exact ⟨a, e, .inl ⟨ks, .inl n⟩⟩
theorem get1_of {K : PySem.W.Frag} {ma m : ME} {σ : L2.St} {H : Hp} {Q : VK} (h : tEv K O (.mt .get1 ma [m]) σ H Q) : tDGet1 (tEv K O ma) (tEv K O m) σ H Q := by
  obtain ⟨env, Z, f, o', env', hE, ok, he, k⟩ := h
  simp only [ev, evs, Option.bind_eq_some_iff, Option.some.injEq] at he
  obtain ⟨x, hx, p0, hp0, y, ⟨y0, hy0, y1, rfl, rfl⟩, p, hp, q, hq, he⟩ := he
  split at he
  case isFalse => cases he
  rename_i hst
  simp only [Option.bind_eq_some_iff, Option.some.injEq, Prod.mk.injEq] at he
  obtain ⟨r, hr, rfl, rfl⟩ := he
  simp only [views, Option.bind_eq_some_iff, Option.some.injEq] at hq
  obtain ⟨z, hz, z1, rfl, rfl⟩ := hq
  obtain ⟨p1, p2⟩ := p
  cases p1 <;> simp only [mtop, reduceCtorEq] at hr
  rename_i kvs
  split at hr
  case isFalse => cases hr
  rename_i hk
  obtain rfl := Option.some.inj hr
  refine ⟨env, Z, f, x.1, x.2, hE, ok, hx, fun v1 H1 Z1 f1 g1 P1 o1 => ?_⟩
  obtain ⟨a, e, d⟩ : ∃ a, v1 = .ref a ∧ IsD H1 a := by
    obtain ⟨p01, p02⟩ := p0
    cases p01 <;> simp only [sameTop, Bool.false_eq_true] at hst
    obtain ⟨Z5, f5, P5, w5, z5⟩ := Post.vw (h := []) (by rw [List.append_nil]; exact P1) o1 hp0
    exact dict_at w5
  refine ⟨a, e, d, x.2, Z1, f1, y0.1, y0.2, P1.rel, P1.ok.left, hy0, fun u H2 Z2 f2 g2 P2 o2 => ?_⟩
  have P := P1.seq P2 o1.trk
  have o1' := P2.tr.ro P1.ok o1
  obtain ⟨Z3, f3, P3, w1, z3⟩ := P.vw o1' hp
  have o2' := o2.mono (fun _ _ _ e => e) z3 (fun _ _ _ e => e)
  obtain ⟨Z4, f4, P4, w2, z4⟩ := Post.vw (h := []) (by rw [List.append_nil]; exact P3) o2' hz
  have w1 := w1.mono (fun _ _ e => e) z4
  obtain ⟨b, ov, e2, g, _, hv⟩ := get_val w1 w2 hk
  rw [e] at e2
  obtain rfl : a = b := V.ref.inj e2
  refine ⟨ov, g, ?_⟩
  rcases hv with ⟨h1, rfl⟩ | ⟨d, w, h1, rfl, h3⟩
  · rw [h1] at k
    have hrr : New K H2 Z4 (.val .none) .non H2 Z4 [] := New.of P4.ok.trk rfl
    exact k _ _ _ _ _ (P4.new hrr) hrr.rep
  · rw [h1] at k
    have hrr : New K H2 Z4 (.val d) w H2 Z4 [] := New.of P4.ok.trk h3
    exact k _ _ _ _ _ (P4.new hrr) hrr.rep
theorem s_get1 {a e : Expr} {ma m : ME} {apos cpos : Pos} (hu : X.A.units + 1 < cLine) (ho : PE X a (tEv X.K O ma)) (he : PE X e (tEv X.K O m)) (h : M1 X a "get" apos e cpos) : PE X (.Call (.Attribute a "get" apos) [e] [] cpos) (tEv X.K O (.mt .get1 ma [m])) :=
  PE.imp (pe_dget1 hu ho he h) fun σ H Q h => get1_of h
end
end Ev
set_option autoImplicit true
set_option linter.all false
set_option maxRecDepth 100000
namespace Ev.Z
open PySem
theorem q_ev_var : ev O (.var i) env =  match gt env i with
    | .sl (.val p) => some (.tm (.val p), env)
    | .sl _ => some (.vr i, env)
    | .lk _ => some (.vr i, env)
    | .no => none := by
  first | rfl | (simp only [ev])
theorem q_ev_cst : ev O (.cst p) env =  some (.tm (.val p), env) := by
  first | rfl | (simp only [ev])
theorem q_ev_tup : ev O (.tup es) env =  (evs O es env).bind fun x => (owns x.1 x.2).bind fun y => some (.tm (.val (.tuple (froAll y.1))), y.2) := by
  first | rfl | (simp only [ev])
theorem q_ev_lst : ev O (.lst es) env =  (evs O es env).bind fun x => (owns x.1 x.2).bind fun y => some (.tm (.lst y.1), y.2) := by
  first | rfl | (simp only [ev])
theorem q_ev_tupS : ev O (.tupS e es) env =  (ev O e env).bind fun x => (view x.1 x.2).bind fun p => (rowOf p.1).bind fun ds =>
      (evs O es p.2).bind fun y => (owns y.1 y.2).bind fun z => if ds.length + z.1.length ≤ big then some (.tm (.val (.tuple (ds ++ froAll z.1))), z.2) else none := by
  first | rfl | (simp only [ev])
theorem q_ev_lstS : ev O (.lstS e es) env =  (ev O e env).bind fun x => (view x.1 x.2).bind fun p => (rowOf p.1).bind fun ds =>
      (evs O es p.2).bind fun y => (owns y.1 y.2).bind fun z => if ds.length + z.1.length ≤ big then some (.tm (.lst (ds.map .val ++ z.1)), z.2) else none := by
  first | rfl | (simp only [ev])
theorem q_ev_bin : ev O (.bin o a b) env =  (ev O a env).bind fun x => (ev O b x.2).bind fun y => (view x.1 y.2).bind fun p => (view y.1 p.2).bind fun q =>
      (binop o p.1 q.1).bind fun r => some (.tm r, q.2) := by
  first | rfl | (simp only [ev])
theorem q_ev_cmp : ev O (.cmp o a b) env =  (ev O a env).bind fun x => (ev O b x.2).bind fun y => (view x.1 y.2).bind fun p => (view y.1 p.2).bind fun q =>
      (cmpop o p.1 q.1).bind fun r => some (.tm (.val (.bool r)), q.2) := by
  first | rfl | (simp only [ev])
theorem q_ev_cmp2 : ev O (.cmp2 o o' a b c) env =  (ev O a env).bind fun x => (ev O b x.2).bind fun y => (view x.1 y.2).bind fun p => (view y.1 p.2).bind fun q =>
      (cmpop o p.1 q.1).bind fun r => if !isI q.1 then none else if r then (ev O c q.2).bind fun z => (view z.1 z.2).bind fun u => (cmpop o' q.1 u.1).bind fun r' => some (.tm (.val (.bool r')), u.2)
        else some (.tm (.val (.bool false)), q.2) := by
  first | rfl | (simp only [ev])
theorem q_ev_nt : ev O (.nt a) env =  (ev O a env).bind fun x => (view x.1 x.2).bind fun p => (asB p.1).bind fun c => some (.tm (.val (.bool (!c))), p.2) := by
  first | rfl | (simp only [ev])
theorem q_ev_an : ev O (.an a b) env =  (ev O a env).bind fun x => (view x.1 x.2).bind fun p => (asB p.1).bind fun c => if c then ev O b p.2 else some (.tm (.val (.bool false)), p.2) := by
  first | rfl | (simp only [ev])
theorem q_ev_or : ev O (.or a b) env =  (ev O a env).bind fun x => (view x.1 x.2).bind fun p => (asB p.1).bind fun c => if c then some (.tm (.val (.bool true)), p.2) else ev O b p.2 := by
  first | rfl | (simp only [ev])
theorem q_ev_ife : ev O (.ife c a b) env =  (ev O c env).bind fun x => (view x.1 x.2).bind fun p => (asB p.1).bind fun k => if k then ev O a p.2 else ev O b p.2 := by
  first | rfl | (simp only [ev])
theorem q_ev_neg : ev O (.neg a) env =  (ev O a env).bind fun x => (view x.1 x.2).bind fun p => match p.1 with
    | .int i => some (.tm (.val (.int (-i))), p.2)
    | _ => none := by
  first | rfl | (simp only [ev])
theorem q_ev_ix : ev O (.ix a b) env =  (ev O a env).bind fun x => (ev O b x.2).bind fun y => (view x.1 y.2).bind fun p => (view y.1 p.2).bind fun q =>
      (ixop p.1 q.1).bind fun r => some (.tm (.val r), q.2) := by
  first | rfl | (simp only [ev])
theorem q_ev_sl : ev O (.sl a lo hi) env =  (ev O a env).bind fun x => (evO O lo x.2).bind fun y => (evO O hi y.2).bind fun z => (view x.1 z.2).bind fun p =>
      (slop p.1 y.1 z.1).bind fun r => some (.tm r, p.2) := by
  first | rfl | (simp only [ev])
theorem q_ev_rv : ev O (.rv a) env =  (ev O a env).bind fun x => (view x.1 x.2).bind fun p => (revop p.1).bind fun r => some (.tm r, p.2) := by
  first | rfl | (simp only [ev])
theorem q_ev_call : ev O (.call f es) env =  (evs O es env).bind fun x => (owns x.1 x.2).bind fun y => (O.call f y.1).bind fun z => some (.tm z.1, back x.1 z.2 y.2) := by
  first | rfl | (simp only [ev])
theorem q_ev_bi : ev O (.bi o es) env =  (evs O es env).bind fun x => (views x.1 x.2).bind fun y => (biop o y.1).bind fun r => some (.tm r, y.2) := by
  first | rfl | (simp only [ev])
theorem q_ev_mt : ev O (.mt o a es) env =  (ev O a env).bind fun x => (view x.1 x.2).bind fun p0 => (evs O es x.2).bind fun y => (view x.1 y.2).bind fun p => (views y.1 p.2).bind fun q =>
      if sameTop p0.1 p.1 then (mtop o (p.1 :: q.1)).bind fun r => some (.tm r, q.2) else none := by
  first | rfl | (simp only [ev])
theorem q_ev_isi : ev O (.isi a ts) env =  (ev O a env).bind fun x => (view x.1 x.2).bind fun p => some (.tm (.val (.bool (ts.any fun t => isTy t p.1))), p.2) := by
  first | rfl | (simp only [ev])
theorem q_ev_pop : ev O (.pop i) env =  match gt env i with
    | .sl (.lst rs) => match rs.getLast? with
      | some (.val p) => some (.tm (.val p), st env i (.sl (.lst rs.dropLast)))
      | _ => none
    | _ => none := by
  first | rfl | (simp only [ev])
theorem q_ev_popAt : ev O (.popAt i k) env =  if isOwn (gt env i) then (ev O k env).bind fun x => (view x.1 x.2).bind fun p => match p.1, gt p.2 i with
      | .int z, .sl (.lst rs) => (ixOf rs.length z).bind fun j => (rs[j]?).bind fun r => some (.tm r, st p.2 i (.sl (.lst (rs.eraseIdx j))))
      | _, _ => none
    else none := by
  first | rfl | (simp only [ev])
theorem q_ev_lc : ev O (.lc elt tg it cnd own') env =  (evI O it env).bind fun x => if own'.all (fun i => plainSl (gt x.2.2 i)) then
      (mapE (fun d e => (bindT tg d e).bind fun e1 => (evC O cnd e1).bind fun c => if c.1 then (ev O elt c.2).bind fun y => (own y.1 y.2).bind fun r => some (some r.1, wipe r.2 own') else some (none, wipe c.2 own')) x.1 (wipe x.2.2 own')).bind fun y =>
      if y.1.length ≤ big then some (.tm (.lst y.1), unlock x.2.1 (again x.2.2 y.2 own')) else none
      else none := by
  first | rfl | (simp only [ev])
theorem q_ev_lc2 : ev O (.lc2 elt tg it tg' it' cnd own1 own2) env =  (evI O it env).bind fun x => if own1.all (fun i => plainSl (gt x.2.2 i)) then
      (mapEs (fun d e => (bindT tg d e).bind fun e1 => (evI O it' e1).bind fun u =>
        (mapE (fun d' e' => (bindT tg' d' e').bind fun e2 => (evC O cnd e2).bind fun c => if c.1 then (ev O elt c.2).bind fun y => (own y.1 y.2).bind fun r => some (some r.1, wipe r.2 own2) else some (none, wipe c.2 own2)) u.1 (wipe u.2.2 own2)).bind fun y =>
          some (y.1, wipe y.2 own1)) x.1 (wipe x.2.2 own1)).bind fun y =>
      if y.1.length ≤ big then some (.tm (.lst y.1), again x.2.2 y.2 own1) else none
      else none := by
  first | rfl | (simp only [ev])
theorem q_ev_dc : ev O (.dc k v tg it own') env =  (evI O it env).bind fun x =>
      (mapK (fun d e => (bindT tg d e).bind fun e1 => (ev O k e1).bind fun a => (view a.1 a.2).bind fun p => (ev O v p.2).bind fun b => (own b.1 b.2).bind fun r => some (p.1, r.1, wipe r.2 own')) [] x.1 (wipe x.2.2 own')).bind fun y =>
      some (.tm (.dct y.1), unlock x.2.1 (again x.2.2 y.2 own')) := by
  first | rfl | (simp only [ev])
theorem q_ev_dct : ev O (.dct kvs) env =  (evP O [] kvs env).bind fun x => some (.tm (.dct x.1), x.2) := by
  first | rfl | (simp only [ev])
theorem q_ev_dct1 : ev O (.dct1 k v) env =  (smp k env).bind fun p => (smp v env).bind fun q => if flatKey p then some (.tm (.dct [(p, .val q)]), env) else none := by
  first | rfl | (simp only [ev])
theorem q_ev_key : ev O (.key a i k) env =  (ev O a env).bind fun x => (view x.1 x.2).bind fun p => (itemsOf p.1).bind fun ds =>
      (keysE (fun d e => (bindT (.nm i) d e).bind fun e1 => (ev O k e1).bind fun y => (view y.1 y.2).bind fun q => some (q.1, wipe q.2 [i])) ds (wipe p.2 [i])).bind fun ks =>
      if allAlike ks.1 then some (.tm (vals ((ds.zip ks.1).mergeSort (fun u v => le u.2 v.2) |>.map (·.1))), again p.2 ks.2 [i]) else none := by
  first | rfl | (simp only [ev])
theorem q_evs_nil : evs O ([]) env =  some ([], env) := by
  first | rfl | (simp only [evs])
theorem q_evs_ees : evs O (e :: es) env =  (ev O e env).bind fun x => (evs O es x.2).bind fun y => some (x.1 :: y.1, y.2) := by
  first | rfl | (simp only [evs])
theorem q_evO_none : evO O (none) env =  some (none, env) := by
  first | rfl | (simp only [evO])
theorem q_evO_somee : evO O (some e) env =  (ev O e env).bind fun x => (view x.1 x.2).bind fun p => match p.1 with
    | .int i => some (some i, p.2)
    | _ => none := by
  first | rfl | (simp only [evO])
theorem q_evC_none : evC O (none) env =  some (true, env) := by
  first | rfl | (simp only [evC])
theorem q_evC_somee : evC O (some e) env =  (ev O e env).bind fun x => (view x.1 x.2).bind fun p => (asB p.1).bind fun c => some (c, p.2) := by
  first | rfl | (simp only [evC])
theorem q_evI_rng : evI O (.rng a) env =  (ev O a env).bind fun x => (view x.1 x.2).bind fun p => match p.1 with
    | .int i => if near i then some (rngOf 0 i, none, p.2) else none
    | _ => none := by
  first | rfl | (simp only [evI])
theorem q_evI_rng2 : evI O (.rng2 a b) env =  (ev O a env).bind fun x => (ev O b x.2).bind fun y => (view x.1 y.2).bind fun p => (view y.1 p.2).bind fun q => match p.1, q.1 with
    | .int i, .int j => if near i && near j then some (rngOf i j, none, q.2) else none
    | _, _ => none := by
  first | rfl | (simp only [evI])
theorem q_evI_enum : evI O (.enum a) env =  (ev O a env).bind fun x => walk x.1 (fun p => (rowOf p).map (enumOf 0)) x.2 := by
  first | rfl | (simp only [evI])
theorem q_evI_zip : evI O (.zip a b) env =  (ev O a env).bind fun x => (ev O b x.2).bind fun y => (view x.1 y.2).bind fun p => (view y.1 p.2).bind fun q =>
      (rowOf p.1).bind fun ds => (rowOf q.1).bind fun es => some ((ds.zip es).map fun u => .tuple [u.1, u.2], none, q.2) := by
  first | rfl | (simp only [evI])
theorem q_evI_items : evI O (.items a) env =  (ev O a env).bind fun x => walk x.1 (fun p => match p with | .dict kvs => some (kvs.map fun e => .tuple [e.1, e.2]) | _ => none) x.2 := by
  first | rfl | (simp only [evI])
theorem q_evI_vals : evI O (.vals a) env =  (ev O a env).bind fun x => walk x.1 (fun p => match p with | .dict kvs => some (kvs.map (·.2)) | _ => none) x.2 := by
  first | rfl | (simp only [evI])
theorem q_evI_seq : evI O (.seq a) env =  (ev O a env).bind fun x => walk x.1 rowOf x.2 := by
  first | rfl | (simp only [evI])
theorem q_ex_nop : ex O (.nop) env =  some (.nx, env) := by
  first | rfl | (simp only [ex])
theorem q_ex_asg : ex O (.asg tg e) env =  (ev O e env).bind fun x => (own x.1 x.2).bind fun r => (bindR tg r.1 r.2).bind fun e' => some (.nx, e') := by
  first | rfl | (simp only [ex])
theorem q_ex_par : ex O (.par is es) env =  (evs O es env).bind fun x => (owns x.1 x.2).bind fun r => (bindRs is r.1 r.2).bind fun e' => some (.nx, e') := by
  first | rfl | (simp only [ex])
theorem q_ex_aug : ex O (.aug i o e) env =  match gt env i with
    | .sl (.val p) => (ev O e env).bind fun x => (view x.1 x.2).bind fun q => (augop o p q.1).bind fun r => (bindR (.nm i) r q.2).bind fun e' => some (.nx, e')
    | _ => none := by
  first | rfl | (simp only [ex])
theorem q_ex_six : ex O (.six i k v) env =  (ev O v env).bind fun x => (own x.1 x.2).bind fun r => if isOwn (gt r.2 i) then (ev O k r.2).bind fun y => (view y.1 y.2).bind fun q =>
      (chg i (fun u => putAt u q.1 r.1) q.2).bind fun e' => some (.nx, e') else none := by
  first | rfl | (simp only [ex])
theorem q_ex_six2 : ex O (.six2 i k k' v) env =  (ev O v env).bind fun x => (own x.1 x.2).bind fun r => (smp k r.2).bind fun q => (smp k' r.2).bind fun q' =>
      (chg i (fun u => onAt (fun w => putAt w q' r.1) u q) r.2).bind fun e' => some (.nx, e') := by
  first | rfl | (simp only [ex])
theorem q_ex_aix : ex O (.aix i k o v) env =  (smp k env).bind fun q => (smp v env).bind fun p => (chg i (fun u => onAt (fun w => match w with | .val x => augop o x p | _ => none) u q) env).bind fun e' => some (.nx, e') := by
  first | rfl | (simp only [ex])
theorem q_ex_app : ex O (.app i e) env =  if isLst (gt env i) then (ev O e env).bind fun x => (own x.1 x.2).bind fun r => (chg i (addTo r.1) r.2).bind fun e' => some (.nx, e') else none := by
  first | rfl | (simp only [ex])
theorem q_ex_app2 : ex O (.app2 i k e) env =  (smp k env).bind fun q => (smp e env).bind fun p => (chg i (fun u => onAt (addTo (.val p)) u q) env).bind fun e' => some (.nx, e') := by
  first | rfl | (simp only [ex])
theorem q_ex_ext : ex O (.ext i e) env =  if isLst (gt env i) then (ev O e env).bind fun x => match x.1 with
      | .tm (.lst rs) => (chg i (extTo rs) x.2).bind fun e' => some (.nx, e')
      | _ => none
    else none := by
  first | rfl | (simp only [ex])
theorem q_ex_grow : ex O (.grow i x p) env =  match gt env p with
    | .sl (.val q) => if i != x && p != x && i != p && plainSl (gt env x) && decide (x < env.length) then (chg i (growTo q) env).bind fun e' => some (.nx, e') else none
    | _ => none := by
  first | rfl | (simp only [ex])
theorem q_ex_rem : ex O (.rem i e) env =  if isOwn (gt env i) then (ev O e env).bind fun x => (view x.1 x.2).bind fun p => (chg i (remOf p.1) p.2).bind fun e' => some (.nx, e') else none := by
  first | rfl | (simp only [ex])
theorem q_ex_exp : ex O (.exp e) env =  (ev O e env).bind fun x => some (.nx, x.2) := by
  first | rfl | (simp only [ex])
theorem q_ex_ret : ex O (.ret e) env =  (ev O e env).bind fun x => (own x.1 x.2).bind fun r => some (.ret r.1, r.2) := by
  first | rfl | (simp only [ex])
theorem q_ex_retN : ex O (.retN) env =  some (.ret (.val .none), env) := by
  first | rfl | (simp only [ex])
theorem q_ex_ite : ex O (.ite c a b) env =  (ev O c env).bind fun x => (view x.1 x.2).bind fun p => (asB p.1).bind fun k => if k then exs O a p.2 else exs O b p.2 := by
  first | rfl | (simp only [ex])
theorem q_ex_wh : ex O (.wh c b) env =  O.wh (fun e => (ev O c e).bind fun x => (view x.1 x.2).bind fun p => (asB p.1).bind fun k => some (k, p.2)) (fun e => exs O b e) env := by
  first | rfl | (simp only [ex])
theorem q_ex_forr : ex O (.for tg it b) env =  (evI O it env).bind fun x => (forL (fun d e => (bindT tg d e).bind fun e1 => exs O b e1) x.1 x.2.2).bind fun y => some (y.1, unlock x.2.1 y.2) := by
  first | rfl | (simp only [ex])
theorem q_ex_brk : ex O (.brk) env =  some (.brk, env) := by
  first | rfl | (simp only [ex])
theorem q_ex_cnt : ex O (.cnt) env =  some (.cnt, env) := by
  first | rfl | (simp only [ex])
theorem q_ex_never : ex O (.never) env =  none := by
  first | rfl | (simp only [ex])
theorem q_exs_nil : exs O ([]) env =  some (.nx, env) := by
  first | rfl | (simp only [exs])
theorem q_exs_sss : exs O (s :: ss) env =  (ex O s env).bind fun x => match x.1 with
    | .nx => exs O ss x.2
    | f => some (f, x.2) := by
  first | rfl | (simp only [exs])
set_option autoImplicit false
theorem mapE_pure {f : PyData → Env → Option (Option R × Env)} {g : PyData → Option R} {env : Env} : ∀ {ds : List PyData}, (∀ d ∈ ds, f d env = some (g d, env)) → mapE f ds env = some (ds.filterMap g, env)
  | [], _ => rfl
  | d :: ds, h => by
    simp only [mapE, h d List.mem_cons_self, Option.bind_some, mapE_pure fun x hx => h x (List.mem_cons_of_mem _ hx)]
    cases hg : g d <;> simp [List.filterMap_cons, hg]
theorem lc_run {O : Orc} {elt : ME} {tg : MT} {it : MI} {cnd : Option ME} {own' : List Nat} {env env1 : Env} {ds : List PyData} {g : PyData → Option R} (hi : evI O it env = some (ds, none, env1)) (hp : own'.all (fun i => plainSl (gt env1 i)) = true) (hb : ds.length ≤ big)
    (hf : ∀ d ∈ ds, ((bindT tg d (wipe env1 own')).bind fun e1 => (evC O cnd e1).bind fun c => if c.1 then (ev O elt c.2).bind fun y => (own y.1 y.2).bind fun r => some (some r.1, wipe r.2 own') else some (none, wipe c.2 own')) = some (g d, wipe env1 own')) :
    ev O (.lc elt tg it cnd own') env = some (.tm (.lst (ds.filterMap g)), again env1 (wipe env1 own') own') := by
  rw [q_ev_lc, hi, Option.bind_some]
  dsimp only
  rw [if_pos hp, mapE_pure (g := g) hf, Option.bind_some]
  dsimp only
  rw [if_pos (Nat.le_trans (List.length_filterMap_le _ _) hb)]
  rfl
theorem forL_inv {f : PyData → Env → Option (Fl × Env)} {ds : List PyData} (Iv : Nat → Env → Prop) (hs : ∀ i d env, ds[i]? = some d → Iv i env → ∃ env', f d env = some (.nx, env') ∧ Iv (i + 1) env') :
    ∀ {k : Nat} {i : Nat} {env : Env}, ds.length = i + k → Iv i env → ∃ env', forL f (ds.drop i) env = some (.nx, env') ∧ Iv ds.length env'
  | 0, i, env, hl, h => by
    rw [List.drop_eq_nil_of_le (by omega)]
    exact ⟨env, rfl, by rw [hl]; simpa using h⟩
  | k + 1, i, env, hl, h => by
    have hi : i < ds.length := by omega
    obtain ⟨env', h1, h2⟩ := hs i ds[i] env (List.getElem?_eq_getElem hi) h
    obtain ⟨e2, h3, h4⟩ := forL_inv (k := k) (i := i + 1) Iv hs (by omega) h2
    refine ⟨e2, ?_, h4⟩
    rw [List.drop_eq_getElem_cons hi]
    simp only [forL, h1, Option.bind_some]
    exact h3
theorem for_run {O : Orc} {tg : MT} {it : MI} {b : List MS} {env env1 : Env} {ds : List PyData} (Iv : Nat → Env → Prop) (hi : evI O it env = some (ds, none, env1)) (h0 : Iv 0 env1)
    (hs : ∀ i d e, ds[i]? = some d → Iv i e → ∃ e1 e', bindT tg d e = some e1 ∧ exs O b e1 = some (.nx, e') ∧ Iv (i + 1) e') : ∃ e', ex O (.for tg it b) env = some (.nx, e') ∧ Iv ds.length e' := by
  obtain ⟨e', h1, h2⟩ := forL_inv (f := fun d e => (bindT tg d e).bind fun e1 => exs O b e1) Iv (fun i d e hd h => by
    obtain ⟨e1, e', a, b, c⟩ := hs i d e hd h
    exact ⟨e', by rw [a, Option.bind_some, b], c⟩) (k := ds.length) (i := 0) (by omega) h0
  refine ⟨e', ?_, h2⟩
  rw [q_ex_forr, hi, Option.bind_some]
  rw [List.drop_zero] at h1
  dsimp only
  rw [h1, Option.bind_some]
  rfl
theorem call_run {T : List Dfn} {wh : (Env → Option (Bool × Env)) → (Env → Option (Fl × Env)) → Env → Option (Fl × Env)} {n f : Nat} {args : List R} {d : Dfn} {fl : Fl} {env : Env} {r : R} (hT : T[f]? = some d) (hl : args.length = d.np ∧ handOk d.body 0 args = true) (hx : exs ⟨callN T wh n, wh⟩ d.body (enter d args) = some (fl, env)) (ha : answer fl = some r) :
    callN T wh (n + 1) f args = some (r, outsOf env 0 args) := by
  simp only [callN, hT, Option.bind_some, if_pos hl, hx, ha]
theorem shB (b : Bool) : SeqAt.shaped (.bool b) = true := by cases b <;> decide
theorem shI (i : Int) : SeqAt.shaped (.int i) = true := by
  simp [SeqAt.shaped, PyData.canLay0, PyData.depth]
theorem eqB (a b : Bool) : (PyData.bool a).eqv (.bool b) = (a == b) := by cases a <;> cases b <;> decide
theorem eqI (a b : Int) : (PyData.int a).eqv (.int b) = (a == b) := by simp [PyData.eqv]
theorem rng_run {O : Orc} {a : ME} {env e1 : Env} {i : Int} (h : ev O a env = some (.tm (.val (.int i)), e1)) (hn : near i = true) : evI O (.rng a) env = some (rngOf 0 i, none, e1) := by
  rw [q_evI_rng, h]
  simp only [Option.bind_some, view, fro, hn, if_true]
theorem rng2_run {O : Orc} {a b : ME} {env e1 e2 : Env} {i j : Int} (h : ev O a env = some (.tm (.val (.int i)), e1)) (h2 : ev O b e1 = some (.tm (.val (.int j)), e2)) (hn : near i = true) (hn2 : near j = true) : evI O (.rng2 a b) env = some (rngOf i j, none, e2) := by
  rw [q_evI_rng2, h]
  simp only [Option.bind_some, h2, view, fro, hn, hn2, if_true, Bool.and_self]
theorem near_of_le {i : Int} (h1 : -1000 ≤ i) (h2 : i ≤ 100000) : near i = true := by
  simp only [near, decide_eq_true_eq]
  omega
theorem len_tup (ds : List PyData) : biop .len [.tuple ds] = some (.val (.int ds.length)) := rfl
theorem len_lst (ds : List PyData) : biop .len [.list ds] = some (.val (.int ds.length)) := rfl
theorem ne_int (i j : Int) : cmpop .ne (.int i) (.int j) = some (!(i == j)) := by simp only [cmpop, eqp, shI, eqI, Bool.and_self, if_true, Option.map_some]
theorem eq_int (i j : Int) : cmpop .eq (.int i) (.int j) = some (i == j) := by simp only [cmpop, eqp, shI, eqI, Bool.and_self, if_true]
theorem ne_bool (i j : Bool) : cmpop .ne (.bool i) (.bool j) = some (!(i == j)) := by simp only [cmpop, eqp, shB, eqB, Bool.and_self, if_true, Option.map_some]
theorem eq_bool (i j : Bool) : cmpop .eq (.bool i) (.bool j) = some (i == j) := by simp only [cmpop, eqp, shB, eqB, Bool.and_self, if_true]
theorem eq_nil : cmpop .eq (.list []) (.list []) = some true := by decide
end Ev.Z
set_option autoImplicit true
set_option linter.all false
set_option maxRecDepth 100000
/-! Values of expressions that change nothing (E: a temporary, W: what is seen of it), and what statements do to the slots. -/
namespace Ev.Z
open PySem
theorem st_gt : ∀ (env : Env) (i : Nat), st env i (gt env i) = env
  | [], _ => rfl
  | _ :: _, 0 => rfl
  | s :: e, n + 1 => by simp [st, gt, st_gt e n]
theorem len_st : ∀ (env : Env) (i : Nat) (x : Sl), (st env i x).length = env.length
  | [], _, _ => rfl
  | _ :: _, 0, _ => rfl
  | s :: e, n + 1, x => by simp [st, len_st e n]
theorem gt_st_ne : ∀ (env : Env) (i j : Nat) (x : Sl), i ≠ j → gt (st env i x) j = gt env j
  | [], _, _, _, _ => rfl
  | s :: e, 0, 0, x, h => absurd rfl h
  | s :: e, 0, j + 1, x, h => rfl
  | s :: e, i + 1, 0, x, h => rfl
  | s :: e, i + 1, j + 1, x, h => by simp only [st, gt]; exact gt_st_ne e i j x (by omega)
theorem gt_st_eq : ∀ (env : Env) (i : Nat) (x : Sl), i < env.length → gt (st env i x) i = x
  | [], _, _, h => absurd h (by simp)
  | s :: e, 0, x, h => rfl
  | s :: e, i + 1, x, h => by simp only [st, gt]; exact gt_st_eq e i x (by simpa using h)
theorem gt_out : ∀ (env : Env) (i : Nat), env.length ≤ i → gt env i = .no
  | [], _, _ => rfl
  | s :: e, 0, h => absurd h (by simp)
  | s :: e, i + 1, h => by simp only [gt]; exact gt_out e i (by simpa using h)
theorem st_out : ∀ (env : Env) (i : Nat) (x : Sl), env.length ≤ i → st env i x = env
  | [], _, _, _ => rfl
  | s :: e, 0, x, h => absurd h (by simp)
  | s :: e, i + 1, x, h => by simp only [st]; rw [st_out e i x (by simpa using h)]
theorem st_st : ∀ (env : Env) (i : Nat) (x y : Sl), st (st env i x) i y = st env i y
  | [], _, _, _ => rfl
  | s :: e, 0, x, y => rfl
  | s :: e, i + 1, x, y => by simp only [st, st_st e i]
theorem st_comm : ∀ (env : Env) (i j : Nat) (x y : Sl), i ≠ j → st (st env i x) j y = st (st env j y) i x
  | [], _, _, _, _, _ => rfl
  | s :: e, 0, 0, x, y, h => absurd rfl h
  | s :: e, 0, j + 1, x, y, h => rfl
  | s :: e, i + 1, 0, x, y, h => rfl
  | s :: e, i + 1, j + 1, x, y, h => by simp only [st]; rw [st_comm e i j x y (by omega)]
theorem env_ext : ∀ {a b : Env}, a.length = b.length → (∀ i, gt a i = gt b i) → a = b
  | [], [], _, _ => rfl
  | [], _ :: _, h, _ => absurd h (by simp)
  | _ :: _, [], h, _ => absurd h (by simp)
  | s :: a, s' :: b, h, hg => by
    have h0 := hg 0
    simp only [gt] at h0
    rw [h0, env_ext (a := a) (b := b) (by simpa using h) fun i => by simpa only [gt] using hg (i + 1)]
theorem len_again (old : Env) : ∀ (is : List Nat) (env : Env), (Ev.again old env is).length = env.length
  | [], env => rfl
  | i :: is, env => by rw [Ev.again, len_st, len_again old is]
theorem len_wipe : ∀ (is : List Nat) (env : Env), (Ev.wipe env is).length = env.length
  | [], env => rfl
  | i :: is, env => by rw [Ev.wipe, len_st, len_wipe is]
theorem gt_again (old : Env) : ∀ (is : List Nat) (env : Env) (j : Nat), env.length = old.length → gt (Ev.again old env is) j = if j ∈ is then gt old j else gt env j
  | [], env, j, _ => by simp [Ev.again]
  | i :: is, env, j, h => by
    rw [Ev.again]
    by_cases hij : i = j
    · subst hij
      by_cases hl : i < env.length
      · rw [gt_st_eq _ _ _ (by rw [len_again]; exact hl)]
        simp
      · rw [gt_out _ _ (by rw [len_st, len_again]; omega)]
        rw [gt_out old i (by omega)]
        simp
    · rw [gt_st_ne _ _ _ _ hij, gt_again old is env j h]
      simp only [List.mem_cons, show ¬ j = i from fun e => hij e.symm, false_or]
theorem gt_wipe : ∀ (is : List Nat) (env : Env) (j : Nat), j ∉ is → gt (Ev.wipe env is) j = gt env j
  | [], env, j, _ => by simp [Ev.wipe]
  | i :: is, env, j, h => by
    simp only [List.mem_cons, not_or] at h
    rw [Ev.wipe, gt_st_ne _ _ _ _ (fun e => h.1 e.symm), gt_wipe is env j h.2]
theorem again_wipe (env : Env) (is : List Nat) : Ev.again env (Ev.wipe env is) is = env := by
  refine env_ext (by rw [len_again, len_wipe]) fun j => ?_
  rw [gt_again env is _ j (len_wipe is env)]
  by_cases h : j ∈ is
  · rw [if_pos h]
  · rw [if_neg h, gt_wipe is env j h]
/-- env differs from old in the slots is alone -/
theorem again_of (old env : Env) (is : List Nat) (hl : env.length = old.length) (h : ∀ j, j ∉ is → gt env j = gt old j) : Ev.again old env is = old := by
  refine env_ext (by rw [len_again, hl]) fun j => ?_
  rw [gt_again old is _ j hl]
  by_cases hj : j ∈ is
  · rw [if_pos hj]
  · rw [if_neg hj, h j hj]
theorem froAll_val : ∀ ds : List PyData, froAll (ds.map R.val) = ds
  | [] => rfl
  | d :: ds => by simp only [List.map_cons, froAll, fro, froAll_val ds]
theorem froAll_map {α : Type} (f : α → PyData) (xs : List α) : froAll (xs.map fun x => R.val (f x)) = xs.map f := by
  rw [← froAll_val (xs.map f), List.map_map]
  rfl
theorem fro_vals (ds : List PyData) : fro (vals ds) = .list ds := by rw [vals, fro, froAll_val]
theorem shal_vals (ds : List PyData) : shal (vals ds) = vals ds := by
  simp only [vals, shal, List.map_map]
  congr 1
def E (O : Orc) (e : ME) (env : Env) (r : R) : Prop := ev O e env = some (.tm r, env)
def W (O : Orc) (e : ME) (env : Env) (p : PyData) : Prop := ∃ o, ev O e env = some (o, env) ∧ view o env = some (p, env)
section
variable {O : Orc} {env : Env}
theorem E.w {e : ME} {r : R} (h : E O e env r) : W O e env (fro r) := ⟨.tm r, h, rfl⟩
theorem E.wv {e : ME} {p : PyData} (h : E O e env (.val p)) : W O e env p := ⟨.tm (.val p), h, rfl⟩
theorem E.wl {e : ME} {ds : List PyData} (h : E O e env (vals ds)) : W O e env (.list ds) := by rw [← fro_vals ds]; exact h.w
theorem E.var {i : Nat} {p : PyData} (h : gt env i = .sl (.val p)) : E O (.var i) env (.val p) := by
  unfold E; rw [q_ev_var, h]
theorem W.var {i : Nat} {p : PyData} (h : gt env i = .sl (.val p)) : W O (.var i) env p := (E.var h).wv
theorem W.vals {i : Nat} {ds : List PyData} (h : gt env i = .sl (vals ds)) : W O (.var i) env (.list ds) := by
  refine ⟨.vr i, by rw [q_ev_var, h]; rfl, ?_⟩
  simp only [view, h, fro_vals, shal_vals]
  rw [← h, st_gt]
theorem E.cst {p : PyData} : E O (.cst p) env (.val p) := by unfold E; rw [q_ev_cst]
theorem W.cst {p : PyData} : W O (.cst p) env p := E.cst.wv
theorem E.bin {o : Bop} {a b : ME} {p q : PyData} {r : R} (ha : W O a env p) (hb : W O b env q) (h : binop o p q = some r) : E O (.bin o a b) env r := by
  obtain ⟨x, h1, h2⟩ := ha
  obtain ⟨y, h3, h4⟩ := hb
  unfold E
  rw [q_ev_bin, h1, Option.bind_some]
  simp only [h3, Option.bind_some, h2, h4, h]
theorem E.cmp {o : Cop} {a b : ME} {p q : PyData} {r : Bool} (ha : W O a env p) (hb : W O b env q) (h : cmpop o p q = some r) : E O (.cmp o a b) env (.val (.bool r)) := by
  obtain ⟨x, h1, h2⟩ := ha
  obtain ⟨y, h3, h4⟩ := hb
  unfold E
  rw [q_ev_cmp, h1, Option.bind_some]
  simp only [h3, Option.bind_some, h2, h4, h]
theorem E.cmp2 {o o' : Cop} {a b c : ME} {p u : PyData} {q : Int} {x y : Bool} (ha : W O a env p) (hb : W O b env (.int q)) (hc : W O c env u) (h : cmpop o p (.int q) = some x) (h' : cmpop o' (.int q) u = some y) : E O (.cmp2 o o' a b c) env (.val (.bool (x && y))) := by
  obtain ⟨_, h1, h2⟩ := ha
  obtain ⟨_, h3, h4⟩ := hb
  obtain ⟨_, h5, h6⟩ := hc
  unfold E
  rw [q_ev_cmp2, h1, Option.bind_some]
  simp only [h3, Option.bind_some, h2, h4, h, isI, Bool.not_true, Bool.false_eq_true, if_false]
  cases x
  · rfl
  · simp only [if_true, h5, Option.bind_some, h6, h', Bool.true_and]
theorem E.nt {a : ME} {b : Bool} (ha : W O a env (.bool b)) : E O (.nt a) env (.val (.bool (!b))) := by
  obtain ⟨x, h1, h2⟩ := ha
  unfold E
  rw [q_ev_nt, h1, Option.bind_some]
  simp only [h2, Option.bind_some, asB]
theorem E.an {a b : ME} {x y : Bool} (ha : W O a env (.bool x)) (hb : x = true → E O b env (.val (.bool y))) : E O (.an a b) env (.val (.bool (x && y))) := by
  obtain ⟨_, h1, h2⟩ := ha
  unfold E
  rw [q_ev_an, h1, Option.bind_some]
  simp only [h2, Option.bind_some, asB]
  cases x
  · rfl
  · simp only [if_true, Bool.true_and]; exact hb rfl
theorem E.or {a b : ME} {x y : Bool} (ha : W O a env (.bool x)) (hb : x = false → E O b env (.val (.bool y))) : E O (.or a b) env (.val (.bool (x || y))) := by
  obtain ⟨_, h1, h2⟩ := ha
  unfold E
  rw [q_ev_or, h1, Option.bind_some]
  simp only [h2, Option.bind_some, asB]
  cases x
  · simp only [Bool.false_eq_true, if_false, Bool.false_or]; exact hb rfl
  · rfl
theorem E.ife {c a b : ME} {k : Bool} {x y : R} (hc : W O c env (.bool k)) (ha : k = true → E O a env x) (hb : k = false → E O b env y) : E O (.ife c a b) env (if k then x else y) := by
  obtain ⟨_, h1, h2⟩ := hc
  unfold E
  rw [q_ev_ife, h1, Option.bind_some]
  simp only [h2, Option.bind_some, asB]
  cases k
  · simp only [Bool.false_eq_true, if_false]; exact hb rfl
  · simp only [if_true]; exact ha rfl
theorem E.neg {a : ME} {i : Int} (ha : W O a env (.int i)) : E O (.neg a) env (.val (.int (-i))) := by
  obtain ⟨_, h1, h2⟩ := ha
  unfold E
  rw [q_ev_neg, h1, Option.bind_some]
  simp only [h2, Option.bind_some]
theorem E.ix {a b : ME} {p q r : PyData} (ha : W O a env p) (hb : W O b env q) (h : ixop p q = some r) : E O (.ix a b) env (.val r) := by
  obtain ⟨x, h1, h2⟩ := ha
  obtain ⟨y, h3, h4⟩ := hb
  unfold E
  rw [q_ev_ix, h1, Option.bind_some]
  simp only [h3, Option.bind_some, h2, h4, h]
theorem E.isi {a : ME} {ts : List Ty} {p : PyData} (ha : W O a env p) : E O (.isi a ts) env (.val (.bool (ts.any fun t => isTy t p))) := by
  obtain ⟨x, h1, h2⟩ := ha
  unfold E
  rw [q_ev_isi, h1, Option.bind_some]
  simp only [Option.bind_some, h2]
def Ws (O : Orc) (es : List ME) (env : Env) (ps : List PyData) : Prop := ∃ os, evs O es env = some (os, env) ∧ views os env = some (ps, env)
theorem Ws.nil : Ws O [] env [] := ⟨[], q_evs_nil, rfl⟩
theorem Ws.cons {e : ME} {es : List ME} {p : PyData} {ps : List PyData} (h : W O e env p) (hs : Ws O es env ps) : Ws O (e :: es) env (p :: ps) := by
  obtain ⟨x, h1, h2⟩ := h
  obtain ⟨y, h3, h4⟩ := hs
  refine ⟨x :: y, ?_, ?_⟩
  · rw [q_evs_ees, h1, Option.bind_some]
    simp only [h3, Option.bind_some]
  · simp only [views, h2, Option.bind_some, h4]
theorem E.bi {o : Bi} {es : List ME} {ps : List PyData} {r : R} (h : Ws O es env ps) (hb : biop o ps = some r) : E O (.bi o es) env r := by
  obtain ⟨x, h1, h2⟩ := h
  unfold E
  rw [q_ev_bi, h1, Option.bind_some]
  simp only [h2, Option.bind_some, hb]
theorem E.bi1 {o : Bi} {e : ME} {p : PyData} {r : R} (h : W O e env p) (hb : biop o [p] = some r) : E O (.bi o [e]) env r := E.bi (.cons h .nil) hb
theorem E.bi2 {o : Bi} {e e' : ME} {p p' : PyData} {r : R} (h : W O e env p) (h' : W O e' env p') (hb : biop o [p, p'] = some r) : E O (.bi o [e, e']) env r := E.bi (.cons h (.cons h' .nil)) hb
theorem E.mt {o : Mt} {a : ME} {es : List ME} {p : PyData} {ps : List PyData} {r : R} (ha : W O a env p) (hp : sameTop p p = true) (h : Ws O es env ps) (hb : mtop o (p :: ps) = some r) : E O (.mt o a es) env r := by
  obtain ⟨z, h1, h2⟩ := ha
  obtain ⟨x, h3, h4⟩ := h
  unfold E
  rw [q_ev_mt, h1, Option.bind_some]
  simp only [h2, Option.bind_some, h3, h4, hp, if_true, hb]
def Es (O : Orc) (es : List ME) (env : Env) (rs : List R) : Prop := evs O es env = some (rs.map .tm, env)
theorem Es.nil : Es O [] env [] := q_evs_nil
theorem Es.cons {e : ME} {es : List ME} {r : R} {rs : List R} (h : E O e env r) (hs : Es O es env rs) : Es O (e :: es) env (r :: rs) := by
  unfold Es at *
  unfold E at h
  rw [q_evs_ees, h, Option.bind_some]
  simp only [hs, Option.bind_some, List.map_cons]
theorem owns_tm : ∀ (rs : List R) (env : Env), owns (rs.map .tm) env = some (rs, env)
  | [], _ => rfl
  | r :: rs, env => by simp only [List.map_cons, owns, own, Option.bind_some, owns_tm rs env]
theorem back_tm : ∀ (rs : List R) (outs : List (Option R)) (env : Env), back (rs.map .tm) outs env = env
  | [], _, _ => by simp only [List.map_nil, back]
  | r :: rs, [], env => by simp only [List.map_cons, back]
  | r :: rs, o :: os, env => by simp only [List.map_cons, back, back_tm rs os env]
theorem E.tup {es : List ME} {rs : List R} (h : Es O es env rs) : E O (.tup es) env (.val (.tuple (froAll rs))) := by
  unfold Es at h
  unfold E
  rw [q_ev_tup, h, Option.bind_some]
  simp only [owns_tm, Option.bind_some]
theorem E.lst {es : List ME} {rs : List R} (h : Es O es env rs) : E O (.lst es) env (.lst rs) := by
  unfold Es at h
  unfold E
  rw [q_ev_lst, h, Option.bind_some]
  simp only [owns_tm, Option.bind_some]
theorem E.call {f : Nat} {es : List ME} {rs : List R} {r : R} {outs : List (Option R)} (h : Es O es env rs) (hc : O.call f rs = some (r, outs)) : E O (.call f es) env r := by
  unfold Es at h
  unfold E
  rw [q_ev_call, h, Option.bind_some]
  simp only [owns_tm, Option.bind_some, hc, back_tm]
/-! ### walks and comprehensions -/
def I (O : Orc) (it : MI) (env : Env) (ds : List PyData) : Prop := evI O it env = some (ds, none, env)
abbrev nI (n : Nat) : PyData := .int n
theorem rngOf_nat (n : Nat) : rngOf 0 (n : Int) = (List.range n).map nI := by
  simp only [rngOf, Int.sub_zero, Int.toNat_natCast, Int.zero_add]
theorem I.rng {a : ME} {n : Nat} (h : W O a env (.int n)) (hn : n ≤ 100000) : I O (.rng a) env ((List.range n).map nI) := by
  obtain ⟨x, h1, h2⟩ := h
  unfold I
  rw [q_evI_rng, h1, Option.bind_some]
  have : near (n : Int) = true := near_of_le (by omega) (by omega)
  simp only [h2, Option.bind_some, this, if_true, rngOf_nat]
theorem rngOf_nat2 (m n : Nat) : rngOf (m : Int) (n : Int) = (List.range' m (n - m)).map nI := by
  have : ((n : Int) - (m : Int)).toNat = n - m := by omega
  rw [rngOf, this, List.range'_eq_map_range, List.map_map]
  congr 1
theorem I.rng2 {a b : ME} {m n : Nat} (ha : W O a env (.int m)) (hb : W O b env (.int n)) (hm : m ≤ 100000) (hn : n ≤ 100000) : I O (.rng2 a b) env ((List.range' m (n - m)).map nI) := by
  obtain ⟨x, h1, h2⟩ := ha
  obtain ⟨y, h3, h4⟩ := hb
  unfold I
  rw [q_evI_rng2, h1, Option.bind_some]
  have g1 : near (n : Int) = true := near_of_le (by omega) (by omega)
  have g2 : near (m : Int) = true := near_of_le (by omega) (by omega)
  simp only [h3, Option.bind_some, h2, h4, g1, g2, Bool.and_self, if_true, rngOf_nat2]
theorem I.seq {a : ME} {p : PyData} {ds : List PyData} (h : E O a env (.val p)) (hr : rowOf p = some ds) : I O (.seq a) env ds := by
  unfold E at h
  unfold I
  rw [q_evI_seq, h, Option.bind_some]
  simp only [walk, fro, hr, Option.map_some]
theorem I.seql {a : ME} {ds : List PyData} (h : E O a env (vals ds)) : I O (.seq a) env ds := by
  unfold E at h
  unfold I
  rw [q_evI_seq, h, Option.bind_some]
  simp only [walk, fro_vals, rowOf, Option.map_some]
/-- a name's own list is walked: from now on it is told data -/
theorem I.seqv {i : Nat} {ds : List PyData} (h : gt env i = .sl (vals ds)) : evI O (.seq (.var i)) env = some (ds, none, st env i (.sl (.val (.list ds)))) := by
  rw [q_evI_seq, q_ev_var, h]
  simp only [vals, Option.bind_some, walk, h]
  have := fro_vals ds
  simp only [vals] at this
  simp only [this, rowOf, Option.map_some]
theorem I.enum {a : ME} {p : PyData} {ds : List PyData} (h : E O a env (.val p)) (hr : rowOf p = some ds) : I O (.enum a) env (enumOf 0 ds) := by
  unfold E at h
  unfold I
  rw [q_evI_enum, h, Option.bind_some]
  simp only [walk, fro, hr, Option.map_some]
theorem E.lcg {elt : ME} {tg : MT} {it : MI} {cnd : Option ME} {own' : List Nat} {ds : List PyData} {g : PyData → Option R} (hi : I O it env ds) (hp : own'.all (fun i => plainSl (gt env i)) = true) (hb : ds.length ≤ big)
    (hf : ∀ d ∈ ds, ((bindT tg d (Ev.wipe env own')).bind fun e1 => (evC O cnd e1).bind fun c => if c.1 then (ev O elt c.2).bind fun y => (own y.1 y.2).bind fun r => some (some r.1, Ev.wipe r.2 own') else some (none, Ev.wipe c.2 own')) = some (g d, Ev.wipe env own')) : E O (.lc elt tg it cnd own') env (.lst (ds.filterMap g)) := by
  have := lc_run hi hp hb hf
  rw [again_wipe] at this
  exact this
theorem mapE_map {α : Type} {F : PyData → Env → Option (Option R × Env)} {f : α → PyData} {g : α → Option R} {e : Env} : ∀ {xs : List α}, (∀ x ∈ xs, F (f x) e = some (g x, e)) → mapE F (xs.map f) e = some (xs.filterMap g, e)
  | [], _ => rfl
  | x :: xs, h => by
    simp only [List.map_cons, mapE, h x List.mem_cons_self, Option.bind_some, mapE_map fun y hy => h y (List.mem_cons_of_mem _ hy)]
    cases hg : g x <;> simp [List.filterMap_cons, hg]
theorem fm_filter {α β : Type} (c : α → Bool) (h : α → β) : ∀ xs : List α, xs.filterMap (fun x => if c x then some (h x) else none) = (xs.filter c).map h
  | [] => rfl
  | x :: xs => by cases hc : c x <;> simp [List.filterMap_cons, List.filter_cons, hc, fm_filter c h xs]
theorem gt_no (env : Env) (i : Nat) : gt (st env i .no) i = .no := by
  by_cases hl : i < env.length
  · exact gt_st_eq _ _ _ hl
  · exact gt_out _ _ (by rw [len_st]; omega)
/-- one name, no condition -/
theorem E.lc {α : Type} {elt : ME} {i : Nat} {it : MI} {xs : List α} {f : α → PyData} {h : α → R} (hi : I O it env (xs.map f)) (hp : plainSl (gt env i) = true) (hb : xs.length ≤ 1000)
    (hf : ∀ x ∈ xs, E O elt (st env i (.sl (.val (f x)))) (h x)) : E O (.lc elt (.nm i) it none [i]) env (.lst (xs.map h)) := by
  unfold E
  rw [q_ev_lc, hi, Option.bind_some]
  simp only [List.all_cons, hp, List.all_nil, Bool.and_self, if_true]
  have hn : gt (st env i .no) i = .no := gt_no env i
  rw [mapE_map (g := fun x => some (h x)) (fun x hx => by
    have hx := hf x hx
    unfold E at hx
    simp only [Ev.wipe, bindT, hn, Option.bind_some, st_st, q_evC_none, if_true, hx, own])]
  simp only [Option.bind_some, List.filterMap_eq_map', List.length_map]
  rw [if_pos (by simp only [big]; omega), again_wipe]
  rfl
/-- one name, a condition -/
theorem E.lcF {α : Type} {elt : ME} {i : Nat} {it : MI} {cnd : ME} {xs : List α} {f : α → PyData} {c : α → Bool} {h : α → R} (hi : I O it env (xs.map f)) (hp : plainSl (gt env i) = true) (hb : xs.length ≤ 1000)
    (hc : ∀ x ∈ xs, W O cnd (st env i (.sl (.val (f x)))) (.bool (c x)))
    (hf : ∀ x ∈ xs, c x = true → E O elt (st env i (.sl (.val (f x)))) (h x)) : E O (.lc elt (.nm i) it (some cnd) [i]) env (.lst ((xs.filter c).map h)) := by
  unfold E
  rw [q_ev_lc, hi, Option.bind_some]
  simp only [List.all_cons, hp, List.all_nil, Bool.and_self, if_true]
  have hn : gt (st env i .no) i = .no := gt_no env i
  rw [mapE_map (g := fun x => if c x then some (h x) else none) (fun x hx => by
    have h1 := hf x hx
    obtain ⟨o, hc1, hc2⟩ := hc x hx
    unfold E at h1
    simp only [Ev.wipe, bindT, hn, Option.bind_some, st_st, q_evC_somee, hc1, hc2, asB]
    cases hcx : c x
    · simp only [Bool.false_eq_true, if_false, st_st]
    · simp only [if_true, h1 hcx, Option.bind_some, own, st_st])]
  rw [fm_filter]
  simp only [Option.bind_some, List.length_map]
  have := List.length_filter_le c xs
  rw [if_pos (by simp only [big]; omega), again_wipe]
  rfl
/-! ### statements -/
def X (O : Orc) (s : MS) (env : Env) (fl : Fl) (e : Env) : Prop := ex O s env = some (fl, e)
def Xs (O : Orc) (ss : List MS) (env : Env) (fl : Fl) (e : Env) : Prop := exs O ss env = some (fl, e)
def notLk : Sl → Bool
  | .lk _ => false
  | _ => true
theorem bindT_nm {i : Nat} {p : PyData} (h : notLk (gt env i) = true) : bindT (.nm i) p env = some (st env i (.sl (.val p))) := by
  simp only [bindT]
  cases hg : gt env i <;> simp_all [notLk]
theorem bindR_nm {i : Nat} {r : R} (h : notLk (gt env i) = true) : bindR (.nm i) r env = some (st env i (.sl r)) := by
  simp only [bindR]
  cases hg : gt env i <;> simp_all [notLk]
theorem Xs.nil : Xs O [] env .nx env := q_exs_nil
theorem Xs.nx {s : MS} {ss : List MS} {e1 e2 : Env} {fl : Fl} (h : X O s env .nx e1) (hs : Xs O ss e1 fl e2) : Xs O (s :: ss) env fl e2 := by
  unfold X at h
  unfold Xs at *
  rw [q_exs_sss, h, Option.bind_some]
  exact hs
theorem Xs.ret {s : MS} {ss : List MS} {e1 : Env} {r : R} (h : X O s env (.ret r) e1) : Xs O (s :: ss) env (.ret r) e1 := by
  unfold X at h
  unfold Xs
  rw [q_exs_sss, h, Option.bind_some]
theorem Xs.last {s : MS} {e1 : Env} (h : X O s env .nx e1) : Xs O [s] env .nx e1 := Xs.nx h Xs.nil
theorem X.asg {i : Nat} {e : ME} {r : R} (h : E O e env r) (hl : notLk (gt env i) = true) : X O (.asg (.nm i) e) env .nx (st env i (.sl r)) := by
  unfold E at h
  unfold X
  rw [q_ex_asg, h, Option.bind_some]
  simp only [own, Option.bind_some, bindR_nm hl]
theorem X.asg2 {i j : Nat} {e : ME} {p q : PyData} (h : E O e env (.val (.tuple [p, q]))) (hl : notLk (gt env i) = true) (hl2 : notLk (gt (st env i (.sl (.val p))) j) = true) : X O (.asg (.tp [.nm i, .nm j]) e) env .nx (st (st env i (.sl (.val p))) j (.sl (.val q))) := by
  unfold E at h
  unfold X
  rw [q_ex_asg, h, Option.bind_some]
  simp only [own, Option.bind_some, bindR, fro, bindT, bindTs]
  have h1 := bindT_nm (p := p) hl
  have h2 := bindT_nm (p := q) hl2
  simp only [bindT] at h1 h2
  simp only [h1, Option.bind_some, h2]
theorem X.ret {e : ME} {r : R} (h : E O e env r) : X O (.ret e) env (.ret r) env := by
  unfold E at h
  unfold X
  rw [q_ex_ret, h, Option.bind_some]
  simp only [own, Option.bind_some]
theorem X.retv {i : Nat} {rs : List R} (h : gt env i = .sl (.lst rs)) : X O (.ret (.var i)) env (.ret (.lst rs)) (st env i .no) := by
  unfold X
  rw [q_ex_ret, q_ev_var, h]
  simp only [Option.bind_some, own, h]
theorem X.exp {e : ME} {r : R} (h : E O e env r) : X O (.exp e) env .nx env := by
  unfold E at h
  unfold X
  rw [q_ex_exp, h, Option.bind_some]
theorem X.iteT {c : ME} {a b : List MS} {fl : Fl} {e : Env} (hc : W O c env (.bool true)) (h : Xs O a env fl e) : X O (.ite c a b) env fl e := by
  obtain ⟨o, h1, h2⟩ := hc
  unfold X
  rw [q_ex_ite, h1, Option.bind_some]
  simp only [h2, Option.bind_some, asB, if_true]
  exact h
theorem X.iteF {c : ME} {a b : List MS} {fl : Fl} {e : Env} (hc : W O c env (.bool false)) (h : Xs O b env fl e) : X O (.ite c a b) env fl e := by
  obtain ⟨o, h1, h2⟩ := hc
  unfold X
  rw [q_ex_ite, h1, Option.bind_some]
  simp only [h2, Option.bind_some, asB, Bool.false_eq_true, if_false]
  exact h
/-- an if that does not come in -/
theorem X.skip {c : ME} {a : List MS} (hc : W O c env (.bool false)) : X O (.ite c a []) env .nx env := X.iteF hc .nil
theorem X.app {i : Nat} {e : ME} {r : R} {rs : List R} (hg : gt env i = .sl (.lst rs)) (h : E O e env r) (hb : rs.length < 10000) : X O (.app i e) env .nx (st env i (.sl (.lst (rs ++ [r])))) := by
  unfold E at h
  unfold X
  rw [q_ex_app, hg]
  simp only [isLst, if_true, h, Option.bind_some, own, chg, hg, addTo]
  rw [if_pos (by simp only [big]; omega)]
  rfl
/-- a walk over told things, with a word of what holds behind each -/
theorem X.for {α : Type} {tg : MT} {it : MI} {b : List MS} {env1 : Env} {xs : List α} {f : α → PyData} (Iv : Nat → Env → Prop) (hi : evI O it env = some (xs.map f, none, env1)) (h0 : Iv 0 env1)
    (hs : ∀ i x e, xs[i]? = some x → Iv i e → ∃ e1 e', bindT tg (f x) e = some e1 ∧ Xs O b e1 .nx e' ∧ Iv (i + 1) e') : ∃ e', X O (.for tg it b) env .nx e' ∧ Iv xs.length e' := by
  have := for_run (O := O) (tg := tg) (it := it) (b := b) (env := env) (env1 := env1) (ds := xs.map f) Iv hi h0 fun i d e hd h => by
    rw [List.getElem?_map] at hd
    cases hx : xs[i]? with
    | none => simp [hx] at hd
    | some x =>
      simp only [hx, Option.map_some, Option.some.injEq] at hd
      subst hd
      exact hs i x e hx h
  rwa [List.length_map] at this
end
end Ev.Z
set_option autoImplicit true
set_option linter.all false
set_option maxRecDepth 100000
/-! Told data of numbers, flags and tuples: shaped, ==, in; answers of calls. -/
namespace Ev.Z
open PySem
def sh (k : Nat) (d : PyData) : Prop := d.canLay0 = true ∧ d.depth ≤ k
theorem sh.mono {k m : Nat} {d : PyData} (h : sh k d) (hm : k ≤ m) : sh m d := ⟨h.1, Nat.le_trans h.2 hm⟩
theorem sh.ok {k : Nat} {d : PyData} (h : sh k d) (hk : k ≤ 64 := by decide) : SeqAt.shaped d = true := by
  simp only [SeqAt.shaped, h.1, Bool.true_and, decide_eq_true_eq]
  exact Nat.le_trans h.2 hk
theorem sh_int {k : Nat} (i : Int) : sh k (.int i) := ⟨by simp [PyData.canLay0], by simp [PyData.depth]⟩
theorem sh_bool {k : Nat} (i : Bool) : sh k (.bool i) := ⟨by simp [PyData.canLay0], by simp [PyData.depth]⟩
theorem sh_none {k : Nat} : sh k .none := ⟨by simp [PyData.canLay0], by simp [PyData.depth]⟩
theorem lay_all : ∀ {ds : List PyData}, (∀ d ∈ ds, d.canLay0 = true) → PyData.canLayAll0 ds = true
  | [], _ => by simp [PyData.canLayAll0]
  | d :: ds, h => by simp only [PyData.canLayAll0, h d List.mem_cons_self, lay_all fun x hx => h x (List.mem_cons_of_mem _ hx), Bool.and_self]
theorem dep_all {k : Nat} : ∀ {ds : List PyData}, (∀ d ∈ ds, d.depth ≤ k) → PyData.depthAll ds ≤ k
  | [], _ => by simp [PyData.depthAll]
  | d :: ds, h => by
    simp only [PyData.depthAll]
    exact Nat.max_le.mpr ⟨h d List.mem_cons_self, dep_all fun x hx => h x (List.mem_cons_of_mem _ hx)⟩
theorem sh_tup {k : Nat} {ds : List PyData} (h : ∀ d ∈ ds, sh k d) : sh (k + 1) (.tuple ds) :=
  ⟨by simp only [PyData.canLay0]; exact lay_all fun d hd => (h d hd).1, by simp only [PyData.depth]; exact Nat.succ_le_succ (dep_all fun d hd => (h d hd).2)⟩
theorem sh_lst {k : Nat} {ds : List PyData} (h : ∀ d ∈ ds, sh k d) : sh (k + 1) (.list ds) :=
  ⟨by simp only [PyData.canLay0]; exact lay_all fun d hd => (h d hd).1, by simp only [PyData.depth]; exact Nat.succ_le_succ (dep_all fun d hd => (h d hd).2)⟩
theorem sh_ints {k : Nat} (xs : List Nat) : ∀ d ∈ xs.map nI, sh k d := fun d hd => by
  obtain ⟨x, _, rfl⟩ := List.mem_map.mp hd
  exact sh_int _
mutual
theorem eqv_self : ∀ (d : PyData), d.canLay0 = true → PyData.eqv d d = true
  | .none, _ => by simp [PyData.eqv]
  | .bool b, _ => by simp [PyData.eqv]
  | .int i, _ => by simp [PyData.eqv]
  | .str s, _ => by simp [PyData.eqv]
  | .list xs, h => by
    simp only [PyData.eqv]; exact eqvAll_self xs (by simpa [PyData.canLay0] using h)
  | .tuple xs, h => by
    simp only [PyData.eqv]; exact eqvAll_self xs (by simpa [PyData.canLay0] using h)
  | .dict _, h => by simp [PyData.canLay0] at h
theorem eqvAll_self : ∀ (ds : List PyData), PyData.canLayAll0 ds = true → PyData.eqvAll ds ds = true
  | [], _ => by simp [PyData.eqvAll]
  | d :: ds, h => by
    simp only [PyData.canLayAll0, Bool.and_eq_true] at h
    simp only [PyData.eqvAll, eqv_self d h.1, eqvAll_self ds h.2, Bool.and_self]
end
theorem eqN (a b : Nat) : (nI a).eqv (nI b) = (a == b) := by
  rw [eqI, Bool.eq_iff_iff, beq_iff_eq, beq_iff_eq]
  omega
/-- couples -/
def cp (x : Nat × Nat) : PyData := .tuple [nI x.1, nI x.2]
theorem sh_cp {k : Nat} (x : Nat × Nat) : sh (k + 1) (cp x) := sh_tup fun d hd => by
  simp only [List.mem_cons, List.not_mem_nil, or_false] at hd
  rcases hd with rfl | rfl <;> exact sh_int _
theorem eqC (a b : Nat × Nat) : (cp a).eqv (cp b) = (a == b) := by
  simp only [cp, PyData.eqv, PyData.eqvAll, Bool.and_true]
  rw [Bool.eq_iff_iff]
  simp only [Bool.and_eq_true, beq_iff_eq, Prod.ext_iff]
  omega
theorem eqv_nil (ds : List PyData) : (PyData.tuple ds).eqv (.tuple []) = ds.isEmpty := by
  cases ds <;> simp [PyData.eqv, PyData.eqvAll]
theorem cmp_eq {p q : PyData} {k m : Nat} (hp : sh k p) (hq : sh m q) (hk : k ≤ 64 := by decide) (hm : m ≤ 64 := by decide) : cmpop .eq p q = some (p.eqv q) := by
  simp only [cmpop, eqp, hp.ok hk, hq.ok hm, Bool.and_self, if_true]
theorem cmp_ne {p q : PyData} {k m : Nat} (hp : sh k p) (hq : sh m q) (hk : k ≤ 64 := by decide) (hm : m ≤ 64 := by decide) : cmpop .ne p q = some (!p.eqv q) := by
  simp only [cmpop, eqp, hp.ok hk, hq.ok hm, Bool.and_self, if_true, Option.map_some]
theorem any_eq {α : Type} [BEq α] [LawfulBEq α] {f : α → PyData} (hf : ∀ a b, (f a).eqv (f b) = (a == b)) (y : α) : ∀ xs : List α, ((xs.map f).any fun z => z.eqv (f y)) = xs.contains y
  | [] => rfl
  | x :: xs => by
    have ih := any_eq hf y xs
    simp only [List.map_cons, List.any_cons, hf, List.contains_cons, ih]
    congr 1
    rw [Bool.eq_iff_iff]
    simp only [beq_iff_eq]
    exact eq_comm
theorem in_tup {α : Type} [BEq α] [LawfulBEq α] {f : α → PyData} (hf : ∀ a b, (f a).eqv (f b) = (a == b)) (hs : ∀ a, sh 60 (f a)) (y : α) (xs : List α) : cmpop .isin (f y) (.tuple (xs.map f)) = some (xs.contains y) := by
  have h2 : sh 61 (.tuple (xs.map f)) := sh_tup fun d hd => by
    obtain ⟨x, _, rfl⟩ := List.mem_map.mp hd
    exact hs x
  simp only [cmpop, inp, (hs y).ok, h2.ok, Bool.and_self, if_true, any_eq hf]
theorem in_lst {α : Type} [BEq α] [LawfulBEq α] {f : α → PyData} (hf : ∀ a b, (f a).eqv (f b) = (a == b)) (hs : ∀ a, sh 60 (f a)) (y : α) (xs : List α) : cmpop .isin (f y) (.list (xs.map f)) = some (xs.contains y) := by
  have h2 : sh 61 (.list (xs.map f)) := sh_lst fun d hd => by
    obtain ⟨x, _, rfl⟩ := List.mem_map.mp hd
    exact hs x
  simp only [cmpop, inp, (hs y).ok, h2.ok, Bool.and_self, if_true, any_eq hf]
theorem cmp_notin {p q : PyData} {b : Bool} (h : cmpop .isin p q = some b) : cmpop .notin p q = some (!b) := by
  simp only [cmpop] at h ⊢
  rw [h, Option.map_some]
theorem in_nat (y : Nat) (xs : List Nat) : cmpop .isin (nI y) (.tuple (xs.map nI)) = some (xs.contains y) := in_tup eqN (fun _ => sh_int _) y xs
theorem in_natl (y : Nat) (xs : List Nat) : cmpop .isin (nI y) (.list (xs.map nI)) = some (xs.contains y) := in_lst eqN (fun _ => sh_int _) y xs
theorem in_cpl (y : Nat × Nat) (xs : List (Nat × Nat)) : cmpop .isin (cp y) (.list (xs.map cp)) = some (xs.contains y) := in_lst eqC (fun _ => (sh_cp (k := 0) _).mono (by decide)) y xs
theorem lt_nat (i j : Nat) : cmpop .lt (nI i) (nI j) = some (decide (i < j)) := by simp [cmpop]
theorem le_nat (i j : Nat) : cmpop .le (nI i) (nI j) = some (decide (i ≤ j)) := by simp [cmpop]
theorem gt_nat (i j : Nat) : cmpop .gt (nI i) (nI j) = some (decide (j < i)) := by simp [cmpop]
theorem ge_nat (i j : Nat) : cmpop .ge (nI i) (nI j) = some (decide (j ≤ i)) := by simp [cmpop]
theorem eq_nat (i j : Nat) : cmpop .eq (nI i) (nI j) = some (i == j) := by rw [cmp_eq (sh_int (k := 0) _) (sh_int (k := 0) _), eqN]
theorem ne_nat (i j : Nat) : cmpop .ne (nI i) (nI j) = some (!(i == j)) := by rw [cmp_ne (sh_int (k := 0) _) (sh_int (k := 0) _), eqN]
theorem add_nat (i j : Nat) : binop .add (nI i) (nI j) = some (.val (nI (i + j))) := by simp [binop]
theorem sub_nat {i j : Nat} (h : j ≤ i) : binop .sub (nI i) (nI j) = some (.val (nI (i - j))) := by
  simp only [binop, nI, Option.some.injEq, R.val.injEq, PyData.int.injEq]
  omega
theorem ix_ok {n i : Nat} (h : i < n) : ixOf n (i : Int) = some i := by
  simp only [ixOf]
  rw [if_pos (by omega), if_pos (by simpa using h)]
  simp
theorem ix_tup {ds : List PyData} {i : Nat} (h : i < ds.length) : ixop (.tuple ds) (nI i) = some ds[i] := by
  simp only [ixop, nI, ix_ok h, Option.bind_some, List.getElem?_eq_getElem h]
theorem ix_lst {ds : List PyData} {i : Nat} (h : i < ds.length) : ixop (.list ds) (nI i) = some ds[i] := by
  simp only [ixop, nI, ix_ok h, Option.bind_some, List.getElem?_eq_getElem h]
theorem ix_map {n i : Nat} (f : Nat → PyData) (h : i < n) : ixop (.tuple ((List.range n).map f)) (nI i) = some (f i) := by
  rw [ix_tup (by simpa using h)]
  simp
theorem len_map {α : Type} (xs : List α) (f : α → PyData) : biop .len [.tuple (xs.map f)] = some (.val (nI xs.length)) := by rw [len_tup, List.length_map]
theorem len_mapl {α : Type} (xs : List α) (f : α → PyData) : biop .len [.list (xs.map f)] = some (.val (nI xs.length)) := by rw [len_lst, List.length_map]
theorem bools_map : ∀ bs : List Bool, boolsOf (bs.map .bool) = some bs
  | [] => rfl
  | b :: bs => by simp only [List.map_cons, boolsOf, bools_map bs, Option.map_some]
theorem ints_map : ∀ is : List Int, intsOf (is.map .int) = some is
  | [] => rfl
  | b :: bs => by simp only [List.map_cons, intsOf, ints_map bs, Option.map_some]
theorem all_map {α : Type} (xs : List α) (g : α → Bool) : biop .all [.list (xs.map fun x => .bool (g x))] = some (.val (.bool (xs.all g))) := by
  have : (xs.map fun x => PyData.bool (g x)) = (xs.map g).map .bool := by rw [List.map_map]; rfl
  rw [this]
  simp only [biop, bools_map, Option.map_some, bool, List.all_map]
  congr 1
theorem any_map {α : Type} (xs : List α) (g : α → Bool) : biop .any [.list (xs.map fun x => .bool (g x))] = some (.val (.bool (xs.any g))) := by
  have : (xs.map fun x => PyData.bool (g x)) = (xs.map g).map .bool := by rw [List.map_map]; rfl
  rw [this]
  simp only [biop, bools_map, Option.map_some, bool, List.any_map]
  congr 1
/-- an answer of a call -/
def Cl (cf : Nat → List R → Option (R × List (Option R))) (f : Nat) (args : List R) (r : R) : Prop := ∃ outs, cf f args = some (r, outs)
theorem E.cl {cf : Nat → List R → Option (R × List (Option R))} {wh : WhT} {env : Env} {f : Nat} {es : List ME} {rs : List R} {r : R} (h : Es ⟨cf, wh⟩ es env rs) (hc : Cl cf f rs r) : E ⟨cf, wh⟩ (.call f es) env r := by
  obtain ⟨outs, hc⟩ := hc
  exact E.call h hc
theorem handOk_vals (b : List MS) : ∀ (i : Nat) (ps : List PyData), handOk b i (ps.map .val) = true
  | _, [] => rfl
  | i, p :: ps => by simp only [List.map_cons, handOk, isVal, Bool.true_or, Bool.true_and, handOk_vals b (i + 1) ps]
theorem Cl.mk {T : List Dfn} {wh : WhT} {n f np ns : Nat} {b : List MS} {ps : List PyData} {fl : Fl} {env : Env} {r : R} (hT : T[f]? = some ⟨np, ns, b⟩) (hl : ps.length = np)
    (hx : Xs ⟨callN T wh n, wh⟩ b (enter ⟨np, ns, b⟩ (ps.map .val)) fl env) (ha : answer fl = some r) : Cl (callN T wh (n + 1)) f (ps.map .val) r :=
  ⟨_, call_run hT ⟨by simpa using hl, handOk_vals _ _ _⟩ hx ha⟩
end Ev.Z
set_option autoImplicit true
set_option linter.all false
set_option maxRecDepth 100000
/-! Webs as told data; need_web, need_person and the small tests. -/
namespace Ev.Z
open PySem
structure Web where
  n : Nat
  adj : Nat → Nat → Bool
  pos : 1 ≤ n
  le : n ≤ 8
  sym : ∀ i j, adj i j = adj j i
  irr : ∀ i, adj i i = false
def nb (w : Web) (i : Nat) : List Nat := (List.range w.n).filter (w.adj i)
abbrev rowD (w : Web) (i : Nat) : PyData := .tuple ((nb w i).map nI)
abbrev toD (w : Web) : PyData := .tuple ((List.range w.n).map (rowD w))
theorem mem_nb {w : Web} {i j : Nat} : j ∈ nb w i ↔ j < w.n ∧ w.adj i j = true := by simp [nb]
theorem nb_len (w : Web) (i : Nat) : (nb w i).length ≤ 8 := by
  have := List.length_filter_le (w.adj i) (List.range w.n)
  have h2 := w.le
  simp only [nb, List.length_range] at *
  omega
theorem nb_lt (w : Web) (i : Nat) : (nb w i).Pairwise (· < ·) := List.Pairwise.filter _ List.pairwise_lt_range
/-- fewer than the people: nobody is an own friend -/
theorem nb_len' (w : Web) (i : Nat) (hi : i < w.n) : (nb w i).length + 1 ≤ w.n := by
  have h1 : (List.range w.n).filter (w.adj i) = ((List.range w.n).erase i).filter (w.adj i) := by
    rw [List.Nodup.erase_eq_filter List.nodup_range, List.filter_filter]
    congr 1
    funext j
    by_cases h : j = i
    · subst h; simp [w.irr]
    · simp [h]
  have h2 := List.length_filter_le (w.adj i) ((List.range w.n).erase i)
  rw [List.length_erase_of_mem (List.mem_range.mpr hi), List.length_range] at h2
  rw [nb, h1]
  have := w.pos
  omega
theorem sh_row (w : Web) (i : Nat) : sh 1 (rowD w i) := sh_tup (sh_ints _)
theorem sh_web (w : Web) : sh 2 (toD w) := sh_tup fun d hd => by
  obtain ⟨x, _, rfl⟩ := List.mem_map.mp hd
  exact sh_row w x
abbrev V (p : PyData) : Sl := .sl (.val p)
abbrev vR (p : PyData) : R := .val p
theorem W.to {O : Orc} {e : ME} {env : Env} {p q : PyData} (h : W O e env p) (hq : p = q) : W O e env q := hq ▸ h
theorem E.to {O : Orc} {e : ME} {env : Env} {p q : R} (h : E O e env p) (hq : p = q) : E O e env q := hq ▸ h
theorem E.wm {O : Orc} {e : ME} {env : Env} {α : Type} {xs : List α} {g : α → PyData} (h : E O e env (.lst (xs.map fun x => .val (g x)))) : W O e env (.list (xs.map g)) := by
  have := h.w
  rwa [fro, froAll_map] at this
theorem enum_get : ∀ (ds : List PyData) (k j : Nat), (enumOf k ds)[j]? = ds[j]?.map fun d => .tuple [nI (k + j), d]
  | [], _, _ => by simp [enumOf]
  | d :: ds, k, 0 => by simp [enumOf]
  | d :: ds, k, j + 1 => by
    simp only [enumOf, List.getElem?_cons_succ, enum_get ds (k + 1) j]
    congr 2
    funext d
    simp only [nI, PyData.tuple.injEq, List.cons.injEq, PyData.int.injEq, and_true]
    omega
theorem enum_map (n : Nat) (f : Nat → PyData) : enumOf 0 ((List.range n).map f) = (List.range n).map fun i => .tuple [nI i, f i] := by
  refine List.ext_getElem? fun j => ?_
  rw [enum_get]
  by_cases h : j < n
  · simp [h]
  · simp [h]
theorem bind2 {i j : Nat} {p q : PyData} {env : Env} (h1 : notLk (gt env i) = true) (h2 : notLk (gt (st env i (V p)) j) = true) : bindT (.tp [.nm i, .nm j]) (.tuple [p, q]) env = some (st (st env i (V p)) j (V q)) := by
  rw [bindT, bindTs, bindT_nm h1, Option.bind_some, bindTs, bindT_nm h2, Option.bind_some, bindTs]
theorem nlk {s : Sl} (h : plainSl s = true) : notLk s = true := by cases s <;> simp_all [plainSl, notLk]
theorem insI_lt (i : Int) : ∀ js : List Int, (∀ j ∈ js, i < j) → insI i js = i :: js
  | [], _ => rfl
  | j :: js, h => by simp only [insI, if_pos (h j List.mem_cons_self)]
theorem setI_lt : ∀ is : List Int, is.Pairwise (· < ·) → setI is = is
  | [], _ => rfl
  | i :: is, h => by
    rw [List.pairwise_cons] at h
    rw [setI, setI_lt is h.2, insI_lt i is h.1]
theorem sset_nat {xs : List Nat} (h : xs.Pairwise (· < ·)) (hl : xs.length < 64) : biop .sset [.tuple (xs.map nI)] = some (vals (xs.map nI)) := by
  have h1 : xs.map nI = (xs.map Int.ofNat).map .int := by rw [List.map_map]; rfl
  have h2 : (xs.map Int.ofNat).Pairwise (· < ·) := by
    rw [List.pairwise_map]
    exact h.imp fun h => Int.ofNat_lt.mpr h
  rw [h1]
  simp only [biop, ints_map, Option.bind_some, List.length_map, setI_lt _ h2]
  rw [if_pos ⟨by omega, hl⟩]
/-! ### the small tests -/
section
variable {cf : Nat → List R → Option (R × List (Option R))} {wh : WhT}
def bd_is_integer : List MS := [(.ret (.an (.isi (.var 0) [.int]) (.nt (.isi (.var 0) [.bool]))))]
def bd_is_in (f_is_integer : Nat) : List MS := [(.ret (.an (.call f_is_integer [(.var 0)]) (.cmp2 .le .le (.var 1) (.var 0) (.var 2))))]
def bd_is_list : List MS := [(.ret (.an (.isi (.var 0) [.tuple]) (.cmp2 .le .le (.var 1) (.bi .len [(.var 0)]) (.var 2))))]
def bd_need_web (f_is_list f_is_in : Nat) : List MS := [(.ite (.nt (.call f_is_list [(.var 0), (.cst (.int 1)), (.cst (.int 8))])) [.never] []), (.asg (.nm 1) (.bi .len [(.var 0)])), (.for (.tp [(.nm 2), (.nm 3)]) (.enum (.var 0)) [(.ite (.or (.nt (.call f_is_list [(.var 3), (.cst (.int 0)), (.bin .sub (.var 1) (.cst (.int 1)))])) (.nt (.bi .all [(.lc (.call f_is_in [(.var 4), (.cst (.int 0)), (.bin .sub (.var 1) (.cst (.int 1)))]) (.nm 4) (.seq (.var 3)) none [4])]))) [.never] []), (.ite (.or (.cmp .ne (.bi .list [(.var 3)]) (.bi .sset [(.var 3)])) (.cmp .isin (.var 2) (.var 3))) [.never] [])]), (.for (.tp [(.nm 2), (.nm 3)]) (.enum (.var 0)) [(.ite (.bi .any [(.lc (.cmp .notin (.var 2) (.ix (.var 0) (.var 4))) (.nm 4) (.seq (.var 3)) none [4])]) [.never] [])])]
def bd_need_person (f_is_in : Nat) : List MS := [(.ite (.nt (.call f_is_in [(.var 1), (.cst (.int 0)), (.bin .sub (.bi .len [(.var 0)]) (.cst (.int 1)))])) [.never] [])]
theorem b_is_integer (i : Int) : Xs ⟨cf, wh⟩ bd_is_integer [V (.int i)] (.ret (vR (.bool true))) [V (.int i)] :=
  .ret (.ret ((E.an (E.isi (.var rfl)).wv fun _ => (E.nt (E.isi (.var rfl)).wv)).to rfl))
abbrev HInt (cf : Nat → List R → Option (R × List (Option R))) (f : Nat) : Prop := ∀ i : Int, Cl cf f [vR (.int i)] (vR (.bool true))
abbrev HIn (cf : Nat → List R → Option (R × List (Option R))) (f : Nat) : Prop := ∀ i a b : Int, Cl cf f [vR (.int i), vR (.int a), vR (.int b)] (vR (.bool (decide (a ≤ i) && decide (i ≤ b))))
abbrev HList (cf : Nat → List R → Option (R × List (Option R))) (f : Nat) : Prop := ∀ (ds : List PyData) (a b : Int), Cl cf f [vR (.tuple ds), vR (.int a), vR (.int b)] (vR (.bool (decide (a ≤ ds.length) && decide ((ds.length : Int) ≤ b))))
abbrev HWeb (cf : Nat → List R → Option (R × List (Option R))) (f : Nat) : Prop := ∀ w : Web, Cl cf f [vR (toD w)] (vR .none)
abbrev HPerson (cf : Nat → List R → Option (R × List (Option R))) (f : Nat) : Prop := ∀ (w : Web) (i : Nat), i < w.n → Cl cf f [vR (toD w), vR (nI i)] (vR .none)
theorem b_is_in {f : Nat} (h : HInt cf f) (i a b : Int) : Xs ⟨cf, wh⟩ (bd_is_in f) [V (.int i), V (.int a), V (.int b)] (.ret (vR (.bool (decide (a ≤ i) && decide (i ≤ b))))) [V (.int i), V (.int a), V (.int b)] :=
  .ret (.ret ((E.an (E.cl (.cons (.var rfl) .nil) (h i)).wv fun _ => E.cmp2 (.var rfl) (.var rfl) (.var rfl) rfl rfl).to (by rw [Bool.true_and])))
theorem b_is_list (ds : List PyData) (a b : Int) : Xs ⟨cf, wh⟩ bd_is_list [V (.tuple ds), V (.int a), V (.int b)] (.ret (vR (.bool (decide (a ≤ ds.length) && decide ((ds.length : Int) ≤ b))))) [V (.tuple ds), V (.int a), V (.int b)] :=
  .ret (.ret ((E.an (x := true) ((E.isi (p := .tuple ds) (.var rfl)).wv.to rfl) fun _ => E.cmp2 (.var rfl) (E.bi1 (.var rfl) (len_tup ds)).wv (.var rfl) rfl rfl).to (by rw [Bool.true_and])))
theorem b_need_person {f : Nat} (h : HIn cf f) (w : Web) (i : Nat) (hi : i < w.n) : Xs ⟨cf, wh⟩ (bd_need_person f) [V (toD w), V (nI i)] .nx [V (toD w), V (nI i)] := by
  refine .last (.skip ((E.nt (E.cl (.cons (.var rfl) (.cons .cst (.cons (E.bin (E.bi1 (.var rfl) (len_tup _)).wv .cst rfl) .nil))) (h i 0 _)).wv).wv.to ?_))
  have h1 : (0 : Int) ≤ (i : Int) := by omega
  have h2 : (i : Int) ≤ (w.n : Int) - 1 := by omega
  simp [h1, h2]
theorem b_need_web {f g : Nat} (hl : HList cf f) (hi : HIn cf g) (w : Web) : ∃ e, Xs ⟨cf, wh⟩ (bd_need_web f g) [V (toD w), .no, .no, .no, .no] .nx e := by
  have hn := w.le
  have hp := w.pos
  obtain ⟨e1, g1, g2⟩ := X.for (O := ⟨cf, wh⟩) (tg := .tp [(.nm 2), (.nm 3)]) (it := .enum (.var 0)) (b := [(.ite (.or (.nt (.call f [(.var 3), (.cst (.int 0)), (.bin .sub (.var 1) (.cst (.int 1)))])) (.nt (.bi .all [(.lc (.call g [(.var 4), (.cst (.int 0)), (.bin .sub (.var 1) (.cst (.int 1)))]) (.nm 4) (.seq (.var 3)) none [4])]))) [.never] []), (.ite (.or (.cmp .ne (.bi .list [(.var 3)]) (.bi .sset [(.var 3)])) (.cmp .isin (.var 2) (.var 3))) [.never] [])])
    (env := [V (toD w), V (nI w.n), .no, .no, .no]) (env1 := [V (toD w), V (nI w.n), .no, .no, .no]) (xs := List.range w.n) (f := fun i => .tuple [nI i, rowD w i])
    (fun _ e => ∃ a b, e = [V (toD w), V (nI w.n), a, b, .no] ∧ notLk a = true ∧ notLk b = true) ((I.enum (.var rfl) rfl).trans (by rw [enum_map])) ⟨_, _, rfl, rfl, rfl⟩ fun k i e hk hI => by
      obtain ⟨a, b, rfl, ha, hb⟩ := hI
      have hik : i < w.n := by
        have := List.mem_of_getElem? hk
        simpa using this
      refine ⟨[V (toD w), V (nI w.n), V (nI i), V (rowD w i), .no], [V (toD w), V (nI w.n), V (nI i), V (rowD w i), .no], bind2 ha hb, ?_, _, _, rfl, rfl, rfl⟩
      have h3 := nb_len' w i hik
      refine .nx (.skip ((E.or (x := false) (y := false) ((E.nt (E.cl (.cons (.var rfl) (.cons .cst (.cons (E.bin (.var rfl) .cst rfl) .nil))) (hl _ 0 _)).wv).wv.to ?_) fun _ => (E.nt ((E.bi1 (E.lc (xs := nb w i) (f := nI) (h := fun x => vR (.bool true)) (I.seq (.var rfl) rfl) rfl (by have := nb_len w i; omega) ?_).wm (all_map _ _)).wv)).to ?_).wv)) (.nx (.skip ?_) .nil)
      · simp only [List.length_map]
        have h4 : ((nb w i).length : Int) ≤ (w.n : Int) - 1 := by omega
        have h5 : (0 : Int) ≤ ((nb w i).length : Int) := by omega
        simp [h4, h5]
      · intro x hx
        have h6 := (mem_nb.mp hx).1
        refine (E.cl (.cons (.var rfl) (.cons .cst (.cons (E.bin (.var rfl) .cst rfl) .nil))) (hi x 0 _)).to ?_
        have h4 : (x : Int) ≤ (w.n : Int) - 1 := by omega
        have h5 : (0 : Int) ≤ (x : Int) := by omega
        simp [h4, h5]
      · simp
      · refine (E.or (x := false) (y := false) ((E.cmp (E.bi1 (.var rfl) rfl).wl (E.bi1 (.var rfl) (sset_nat (nb_lt w i) (by have := nb_len w i; omega))).wl (cmp_ne (sh_lst (sh_ints (k := 0) _)) (sh_lst (sh_ints (k := 0) _)))).wv.to ?_) fun _ => (E.cmp (.var rfl) (.var rfl) (in_nat _ _)).to ?_).wv
        · rw [eqv_self _ (sh_lst (sh_ints (k := 0) _)).1]; rfl
        · have : (nb w i).contains i = false := by
            rw [← Bool.not_eq_true, List.contains_iff_mem]
            intro h
            simp [mem_nb, w.irr] at h
          rw [this]
  obtain ⟨a, b, rfl, ha, hb⟩ := g2
  obtain ⟨e2, g3, g4⟩ := X.for (O := ⟨cf, wh⟩) (tg := .tp [(.nm 2), (.nm 3)]) (it := .enum (.var 0)) (b := [(.ite (.bi .any [(.lc (.cmp .notin (.var 2) (.ix (.var 0) (.var 4))) (.nm 4) (.seq (.var 3)) none [4])]) [.never] [])])
    (env := [V (toD w), V (nI w.n), a, b, .no]) (env1 := [V (toD w), V (nI w.n), a, b, .no]) (xs := List.range w.n) (f := fun i => .tuple [nI i, rowD w i])
    (fun _ e => ∃ a b, e = [V (toD w), V (nI w.n), a, b, .no] ∧ notLk a = true ∧ notLk b = true) ((I.enum (.var rfl) rfl).trans (by rw [enum_map])) ⟨_, _, rfl, ha, hb⟩ fun k i e hk hI => by
      obtain ⟨a, b, rfl, ha, hb⟩ := hI
      have hik : i < w.n := by
        have := List.mem_of_getElem? hk
        simpa using this
      refine ⟨[V (toD w), V (nI w.n), V (nI i), V (rowD w i), .no], [V (toD w), V (nI w.n), V (nI i), V (rowD w i), .no], bind2 ha hb, ?_, _, _, rfl, rfl, rfl⟩
      refine .last (.skip ((E.bi1 (E.lc (xs := nb w i) (f := nI) (h := fun x => vR (.bool (!(nb w x).contains i))) (I.seq (.var rfl) rfl) rfl (by have := nb_len w i; omega) ?_).wm (any_map _ _)).wv.to ?_))
      · intro x hx
        exact E.cmp (.var rfl) (E.ix (.var rfl) (.var rfl) (ix_map _ (mem_nb.mp hx).1)).wv (cmp_notin (in_nat _ _))
      · simp only [PyData.bool.injEq, List.any_eq_false, Bool.not_eq_true, Bool.not_eq_false', List.contains_iff_mem]
        intro x hx
        rw [mem_nb] at hx ⊢
        exact ⟨hik, by rw [w.sym]; exact hx.2⟩
  refine ⟨e2, .nx (.skip ((E.nt (E.cl (.cons (.var rfl) (.cons .cst (.cons .cst .nil))) (hl _ 1 8)).wv).wv.to ?_)) (.nx (.asg (E.bi1 (.var rfl) (len_map _ _)) rfl) ?_)⟩
  · simp only [List.length_map, List.length_range]
    have h4 : (w.n : Int) ≤ 8 := by omega
    have h5 : (1 : Int) ≤ (w.n : Int) := by omega
    simp [h4, h5]
  · simp only [List.length_range]
    exact .nx g1 (.last g3)
end
end Ev.Z
set_option autoImplicit true
set_option linter.all false
set_option maxRecDepth 100000
/-! Walks that gather a list; pairs, strangers, counts and the like. -/
namespace Ev.Z
open PySem
abbrev L (ds : List PyData) : Sl := .sl (vals ds)
section
variable {O : Orc} {env : Env}
theorem X.forP {α : Type} {tg : MT} {it : MI} {b : List MS} {env1 : Env} {xs : List α} {f : α → PyData} (Iv : List α → Env → Prop) (hi : evI O it env = some (xs.map f, none, env1)) (h0 : Iv [] env1)
    (hs : ∀ pre x e, x ∈ xs → pre.length < xs.length → Iv pre e → ∃ e1 e', bindT tg (f x) e = some e1 ∧ Xs O b e1 .nx e' ∧ Iv (pre ++ [x]) e') : ∃ e', X O (.for tg it b) env .nx e' ∧ Iv xs e' := by
  obtain ⟨e', h1, h2⟩ := X.for (O := O) (env := env) (tg := tg) (it := it) (b := b) (f := f) (xs := xs) (fun k e => Iv (xs.take k) e) hi (by simpa using h0) fun k x e hk hI => by
    have hk' := (List.getElem?_eq_some_iff.mp hk).1
    obtain ⟨e1, e', a, b, c⟩ := hs (xs.take k) x e (List.mem_of_getElem? hk) (by rw [List.length_take]; omega) hI
    refine ⟨e1, e', a, b, ?_⟩
    rw [List.take_succ, hk]
    exact c
  exact ⟨e', h1, by simpa using h2⟩
theorem X.appv {i : Nat} {e : ME} {d : PyData} {ds : List PyData} (hg : gt env i = L ds) (h : E O e env (vR d)) (hb : ds.length < 10000) : X O (.app i e) env .nx (st env i (L (ds ++ [d]))) := by
  have := X.app (rs := ds.map .val) hg h (by simpa using hb)
  simpa only [L, vals, List.map_append, List.map_cons, List.map_nil] using this
theorem X.retl {i : Nat} {ds : List PyData} (h : gt env i = L ds) : X O (.ret (.var i)) env (.ret (vals ds)) (st env i .no) := X.retv h
theorem E.lcv {α : Type} {elt : ME} {i : Nat} {it : MI} {xs : List α} {f g : α → PyData} (hi : I O it env (xs.map f)) (hp : plainSl (gt env i) = true) (hb : xs.length ≤ 1000)
    (hf : ∀ x ∈ xs, E O elt (st env i (V (f x))) (vR (g x))) : E O (.lc elt (.nm i) it none [i]) env (vals (xs.map g)) := by
  have := E.lc (h := fun x => vR (g x)) hi hp hb hf
  have e : vals ((xs).map g) = .lst ((xs).map fun x => vR (g x)) := by rw [vals, List.map_map]; rfl
  rw [e]
  exact this
theorem E.lcFv {α : Type} {elt : ME} {i : Nat} {it : MI} {cnd : ME} {xs : List α} {f g : α → PyData} {c : α → Bool} (hi : I O it env (xs.map f)) (hp : plainSl (gt env i) = true) (hb : xs.length ≤ 1000)
    (hc : ∀ x ∈ xs, W O cnd (st env i (V (f x))) (.bool (c x)))
    (hf : ∀ x ∈ xs, c x = true → E O elt (st env i (V (f x))) (vR (g x))) : E O (.lc elt (.nm i) it (some cnd) [i]) env (vals ((xs.filter c).map g)) := by
  have := E.lcF (h := fun x => vR (g x)) hi hp hb hc hf
  have e : vals ((xs.filter c).map g) = .lst ((xs.filter c).map fun x => vR (g x)) := by rw [vals, List.map_map]; rfl
  rw [e]
  exact this
theorem E.tupl {e : ME} {ds : List PyData} (h : W O e env (.list ds)) : E O (.bi .tuple [e]) env (vR (.tuple ds)) := E.bi1 h rfl
theorem E.lenl {e : ME} {ds : List PyData} (h : W O e env (.list ds)) : E O (.bi .len [e]) env (vR (nI ds.length)) := E.bi1 h (len_lst ds)
theorem E.lent {e : ME} {ds : List PyData} (h : W O e env (.tuple ds)) : E O (.bi .len [e]) env (vR (nI ds.length)) := E.bi1 h (len_tup ds)
theorem E.catl {a b : ME} {xs ys : List PyData} (ha : W O a env (.list xs)) (hb : W O b env (.list ys)) (hl : xs.length + ys.length ≤ 10000) : E O (.bin .add a b) env (vals (xs ++ ys)) :=
  E.bin ha hb (by simp only [binop]; rw [if_pos (by simp only [big]; omega)])
theorem E.tup2 {a b : ME} {p q : PyData} (ha : E O a env (vR p)) (hb : E O b env (vR q)) : E O (.tup [a, b]) env (vR (.tuple [p, q])) := E.tup (.cons ha (.cons hb .nil))
theorem E.lenw {e : ME} {w : Web} (h : W O e env (toD w)) : E O (.bi .len [e]) env (vR (nI w.n)) := by
  have := E.lent h
  simpa only [List.length_map, List.length_range] using this
theorem E.ixw {a b : ME} {w : Web} {i : Nat} (h : W O a env (toD w)) (hb : W O b env (nI i)) (hi : i < w.n) : E O (.ix a b) env (vR (rowD w i)) := E.ix h hb (ix_map _ hi)
theorem fm_len {α β : Type} (f : α → List β) (K : Nat) (h : ∀ x, (f x).length ≤ K) : ∀ l : List α, (l.flatMap f).length ≤ l.length * K
  | [] => by simp
  | x :: xs => by
    have := fm_len f K h xs
    have := h x
    simp only [List.flatMap_cons, List.length_append, List.length_cons, Nat.add_mul]
    omega
theorem nlk_st {i : Nat} {s : Sl} {env : Env} (h : notLk s = true) : notLk (gt (st env i s) i) = true := by
  by_cases hl : i < env.length
  · rw [gt_st_eq _ _ _ hl]; exact h
  · rw [gt_out _ _ (by rw [len_st]; omega)]; rfl
theorem lt_of_gt {i : Nat} {s : Sl} {env : Env} (h : gt env i = s) (hs : s ≠ .no) : i < env.length := by
  rcases Nat.lt_or_ge i env.length with h' | h'
  · exact h'
  · rw [gt_out _ _ h'] at h; exact absurd h.symm hs
/-- a walk that appends where a test holds -/
theorem X.gatherF {α : Type} {i k : Nat} {it : MI} {cnd elt : ME} {xs : List α} {f g : α → PyData} {c : α → Bool} {acc : List PyData} (hi : I O it env (xs.map f)) (hk : gt env k = L acc) (hp : notLk (gt env i) = true) (hlen : acc.length + xs.length < 10000)
    (hc : ∀ x ∈ xs, ∀ ds, W O cnd (st (st env k (L ds)) i (V (f x))) (.bool (c x))) (hf : ∀ x ∈ xs, c x = true → ∀ ds, E O elt (st (st env k (L ds)) i (V (f x))) (vR (g x))) (hik : i ≠ k := by decide) :
    ∃ s, notLk s = true ∧ X O (.for (.nm i) it [.ite cnd [.app k elt] []]) env .nx (st (st env k (L (acc ++ (xs.filter c).map g))) i s) := by
  have hkl : k < env.length := lt_of_gt hk (by simp [L])
  obtain ⟨e', h1, s, hs, rfl⟩ := X.forP (O := O) (env := env) (tg := .nm i) (it := it) (b := [.ite cnd [.app k elt] []]) (xs := xs) (f := f) (fun pre e => ∃ s, notLk s = true ∧ e = st (st env k (L (acc ++ (pre.filter c).map g))) i s) hi
    ⟨gt env i, hp, by simp only [List.filter_nil, List.map_nil, List.append_nil]; rw [← hk, st_gt, st_gt]⟩ fun pre x e hx hpre hI => by
      obtain ⟨s, hs, rfl⟩ := hI
      have h0 := List.length_filter_le c pre
      refine ⟨_, _, bindT_nm (nlk_st hs), ?_, V (f x), rfl, rfl⟩
      rw [st_st]
      cases hcx : c x
      · have := X.skip (a := [.app k elt]) ((hc x hx (acc ++ (pre.filter c).map g)).to (by rw [hcx]))
        refine .last ?_
        simpa only [List.filter_append, List.filter_cons, hcx, Bool.false_eq_true, if_false, List.filter_nil, List.append_nil] using this
      · refine .last (.iteT ((hc x hx (acc ++ (pre.filter c).map g)).to (by rw [hcx])) (.last ?_))
        have := X.appv (i := k) (ds := acc ++ (pre.filter c).map g) (by rw [gt_st_ne _ _ _ _ hik, gt_st_eq _ _ _ hkl]) (hf x hx hcx (acc ++ (pre.filter c).map g)) (by simp only [List.length_append, List.length_map]; omega)
        rw [st_comm _ _ _ _ _ hik, st_st] at this
        simpa only [List.filter_append, List.filter_cons, hcx, if_true, List.filter_nil, List.map_append, List.map_cons, List.map_nil, List.append_assoc] using this
  exact ⟨s, hs, h1⟩
/-- a walk that appends each time -/
theorem X.gather {α : Type} {i k : Nat} {it : MI} {elt : ME} {xs : List α} {f g : α → PyData} {acc : List PyData} (hi : I O it env (xs.map f)) (hk : gt env k = L acc) (hp : notLk (gt env i) = true) (hlen : acc.length + xs.length < 10000)
    (hf : ∀ x ∈ xs, ∀ ds, E O elt (st (st env k (L ds)) i (V (f x))) (vR (g x))) (hik : i ≠ k := by decide) :
    ∃ s, notLk s = true ∧ X O (.for (.nm i) it [.app k elt]) env .nx (st (st env k (L (acc ++ xs.map g))) i s) := by
  have hkl : k < env.length := lt_of_gt hk (by simp [L])
  obtain ⟨e', h1, s, hs, rfl⟩ := X.forP (O := O) (env := env) (tg := .nm i) (it := it) (b := [.app k elt]) (xs := xs) (f := f) (fun pre e => ∃ s, notLk s = true ∧ e = st (st env k (L (acc ++ pre.map g))) i s) hi
    ⟨gt env i, hp, by simp only [List.map_nil, List.append_nil]; rw [← hk, st_gt, st_gt]⟩ fun pre x e hx hpre hI => by
      obtain ⟨s, hs, rfl⟩ := hI
      refine ⟨_, _, bindT_nm (nlk_st hs), ?_, V (f x), rfl, rfl⟩
      rw [st_st]
      refine .last ?_
      have := X.appv (i := k) (ds := acc ++ pre.map g) (by rw [gt_st_ne _ _ _ _ hik, gt_st_eq _ _ _ hkl]) (hf x hx (acc ++ pre.map g)) (by simp only [List.length_append, List.length_map]; omega)
      rw [st_comm _ _ _ _ _ hik, st_st] at this
      simpa only [List.map_append, List.map_cons, List.map_nil, List.append_assoc] using this
  exact ⟨s, hs, h1⟩
/-- a walk each of whose turns makes a list longer -/
theorem X.gatherG {α : Type} {i k : Nat} {it : MI} {b : List MS} {xs : List α} {f : α → PyData} {h : α → List PyData} {acc : List PyData} {K : Nat} (hi : I O it env (xs.map f)) (hk : gt env k = L acc) (hp : notLk (gt env i) = true) (hh : ∀ x, (h x).length ≤ K) (hlen : acc.length + xs.length * K < 9000)
    (hb : ∀ x ∈ xs, ∀ ds : List PyData, ds.length < 9000 → Xs O b (st (st env k (L ds)) i (V (f x))) .nx (st (st env k (L (ds ++ h x))) i (V (f x)))) (hik : i ≠ k := by decide) :
    ∃ s, notLk s = true ∧ X O (.for (.nm i) it b) env .nx (st (st env k (L (acc ++ xs.flatMap h))) i s) := by
  obtain ⟨e', h1, s, hs, rfl⟩ := X.forP (O := O) (env := env) (tg := .nm i) (it := it) (b := b) (xs := xs) (f := f) (fun pre e => ∃ s, notLk s = true ∧ e = st (st env k (L (acc ++ pre.flatMap h))) i s) hi
    ⟨gt env i, hp, by simp only [List.flatMap_nil, List.append_nil]; rw [← hk, st_gt, st_gt]⟩ fun pre x e hx hpre hI => by
      obtain ⟨s, hs, rfl⟩ := hI
      have h0 := fm_len h K hh pre
      have h2 : pre.length * K ≤ xs.length * K := Nat.mul_le_mul_right K (by omega)
      refine ⟨_, _, bindT_nm (nlk_st hs), ?_, V (f x), rfl, rfl⟩
      rw [st_st]
      have := hb x hx (acc ++ pre.flatMap h) (by simp only [List.length_append]; omega)
      simpa only [List.flatMap_append, List.flatMap_cons, List.flatMap_nil, List.append_nil, List.append_assoc] using this
  exact ⟨s, hs, h1⟩
/-- the same, other slots (told junk) may change: j -/
theorem X.gatherJ {α : Type} {i k j : Nat} {it : MI} {b : List MS} {xs : List α} {f : α → PyData} {h : α → List PyData} {acc : List PyData} {K : Nat} (hi : I O it env (xs.map f)) (hk : gt env k = L acc) (hp : notLk (gt env i) = true) (hj : notLk (gt env j) = true) (hh : ∀ x, (h x).length ≤ K) (hlen : acc.length + xs.length * K < 9000)
    (hb : ∀ x ∈ xs, ∀ (ds : List PyData) (s : Sl), ds.length < 9000 → notLk s = true → ∃ s', notLk s' = true ∧ Xs O b (st (st (st env k (L ds)) j s) i (V (f x))) .nx (st (st (st env k (L (ds ++ h x))) j s') i (V (f x)))) :
    ∃ s s', notLk s = true ∧ notLk s' = true ∧ X O (.for (.nm i) it b) env .nx (st (st (st env k (L (acc ++ xs.flatMap h))) j s') i s) := by
  obtain ⟨e', h1, s, s', hs, hs', rfl⟩ := X.forP (O := O) (env := env) (tg := .nm i) (it := it) (b := b) (xs := xs) (f := f) (fun pre e => ∃ s s', notLk s = true ∧ notLk s' = true ∧ e = st (st (st env k (L (acc ++ pre.flatMap h))) j s') i s) hi
    ⟨gt env i, gt env j, hp, hj, by simp only [List.flatMap_nil, List.append_nil]; rw [← hk, st_gt, st_gt, st_gt]⟩ fun pre x e hx hpre hI => by
      obtain ⟨s, s', hs, hs', rfl⟩ := hI
      have h0 := fm_len h K hh pre
      have h2 : pre.length * K ≤ xs.length * K := Nat.mul_le_mul_right K (by omega)
      obtain ⟨s2, hs2, this⟩ := hb x hx (acc ++ pre.flatMap h) s' (by simp only [List.length_append]; omega) hs'
      refine ⟨_, _, bindT_nm (nlk_st hs), ?_, V (f x), s2, rfl, hs2, rfl⟩
      rw [st_st]
      simpa only [List.flatMap_append, List.flatMap_cons, List.flatMap_nil, List.append_nil, List.append_assoc] using this
  exact ⟨s, s', hs, hs', h1⟩
end
section
variable {cf : Nat → List R → Option (R × List (Option R))} {wh : WhT}
def bd_friends (f_need_web f_need_person : Nat) : List MS := [(.exp (.call f_need_web [(.var 0)])), (.exp (.call f_need_person [(.var 0), (.var 1)])), (.ret (.ix (.var 0) (.var 1)))]
def bd_pairs_in : List MS := [(.asg (.nm 1) (.lst [])), (.for (.nm 2) (.rng (.bi .len [(.var 0)])) [(.for (.nm 3) (.seq (.ix (.var 0) (.var 2))) [(.ite (.cmp .lt (.var 2) (.var 3)) [(.app 1 (.tup [(.var 2), (.var 3)]))] [])])]), (.ret (.var 1))]
def bd_pairs (f_need_web f_pairs_in : Nat) : List MS := [(.exp (.call f_need_web [(.var 0)])), (.ret (.bi .tuple [(.call f_pairs_in [(.var 0)])]))]
def bd_count_pairs (f_need_web f_pairs_in : Nat) : List MS := [(.exp (.call f_need_web [(.var 0)])), (.ret (.bi .len [(.call f_pairs_in [(.var 0)])]))]
def bd_strangers (f_need_web : Nat) : List MS := [(.exp (.call f_need_web [(.var 0)])), (.asg (.nm 1) (.lst [])), (.for (.nm 2) (.rng (.bi .len [(.var 0)])) [(.for (.nm 3) (.rng2 (.bin .add (.var 2) (.cst (.int 1))) (.bi .len [(.var 0)])) [(.ite (.cmp .notin (.var 3) (.ix (.var 0) (.var 2))) [(.app 1 (.tup [(.var 2), (.var 3)]))] [])])]), (.ret (.bi .tuple [(.var 1)]))]
def bd_are_friends (f_need_web f_need_person : Nat) : List MS := [(.exp (.call f_need_web [(.var 0)])), (.exp (.call f_need_person [(.var 0), (.var 1)])), (.exp (.call f_need_person [(.var 0), (.var 2)])), (.ret (.cmp .isin (.var 2) (.ix (.var 0) (.var 1))))]
def bd_friend_counts (f_need_web : Nat) : List MS := [(.exp (.call f_need_web [(.var 0)])), (.asg (.nm 1) (.lst [])), (.for (.nm 2) (.seq (.var 0)) [(.app 1 (.bi .len [(.var 2)]))]), (.ret (.bi .tuple [(.var 1)]))]
def bd_common_friends (f_need_web f_need_person : Nat) : List MS := [(.exp (.call f_need_web [(.var 0)])), (.exp (.call f_need_person [(.var 0), (.var 1)])), (.exp (.call f_need_person [(.var 0), (.var 2)])), (.asg (.nm 3) (.lst [])), (.for (.nm 4) (.seq (.ix (.var 0) (.var 1))) [(.ite (.cmp .isin (.var 4) (.ix (.var 0) (.var 2))) [(.app 3 (.var 4))] [])]), (.ret (.bi .tuple [(.var 3)]))]
def bd_lonely (f_need_web : Nat) : List MS := [(.exp (.call f_need_web [(.var 0)])), (.asg (.nm 1) (.lst [])), (.for (.nm 2) (.rng (.bi .len [(.var 0)])) [(.ite (.cmp .eq (.ix (.var 0) (.var 2)) (.tup [])) [(.app 1 (.var 2))] [])]), (.ret (.bi .tuple [(.var 1)]))]
def bd_law_couples : List MS := [(.asg (.nm 1) (.lst [])), (.for (.nm 2) (.rng (.bi .len [(.var 0)])) [(.asg (.nm 1) (.bin .add (.var 1) (.lc (.tup [(.var 2), (.var 3)]) (.nm 3) (.seq (.ix (.var 0) (.var 2))) (some (.cmp .lt (.var 2) (.var 3))) [3])))]), (.ret (.var 1))]
/-- the couples of friends, of strangers -/
def prs1 (w : Web) (i : Nat) : List (Nat × Nat) := ((nb w i).filter fun j => decide (i < j)).map fun j => (i, j)
def prs (w : Web) : List (Nat × Nat) := (List.range w.n).flatMap (prs1 w)
def far1 (w : Web) (i : Nat) : List (Nat × Nat) := ((List.range' (i + 1) (w.n - (i + 1))).filter fun j => !(nb w i).contains j).map fun j => (i, j)
def far (w : Web) : List (Nat × Nat) := (List.range w.n).flatMap (far1 w)
theorem prs1_len (w : Web) (i : Nat) : (prs1 w i).length ≤ 8 := by
  have := List.length_filter_le (fun j => decide (i < j)) (nb w i)
  have := nb_len w i
  simp only [prs1, List.length_map]
  omega
theorem far1_len (w : Web) (i : Nat) : (far1 w i).length ≤ 8 := by
  have := List.length_filter_le (fun j => !(nb w i).contains j) (List.range' (i + 1) (w.n - (i + 1)))
  have := w.le
  simp only [far1, List.length_map, List.length_range'] at *
  omega
theorem prs_len (w : Web) : (prs w).length ≤ 64 := by
  have := fm_len (prs1 w) 8 (prs1_len w) (List.range w.n)
  have := w.le
  simp only [prs, List.length_range] at *
  omega
theorem far_len (w : Web) : (far w).length ≤ 64 := by
  have := fm_len (far1 w) 8 (far1_len w) (List.range w.n)
  have := w.le
  simp only [far, List.length_range] at *
  omega
abbrev HPairsIn (cf : Nat → List R → Option (R × List (Option R))) (f : Nat) : Prop := ∀ w : Web, Cl cf f [vR (toD w)] (vals ((prs w).map cp))
theorem b_friends {f g : Nat} (hw : HWeb cf f) (hp : HPerson cf g) (w : Web) (i : Nat) (hi : i < w.n) : Xs ⟨cf, wh⟩ (bd_friends f g) [V (toD w), V (nI i)] (.ret (vR (rowD w i))) [V (toD w), V (nI i)] :=
  .nx (.exp (E.cl (.cons (.var rfl) .nil) (hw w))) (.nx (.exp (E.cl (.cons (.var rfl) (.cons (.var rfl) .nil)) (hp w i hi))) (.ret (.ret (E.ixw (.var rfl) (.var rfl) hi))))
theorem b_are_friends {f g : Nat} (hw : HWeb cf f) (hp : HPerson cf g) (w : Web) (i j : Nat) (hi : i < w.n) (hj : j < w.n) : Xs ⟨cf, wh⟩ (bd_are_friends f g) [V (toD w), V (nI i), V (nI j)] (.ret (vR (.bool ((nb w i).contains j)))) [V (toD w), V (nI i), V (nI j)] :=
  .nx (.exp (E.cl (.cons (.var rfl) .nil) (hw w))) (.nx (.exp (E.cl (.cons (.var rfl) (.cons (.var rfl) .nil)) (hp w i hi))) (.nx (.exp (E.cl (.cons (.var rfl) (.cons (.var rfl) .nil)) (hp w j hj))) (.ret (.ret (E.cmp (.var rfl) (E.ixw (.var rfl) (.var rfl) hi).wv (in_nat _ _))))))
theorem nil_L {O : Orc} {env : Env} : E O (.lst []) env (vals []) := E.lst .nil
theorem b_pairs_in (w : Web) : ∃ e, Xs ⟨cf, wh⟩ bd_pairs_in [V (toD w), .no, .no, .no] (.ret (vals ((prs w).map cp))) e := by
  have hn := w.le
  obtain ⟨s, s', hs, hs', g⟩ := X.gatherJ (O := ⟨cf, wh⟩) (i := 2) (k := 1) (j := 3) (it := .rng (.bi .len [(.var 0)])) (b := [(.for (.nm 3) (.seq (.ix (.var 0) (.var 2))) [(.ite (.cmp .lt (.var 2) (.var 3)) [(.app 1 (.tup [(.var 2), (.var 3)]))] [])])])
    (env := [V (toD w), L [], .no, .no]) (xs := List.range w.n) (f := nI) (h := fun i => (prs1 w i).map cp) (K := 8) (acc := []) (I.rng (E.lenw (.var rfl)).wv (by omega)) rfl rfl rfl (fun x => by rw [List.length_map]; exact prs1_len w x) (by simp; omega) fun i hi ds s hds hs => by
      rw [List.mem_range] at hi
      have := nb_len w i
      obtain ⟨s', h1, h2⟩ := X.gatherF (O := ⟨cf, wh⟩) (i := 3) (k := 1) (it := .seq (.ix (.var 0) (.var 2))) (cnd := .cmp .lt (.var 2) (.var 3)) (elt := .tup [(.var 2), (.var 3)]) (env := [V (toD w), L ds, V (nI i), s]) (xs := nb w i) (f := nI) (g := fun j => cp (i, j)) (c := fun j => decide (i < j)) (acc := ds)
        (I.seq (E.ixw (.var rfl) (.var rfl) hi) rfl) rfl hs (by omega) (fun j hj ds => (E.cmp (.var rfl) (.var rfl) (lt_nat i j)).wv) fun j hj hc ds => E.tup2 (.var rfl) (.var rfl)
      refine ⟨s', h1, .last ?_⟩
      have e : (prs1 w i).map cp = ((nb w i).filter fun j => decide (i < j)).map fun j => cp (i, j) := by rw [prs1, List.map_map]; rfl
      rw [e]
      exact h2
  have e : (List.range w.n).flatMap (fun i => (prs1 w i).map cp) = (prs w).map cp := by rw [prs, List.map_flatMap]
  rw [List.nil_append, e] at g
  exact ⟨_, .nx (.asg nil_L rfl) (.nx g (.ret (.retl rfl)))⟩
theorem b_pairs {f g : Nat} (hw : HWeb cf f) (hp : HPairsIn cf g) (w : Web) : Xs ⟨cf, wh⟩ (bd_pairs f g) [V (toD w)] (.ret (vR (.tuple ((prs w).map cp)))) [V (toD w)] :=
  .nx (.exp (E.cl (.cons (.var rfl) .nil) (hw w))) (.ret (.ret (E.tupl (E.cl (.cons (.var rfl) .nil) (hp w)).wl)))
theorem b_count_pairs {f g : Nat} (hw : HWeb cf f) (hp : HPairsIn cf g) (w : Web) : Xs ⟨cf, wh⟩ (bd_count_pairs f g) [V (toD w)] (.ret (vR (nI (prs w).length))) [V (toD w)] :=
  .nx (.exp (E.cl (.cons (.var rfl) .nil) (hw w))) (.ret (.ret ((E.lenl (E.cl (.cons (.var rfl) .nil) (hp w)).wl).to (by rw [List.length_map]))))
theorem b_strangers {f : Nat} (hw : HWeb cf f) (w : Web) : ∃ e, Xs ⟨cf, wh⟩ (bd_strangers f) [V (toD w), .no, .no, .no] (.ret (vR (.tuple ((far w).map cp)))) e := by
  have hn := w.le
  obtain ⟨s, s', hs, hs', g⟩ := X.gatherJ (O := ⟨cf, wh⟩) (i := 2) (k := 1) (j := 3) (it := .rng (.bi .len [(.var 0)])) (b := [(.for (.nm 3) (.rng2 (.bin .add (.var 2) (.cst (.int 1))) (.bi .len [(.var 0)])) [(.ite (.cmp .notin (.var 3) (.ix (.var 0) (.var 2))) [(.app 1 (.tup [(.var 2), (.var 3)]))] [])])])
    (env := [V (toD w), L [], .no, .no]) (xs := List.range w.n) (f := nI) (h := fun i => (far1 w i).map cp) (K := 8) (acc := []) (I.rng (E.lenw (.var rfl)).wv (by omega)) rfl rfl rfl (fun x => by rw [List.length_map]; exact far1_len w x) (by simp; omega) fun i hi ds s hds hs => by
      rw [List.mem_range] at hi
      obtain ⟨s', h1, h2⟩ := X.gatherF (O := ⟨cf, wh⟩) (i := 3) (k := 1) (it := .rng2 (.bin .add (.var 2) (.cst (.int 1))) (.bi .len [(.var 0)])) (cnd := .cmp .notin (.var 3) (.ix (.var 0) (.var 2))) (elt := .tup [(.var 2), (.var 3)]) (env := [V (toD w), L ds, V (nI i), s]) (xs := List.range' (i + 1) (w.n - (i + 1))) (f := nI) (g := fun j => cp (i, j)) (c := fun j => !(nb w i).contains j) (acc := ds)
        (I.rng2 (E.bin (.var rfl) .cst (add_nat i 1)).wv (E.lenw (.var rfl)).wv (by omega) (by omega)) rfl hs (by simp; omega) (fun j hj ds => (E.cmp (.var rfl) (E.ixw (.var rfl) (.var rfl) hi).wv (cmp_notin (in_nat _ _))).wv) fun j hj hc ds => E.tup2 (.var rfl) (.var rfl)
      refine ⟨s', h1, .last ?_⟩
      have e : (far1 w i).map cp = ((List.range' (i + 1) (w.n - (i + 1))).filter fun j => !(nb w i).contains j).map fun j => cp (i, j) := by rw [far1, List.map_map]; rfl
      rw [e]
      exact h2
  have e : (List.range w.n).flatMap (fun i => (far1 w i).map cp) = (far w).map cp := by rw [far, List.map_flatMap]
  rw [List.nil_append, e] at g
  exact ⟨_, .nx (.exp (E.cl (.cons (.var rfl) .nil) (hw w))) (.nx (.asg nil_L rfl) (.nx g (.ret (.ret (E.tupl (.vals rfl))))))⟩
def cnts (w : Web) : List PyData := (List.range w.n).map fun i => nI (nb w i).length
theorem b_friend_counts {f : Nat} (hw : HWeb cf f) (w : Web) : ∃ e, Xs ⟨cf, wh⟩ (bd_friend_counts f) [V (toD w), .no, .no] (.ret (vR (.tuple (cnts w)))) e := by
  have hn := w.le
  obtain ⟨s, hs, g⟩ := X.gather (O := ⟨cf, wh⟩) (i := 2) (k := 1) (it := .seq (.var 0)) (elt := .bi .len [(.var 2)]) (env := [V (toD w), L [], .no]) (xs := List.range w.n) (f := rowD w) (g := fun i => nI (nb w i).length) (acc := [])
    (I.seq (.var rfl) rfl) rfl rfl (by simp; omega) fun x hx ds => E.bi1 (.var rfl) (len_map _ _)
  exact ⟨_, .nx (.exp (E.cl (.cons (.var rfl) .nil) (hw w))) (.nx (.asg nil_L rfl) (.nx g (.ret (.ret (E.tupl (.vals rfl))))))⟩
def com (w : Web) (i j : Nat) : List Nat := (nb w i).filter fun k => (nb w j).contains k
theorem b_common_friends {f g : Nat} (hw : HWeb cf f) (hp : HPerson cf g) (w : Web) (i j : Nat) (hi : i < w.n) (hj : j < w.n) : ∃ e, Xs ⟨cf, wh⟩ (bd_common_friends f g) [V (toD w), V (nI i), V (nI j), .no, .no] (.ret (vR (.tuple ((com w i j).map nI)))) e := by
  have := nb_len w i
  obtain ⟨s, hs, g⟩ := X.gatherF (O := ⟨cf, wh⟩) (i := 4) (k := 3) (it := .seq (.ix (.var 0) (.var 1))) (cnd := .cmp .isin (.var 4) (.ix (.var 0) (.var 2))) (elt := .var 4) (env := [V (toD w), V (nI i), V (nI j), L [], .no]) (xs := nb w i) (f := nI) (g := nI) (c := fun k => (nb w j).contains k) (acc := [])
    (I.seq (E.ixw (.var rfl) (.var rfl) hi) rfl) rfl rfl (by simp; omega) (fun x hx ds => (E.cmp (.var rfl) (E.ixw (.var rfl) (.var rfl) hj).wv (in_nat _ _)).wv) fun x hx hc ds => .var rfl
  exact ⟨_, .nx (.exp (E.cl (.cons (.var rfl) .nil) (hw w))) (.nx (.exp (E.cl (.cons (.var rfl) (.cons (.var rfl) .nil)) (hp w i hi))) (.nx (.exp (E.cl (.cons (.var rfl) (.cons (.var rfl) .nil)) (hp w j hj))) (.nx (.asg nil_L rfl) (.nx g (.ret (.ret (E.tupl (.vals rfl))))))))⟩
def lone (w : Web) : List Nat := (List.range w.n).filter fun i => (nb w i).isEmpty
theorem eq_emp (xs : List Nat) : cmpop .eq (.tuple (xs.map nI)) (.tuple []) = some xs.isEmpty := by
  rw [cmp_eq (sh_tup (sh_ints (k := 0) xs)) (sh_tup (k := 0) (by simp)), eqv_nil]
  cases xs <;> rfl
theorem b_lonely {f : Nat} (hw : HWeb cf f) (w : Web) : ∃ e, Xs ⟨cf, wh⟩ (bd_lonely f) [V (toD w), .no, .no] (.ret (vR (.tuple ((lone w).map nI)))) e := by
  have hn := w.le
  obtain ⟨s, hs, g⟩ := X.gatherF (O := ⟨cf, wh⟩) (i := 2) (k := 1) (it := .rng (.bi .len [(.var 0)])) (cnd := .cmp .eq (.ix (.var 0) (.var 2)) (.tup [])) (elt := .var 2) (env := [V (toD w), L [], .no]) (xs := List.range w.n) (f := nI) (g := nI) (c := fun i => (nb w i).isEmpty) (acc := [])
    (I.rng (E.lenw (.var rfl)).wv (by omega)) rfl rfl (by simp; omega) (fun x hx ds => (E.cmp (E.ixw (.var rfl) (.var rfl) (List.mem_range.mp hx)).wv (E.tup .nil).wv (eq_emp _)).wv) fun x hx hc ds => .var rfl
  exact ⟨_, .nx (.exp (E.cl (.cons (.var rfl) .nil) (hw w))) (.nx (.asg nil_L rfl) (.nx g (.ret (.ret (E.tupl (.vals rfl))))))⟩
theorem b_law_couples (w : Web) : ∃ e, Xs ⟨cf, wh⟩ bd_law_couples [V (toD w), .no, .no, .no] (.ret (vals ((prs w).map cp))) e := by
  have hn := w.le
  obtain ⟨s, hs, g⟩ := X.gatherG (O := ⟨cf, wh⟩) (i := 2) (k := 1) (it := .rng (.bi .len [(.var 0)])) (b := [(.asg (.nm 1) (.bin .add (.var 1) (.lc (.tup [(.var 2), (.var 3)]) (.nm 3) (.seq (.ix (.var 0) (.var 2))) (some (.cmp .lt (.var 2) (.var 3))) [3])))])
    (env := [V (toD w), L [], .no, .no]) (xs := List.range w.n) (f := nI) (h := fun i => (prs1 w i).map cp) (K := 8) (acc := []) (I.rng (E.lenw (.var rfl)).wv (by omega)) rfl rfl (fun x => by rw [List.length_map]; exact prs1_len w x) (by simp; omega) fun i hi ds hds => by
      rw [List.mem_range] at hi
      have := nb_len w i
      have := prs1_len w i
      have e : (prs1 w i).map cp = ((nb w i).filter fun j => decide (i < j)).map fun j => cp (i, j) := by rw [prs1, List.map_map]; rfl
      refine .last (.asg (E.catl (.vals rfl) ?_ (by rw [List.length_map]; omega)) rfl)
      rw [e]
      exact (E.lcFv (xs := nb w i) (f := nI) (g := fun j => cp (i, j)) (c := fun j => decide (i < j)) (I.seq (E.ixw (.var rfl) (.var rfl) hi) rfl) rfl (by omega) (fun j hj => (E.cmp (.var rfl) (.var rfl) (lt_nat i j)).wv) fun j hj hc => E.tup2 (.var rfl) (.var rfl)).wl
  have e : (List.range w.n).flatMap (fun i => (prs1 w i).map cp) = (prs w).map cp := by rw [prs, List.map_flatMap]
  rw [List.nil_append, e] at g
  exact ⟨_, .nx (.asg nil_L rfl) (.nx g (.ret (.retl rfl)))⟩
end
end Ev.Z
set_option autoImplicit true
set_option linter.all false
set_option maxRecDepth 100000
/-! Draws; _law_alike; _law_by; _law_web. -/
namespace Ev.Z
open PySem
def bd_law_taken : List MS := [(.ite (.cmp .gt (.ix (.var 0) (.cst (.int 3))) (.cst (.int 0))) [(.asg (.nm 3) (.bin .mod (.bi .int [(.ix (.var 0) (.cst (.int 3)))]) (.var 1))), (.six 0 (.cst (.int 3)) (.bin .fdiv (.ix (.var 0) (.cst (.int 3))) (.var 1))), (.ret (.var 3))] []), (.six 0 (.cst (.int 1)) (.bin .add (.ix (.var 0) (.cst (.int 1))) (.cst (.int 1)))), (.ite (.cmp .gt (.ix (.var 0) (.cst (.int 1))) (.bi .len [(.ix (.var 0) (.cst (.int 0)))])) [(.six 0 (.cst (.int 2)) (.bin .mod (.bi .int [(.bin .add (.bin .mul (.ix (.var 0) (.cst (.int 2))) (.cst (.int 48271))) (.cst (.int 11)))]) (.cst (.int 2147483647)))), (.ret (.bin .mod (.bi .int [(.bin .fdiv (.ix (.var 0) (.cst (.int 2))) (.cst (.int 7)))]) (.var 1)))] []), (.asg (.nm 2) (.ix (.ix (.var 0) (.cst (.int 0))) (.bin .sub (.ix (.var 0) (.cst (.int 1))) (.cst (.int 1))))), (.six 0 (.cst (.int 2)) (.bin .mod (.bi .int [(.bin .add (.bin .add (.bin .mul (.ix (.var 0) (.cst (.int 2))) (.cst (.int 48271))) (.var 2)) (.cst (.int 11)))]) (.cst (.int 2147483647)))), (.ite (.cmp .ge (.var 2) (.bin .pow (.cst (.int 10)) (.cst (.int 18)))) [(.six 0 (.cst (.int 3)) (.bin .fdiv (.var 2) (.var 1)))] []), (.ret (.bin .mod (.bi .int [(.var 2)]) (.var 1)))]
def rowR (s : List PyData) (c h t : Int) : R := .lst [.val (.list s), .val (.int c), .val (.int h), .val (.int t)]
/-- a row of draws -/
def isRow (s : List Int) (r : R) : Prop := ∃ c h t : Int, 0 ≤ c ∧ r = rowR (s.map .int) c h t
theorem b_taken {O : Orc} (s : List Int) (c h t m : Int) (hc : 0 ≤ c) (hm : 0 < m) (hm2 : m < 100) :
    ∃ (v c' h' t' : Int) (a b : Sl), exs O bd_law_taken [.sl (rowR (s.map .int) c h t), V (.int m), .no, .no] = some (.ret (vR (.int v)), [.sl (rowR (s.map .int) c' h' t'), V (.int m), a, b]) ∧ 0 ≤ v ∧ v < m ∧ 0 ≤ c' := by
  have m1 : m < 1073741824 := by omega
  have key : ∀ z : Int, 0 ≤ z % m ∧ z % m < m := fun z => ⟨Int.emod_nonneg _ (by omega), Int.emod_lt_of_pos _ hm⟩
  by_cases ht : 0 < t
  · refine ⟨t % m, c, h, t / m, .no, V (.int (t % m)), ?_, (key t).1, (key t).2, hc⟩
    simp [bd_law_taken, exs, ex, ev, evs, gt, st, view, fro, froAll, shal, ixop, ixOf, cmpop, asB, binop, biop, views, owns, own, chg, Ev.putAt, isOwn, bindR, tgHas, rowR, int, hm, m1, ht]
  · by_cases hl : (s.length : Int) < c + 1
    · refine ⟨(h * 48271 + 11) % 2147483647 / 7 % m, c + 1, (h * 48271 + 11) % 2147483647, t, .no, .no, ?_, (key _).1, (key _).2, by omega⟩
      simp [bd_law_taken, exs, ex, ev, evs, gt, st, view, fro, froAll, shal, ixop, ixOf, cmpop, asB, binop, biop, views, owns, own, chg, Ev.putAt, isOwn, bindR, tgHas, rowR, int, hm, m1, ht, hl, small]
    · have hi : c.toNat < s.length := by omega
      by_cases hb : 1000000000000000000 ≤ s[c.toNat]
      · refine ⟨s[c.toNat] % m, c + 1, (h * 48271 + s[c.toNat] + 11) % 2147483647, s[c.toNat] / m, V (.int s[c.toNat]), .no, ?_, (key _).1, (key _).2, by omega⟩
        simp [bd_law_taken, exs, ex, ev, evs, gt, st, view, fro, froAll, shal, ixop, ixOf, cmpop, asB, binop, biop, views, owns, own, chg, Ev.putAt, isOwn, bindR, tgHas, rowR, int, hm, m1, ht, hl, small, hc, hi, hb]
      · refine ⟨s[c.toNat] % m, c + 1, (h * 48271 + s[c.toNat] + 11) % 2147483647, t, V (.int s[c.toNat]), .no, ?_, (key _).1, (key _).2, by omega⟩
        simp [bd_law_taken, exs, ex, ev, evs, gt, st, view, fro, froAll, shal, ixop, ixOf, cmpop, asB, binop, biop, views, owns, own, chg, Ev.putAt, isOwn, bindR, tgHas, rowR, int, hm, m1, ht, hl, small, hc, hi, hb]
/-- a draw: a number below m, the row goes on -/
abbrev HTaken (cf : Nat → List R → Option (R × List (Option R))) (f : Nat) : Prop := ∀ (s : List Int) (r : R) (m : Int), isRow s r → 0 < m → m < 100 → ∃ (v : Nat) (r' : R), cf f [r, vR (.int m)] = some (vR (nI v), [some r', none]) ∧ (v : Int) < m ∧ isRow s r'
theorem c_taken {T : List Dfn} {wh : WhT} {n f : Nat} (hT : T[f]? = some ⟨2, 4, bd_law_taken⟩) : HTaken (callN T wh (n + 1)) f := fun s r m hr hm hm2 => by
  obtain ⟨c, h, t, hc, rfl⟩ := hr
  obtain ⟨v, c', h', t', a, b, h1, h2, h3, h4⟩ := b_taken (O := ⟨callN T wh n, wh⟩) s c h t m hc hm hm2
  refine ⟨v.toNat, _, ?_, by omega, c', h', t', h4, rfl⟩
  have e : ((v.toNat : Nat) : Int) = v := by omega
  simp only [nI, e]
  exact call_run (args := [rowR (s.map .int) c h t, vR (.int m)]) (d := ⟨2, 4, bd_law_taken⟩) (fl := .ret (vR (.int v))) (r := vR (.int v)) hT ⟨rfl, rfl⟩ h1 rfl
section
variable {cf : Nat → List R → Option (R × List (Option R))} {wh : WhT} {env : Env}
/-- a draw from the row in slot 0.. -/
theorem draw {f i : Nat} {e : ME} {m : Int} {s : List Int} {r : R} (ht : HTaken cf f) (hg : gt env i = .sl r) (hr : isRow s r) (he : E ⟨cf, wh⟩ e env (vR (.int m))) (hm : 0 < m) (hm2 : m < 100) :
    ∃ (v : Nat) (r' : R), ev ⟨cf, wh⟩ (.call f [.var i, e]) env = some (.tm (vR (nI v)), st env i (.sl r')) ∧ (v : Int) < m ∧ isRow s r' := by
  obtain ⟨v, r', h1, h2, h3⟩ := ht s r m hr hm hm2
  refine ⟨v, r', ?_, h2, h3⟩
  unfold E at he
  obtain ⟨c, h, t, _, rfl⟩ := hr
  have h5 : ev ⟨cf, wh⟩ (.var i) env = some (.vr i, env) := by rw [q_ev_var, hg]; rfl
  rw [q_ev_call, q_evs_ees, h5, Option.bind_some]
  simp only [q_evs_ees, he, Option.bind_some, q_evs_nil, owns, own, hg, h1, back, st_st]
end
/-! ### equal told data are alike -/
def bd_law_alike (f_law_alike : Nat) : List MS := [(.ite (.isi (.var 1) [.tuple, .list]) [(.ite (.or (.nt (.isi (.var 0) [.tuple, .list])) (.cmp .ne (.isi (.var 0) [.list]) (.isi (.var 1) [.list]))) [(.ret (.cst (.bool false)))] []), (.ite (.cmp .ne (.bi .len [(.var 0)]) (.bi .len [(.var 1)])) [(.ret (.cst (.bool false)))] []), (.ret (.cmp .eq (.lc (.var 2) (.nm 2) (.rng (.bi .len [(.var 1)])) (some (.nt (.call f_law_alike [(.ix (.var 0) (.var 2)), (.ix (.var 1) (.var 2))]))) [2]) (.lst [])))] []), (.ite (.or (.cmp .is (.var 1) (.cst .none)) (.isi (.var 1) [.str])) [(.ret (.an (.cmp .eq (.var 0) (.var 1)) (.cmp .eq (.isi (.var 0) [.str]) (.isi (.var 1) [.str]))))] []), (.ret (.an (.isi (.var 0) [.int]) (.an (.cmp .eq (.isi (.var 0) [.bool]) (.isi (.var 1) [.bool])) (.cmp .eq (.var 0) (.var 1)))))]
/-- told data of numbers, flags, nothing, tuples and lists, to a depth -/
inductive Pl : Nat → PyData → Prop
  | int (k : Nat) (i : Int) : Pl k (.int i)
  | bool (k : Nat) (b : Bool) : Pl k (.bool b)
  | none (k : Nat) : Pl k .none
  | tup (k : Nat) (ds : List PyData) : (∀ d ∈ ds, Pl k d) → ds.length ≤ 1000 → Pl (k + 1) (.tuple ds)
  | lst (k : Nat) (ds : List PyData) : (∀ d ∈ ds, Pl k d) → ds.length ≤ 1000 → Pl (k + 1) (.list ds)
abbrev HAlike (cf : Nat → List R → Option (R × List (Option R))) (f k : Nat) : Prop := ∀ d : PyData, Pl k d → Cl cf f [vR d, vR d] (vR (.bool true))
section
variable {cf : Nat → List R → Option (R × List (Option R))} {wh : WhT} {env : Env}
theorem alike_lc {f : Nat} {p : PyData} (ds : List PyData) (hp : p = .tuple ds ∨ p = .list ds) (hl : ds.length ≤ 1000) (ih : ∀ d ∈ ds, Cl cf f [vR d, vR d] (vR (.bool true))) :
    Xs ⟨cf, wh⟩ (bd_law_alike f) [V p, V p, .no] (.ret (vR (.bool true))) [V p, V p, .no] := by
  have hlen : biop .len [p] = some (.val (nI ds.length)) := by
    rcases hp with rfl | rfl
    · exact len_tup ds
    · exact len_lst ds
  have hix : ∀ j, (h : j < ds.length) → ixop p (nI j) = some ds[j] := fun j h => by
    rcases hp with rfl | rfl
    · exact ix_tup h
    · exact ix_lst h
  have h1 : ([Ty.tuple, .list].any fun t => isTy t p) = true := by rcases hp with rfl | rfl <;> rfl
  have sb : ∀ b, sh 0 (.bool b) := fun b => sh_bool b
  have inner : Xs ⟨cf, wh⟩ [(.ite (.or (.nt (.isi (.var 0) [.tuple, .list])) (.cmp .ne (.isi (.var 0) [.list]) (.isi (.var 1) [.list]))) [(.ret (.cst (.bool false)))] []), (.ite (.cmp .ne (.bi .len [(.var 0)]) (.bi .len [(.var 1)])) [(.ret (.cst (.bool false)))] []), (.ret (.cmp .eq (.lc (.var 2) (.nm 2) (.rng (.bi .len [(.var 1)])) (some (.nt (.call f [(.ix (.var 0) (.var 2)), (.ix (.var 1) (.var 2))]))) [2]) (.lst [])))] [V p, V p, .no] (.ret (vR (.bool true))) [V p, V p, .no] := by
    refine .nx (.skip ((E.or (E.nt (E.isi (.var rfl)).wv).wv fun _ => E.cmp (E.isi (.var rfl)).wv (E.isi (.var rfl)).wv (cmp_ne (sb _) (sb _))).wv.to ?_)) (.nx (.skip ((E.cmp (E.bi1 (.var rfl) hlen).wv (E.bi1 (.var rfl) hlen).wv (ne_nat _ _)).wv.to (by simp))) (.ret (.ret ?_)))
    · rw [h1, eqB]; simp
    · refine (E.cmp (E.lcFv (xs := List.range ds.length) (f := nI) (g := nI) (c := fun _ => false) (I.rng (E.bi1 (.var rfl) hlen).wv (by omega)) rfl (by simpa using hl) (fun j hj => ?_) fun j hj hc => by simp at hc).wl nil_L.wl (r := true) ?_).to rfl
      · have hj' := List.mem_range.mp hj
        exact (E.nt (E.cl (.cons (E.ix (.var rfl) (.var rfl) (hix j hj')) (.cons (E.ix (.var rfl) (.var rfl) (hix j hj')) .nil)) (ih _ (List.getElem_mem hj'))).wv).wv
      · have : (List.range ds.length).filter (fun _ => false) = [] := by simp
        rw [this]
        exact eq_nil
  exact .ret (.iteT ((E.isi (.var rfl)).wv.to (by rw [h1])) inner)
theorem alike_atom {f : Nat} {p : PyData} (hp : sh 0 p) (h1 : isTy .int p = true) : Xs ⟨cf, wh⟩ (bd_law_alike f) [V p, V p, .no] (.ret (vR (.bool true))) [V p, V p, .no] := by
  have e := eqv_self p hp.1
  have h2 : isTy .tuple p = false := by cases p <;> first | rfl | cases h1
  have h3 : isTy .list p = false := by cases p <;> first | rfl | cases h1
  have h4 : isTy .str p = false := by cases p <;> first | rfl | cases h1
  have h5 : isN p = false := by cases p <;> first | rfl | cases h1
  refine .nx (.skip ((E.isi (.var rfl)).wv.to (by simp [h2, h3]))) (.nx (.skip ((E.or (E.cmp (.var rfl) .cst rfl).wv fun _ => E.isi (.var rfl)).wv.to (by simp [h4, h5]))) (.ret (.ret ((E.an (E.isi (.var rfl)).wv fun _ => E.an (E.cmp (E.isi (.var rfl)).wv (E.isi (.var rfl)).wv (eq_bool _ _)).wv fun _ => E.cmp (.var rfl) (.var rfl) (cmp_eq hp hp)).to (by simp [h1, e])))))
theorem alike_none {f : Nat} : Xs ⟨cf, wh⟩ (bd_law_alike f) [V .none, V .none, .no] (.ret (vR (.bool true))) [V .none, V .none, .no] :=
  .nx (.skip (W.to (E.isi (p := .none) (.var rfl)).wv rfl)) (.ret (.iteT (E.or (x := true) (y := true) ((E.cmp (.var rfl) .cst rfl).wv.to rfl) (fun h => by cases h)).wv (.ret (.ret ((E.an (E.cmp (.var rfl) (.var rfl) (cmp_eq (sh_none (k := 0)) (sh_none (k := 0)))).wv fun _ => E.cmp (E.isi (.var rfl)).wv (E.isi (.var rfl)).wv (eq_bool _ _)).to (by simp [PyData.eqv]))))))
end
theorem c_alike {T : List Dfn} {wh : WhT} {f : Nat} (hT : T[f]? = some ⟨2, 3, bd_law_alike f⟩) : ∀ (n k : Nat), k ≤ n → HAlike (callN T wh (n + 1)) f k
  | n, k, hk, d, hd => by
    cases hd with
    | int k i => exact Cl.mk (ps := [.int i, .int i]) hT rfl (alike_atom (sh_int i) rfl) rfl
    | bool k i => exact Cl.mk (ps := [.bool i, .bool i]) hT rfl (alike_atom (sh_bool i) rfl) rfl
    | none k => exact Cl.mk (ps := [.none, .none]) hT rfl alike_none rfl
    | tup k ds h hl =>
      obtain ⟨m, rfl⟩ : ∃ m, n = m + 1 := ⟨n - 1, by omega⟩
      exact Cl.mk (ps := [.tuple ds, .tuple ds]) hT rfl (alike_lc ds (.inl rfl) hl fun d hd => c_alike hT m k (by omega) d (h d hd)) rfl
    | lst k ds h hl =>
      obtain ⟨m, rfl⟩ : ∃ m, n = m + 1 := ⟨n - 1, by omega⟩
      exact Cl.mk (ps := [.list ds, .list ds]) hT rfl (alike_lc ds (.inr rfl) hl fun d hd => c_alike hT m k (by omega) d (h d hd)) rfl
end Ev.Z
set_option autoImplicit true
set_option linter.all false
set_option maxRecDepth 100000
/-! _law_by: the web of couples; _law_web: a drawn web. -/
namespace Ev.Z
open PySem
theorem le_nI (a b : Nat) : le (nI a) (nI b) = decide (a ≤ b) := by
  rw [le, PySem.W.dataLt_int, Bool.eq_iff_iff]
  simp only [Bool.not_eq_true', decide_eq_false_iff_not, decide_eq_true_eq]
  omega
theorem sortp_nat {xs : List Nat} (hl : xs.length ≤ 1000) : sortp (xs.map nI) = some ((xs.mergeSort fun a b => decide (a ≤ b)).map nI) := by
  have h1 : allAlike (xs.map nI) = true := by
    simp [allAlike, PySem.W.alike]
  have h2 : sortOk (xs.map nI) = true := by
    simp only [sortOk, Bool.or_eq_true]
    right
    simp
  have h3 : (xs.map nI).all SeqAt.shaped = true := by simp [shI]
  rw [sortp, h1, h2, h3, List.map_mergeSort (s := le) (fun a _ b _ => (le_nI a b).symm)]
  simp only [List.length_map, Bool.true_and, Bool.and_true, decide_eq_true_eq]
  rw [if_pos (by simp only [big]; omega)]
theorem sort_eq {xs : List Nat} {n : Nat} {c : Nat → Bool} (hn : xs.Nodup) (hm : ∀ j, j ∈ xs ↔ j < n ∧ c j = true) : xs.mergeSort (fun a b => decide (a ≤ b)) = (List.range n).filter c := by
  refine List.Perm.eq_of_pairwise (le := fun a b => a ≤ b) (fun a b _ _ h1 h2 => Nat.le_antisymm h1 h2) ?_ ?_ ?_
  · have := List.pairwise_mergeSort (le := fun (a b : Nat) => decide (a ≤ b)) (fun a b c h1 h2 => by simp only [decide_eq_true_eq] at *; omega) (fun a b => by simp only [Bool.or_eq_true, decide_eq_true_eq]; omega) xs
    exact this.imp fun h => by simpa using h
  · exact (List.Pairwise.filter _ List.pairwise_lt_range).imp fun h => Nat.le_of_lt h
  · refine (List.mergeSort_perm xs _).trans ((List.perm_ext_iff_of_nodup hn (List.Pairwise.filter _ List.nodup_range)).mpr fun j => ?_)
    rw [hm]; simp
/-! ### dicts as sets of numbers -/
def kv (j : Nat) : PyData × R := (nI j, .val (.bool true))
def addk (b : Nat) (ks : List Nat) : List Nat := if ks.contains b then ks else ks ++ [b]
theorem mem_addk {b j : Nat} {ks : List Nat} : j ∈ addk b ks ↔ j = b ∨ j ∈ ks := by
  unfold addk
  split
  · rename_i h
    rw [List.contains_iff_mem] at h
    constructor
    · exact .inr
    · rintro (rfl | h')
      · exact h
      · exact h'
  · simp [or_comm]
theorem nodup_addk {b : Nat} {ks : List Nat} (h : ks.Nodup) : (addk b ks).Nodup := by
  unfold addk
  split
  · exact h
  · rename_i hb
    rw [List.contains_iff_mem] at hb
    rw [List.nodup_append]
    refine ⟨h, by simp, fun a ha b' hb' => ?_⟩
    simp only [List.mem_singleton] at hb'
    subst hb'
    rintro rfl
    exact hb ha
theorem len_addk (b : Nat) (ks : List Nat) : (addk b ks).length ≤ ks.length + 1 := by
  unfold addk
  split <;> simp
theorem dput_kv (b : Nat) (ks : List Nat) : dputR (ks.map kv) (nI b) (.val (.bool true)) = (addk b ks).map kv := by
  have h : ((ks.map kv).any fun e => e.1.eqv (nI b)) = ks.contains b := by
    rw [List.any_map]
    rw [← any_eq eqN b ks, List.any_map]
    rfl
  rw [dputR, h, addk]
  split
  · rw [List.map_map]
    refine List.map_congr_left fun j _ => ?_
    show (if (kv j).1.eqv (nI b) then ((kv j).1, R.val (.bool true)) else kv j) = kv j
    split <;> rfl
  · rw [List.map_append]; rfl
theorem put_kv {b : Nat} {ks : List Nat} (hl : ks.length < 1000) : Ev.putAt (.dct (ks.map kv)) (nI b) (vR (.bool true)) = some (.dct ((addk b ks).map kv)) := by
  have h : kOk ((ks.map kv).map (·.1)) (nI b) = true := by simp [kOk, flatKey, kv]
  simp only [Ev.putAt, h, Bool.true_and, List.length_map, decide_eq_true_eq, dput_kv]
  rw [if_pos (by simp only [big]; omega)]
theorem set_map {β : Type} (n a : Nat) (f : Nat → β) (y : β) (ha : a < n) : ((List.range n).map f).set a y = (List.range n).map fun j => if j = a then y else f j := by
  refine List.ext_getElem? fun j => ?_
  rw [List.getElem?_set]
  by_cases h : a = j
  · subst h; simp [ha]
  · rw [if_neg h]
    by_cases hj : j < n
    · simp [hj, show ¬ j = a from fun e => h e.symm]
    · simp [hj]
abbrev dcts (n : Nat) (K : Nat → List Nat) : R := .lst ((List.range n).map fun j => .dct ((K j).map kv))
section
variable {O : Orc} {env : Env}
theorem X.six2k {i a b n : Nat} {k k' v : ME} {K : Nat → List Nat} (hg : gt env i = .sl (dcts n K)) (hv : E O v env (vR (.bool true))) (hk : smp k env = some (nI a)) (hk' : smp k' env = some (nI b)) (ha : a < n) (hl : (K a).length < 1000) :
    X O (.six2 i k k' v) env .nx (st env i (.sl (dcts n fun j => if j = a then addk b (K a) else K j))) := by
  unfold E at hv
  unfold X
  rw [q_ex_six2, hv, Option.bind_some]
  have h1 : ixOf ((List.range n).map fun j => R.dct ((K j).map kv)).length (a : Int) = some a := ix_ok (by simpa using ha)
  have h2 : ((List.range n).map fun j => R.dct ((K j).map kv))[a]? = some (R.dct ((K a).map kv)) := by simp [ha]
  simp only [own, Option.bind_some, hk, hk', chg, hg, onAt, nI, h1, h2]
  have := put_kv (b := b) hl
  simp only [nI, vR] at this
  simp only [this, Option.bind_some, set_map _ _ _ _ ha]
  congr 4
  simp only [dcts, R.lst.injEq, Sl.sl.injEq]
  refine List.map_congr_left fun j _ => ?_
  split <;> rfl
theorem lc_frz {elt : ME} {tg : MT} {it : MI} {cnd : Option ME} {ow : List Nat} {ds : List PyData} {env1 : Env} (h : evI O it env = some (ds, none, env1)) (h1 : evI O it env1 = some (ds, none, env1)) : ev O (.lc elt tg it cnd ow) env = ev O (.lc elt tg it cnd ow) env1 := by
  rw [q_ev_lc, q_ev_lc, h, h1]
theorem bi1_to {o : Bi} {e : ME} {r r' : R} {env1 : Env} (h : ev O e env = some (.tm r, env1)) (hb : biop o [fro r] = some r') : ev O (.bi o [e]) env = some (.tm r', env1) := by
  rw [q_ev_bi, q_evs_ees, h, Option.bind_some]
  simp only [q_evs_nil, Option.bind_some, views, view, hb]
theorem ret_to {e : ME} {r : R} {env1 : Env} (h : ev O e env = some (.tm r, env1)) : X O (.ret e) env (.ret r) env1 := by
  unfold X
  rw [q_ex_ret, h, Option.bind_some]
  simp only [own, Option.bind_some]
theorem E.dct0 : E O (.dct []) env (.dct []) := by
  unfold E
  rw [q_ev_dct]
  simp only [evP, Option.bind_some]
end
theorem fro_dct (ks : List Nat) : fro (.dct (ks.map kv)) = .dict (ks.map fun j => (nI j, .bool true)) := by
  rw [fro]
  congr 1
  induction ks with
  | nil => rfl
  | cons k ks ih => simp only [List.map_cons, kv, froKvs, fro, ih]
theorem fro_dcts (n : Nat) (K : Nat → List Nat) : fro (dcts n K) = .list ((List.range n).map fun j => .dict ((K j).map fun j => (nI j, .bool true))) := by
  rw [dcts, fro]
  congr 1
  induction List.range n with
  | nil => rfl
  | cons x xs ih => simp only [List.map_cons, froAll, fro_dct, ih]
/-! ### a web of couples -/
def webOf (n : Nat) (cs : List (Nat × Nat)) (h1 : 1 ≤ n) (h8 : n ≤ 8) (hc : ∀ c ∈ cs, c.1 ≠ c.2 ∧ c.1 < n ∧ c.2 < n) : Web :=
  ⟨n, fun i j => cs.contains (i, j) || cs.contains (j, i), h1, h8, fun i j => Bool.or_comm _ _, fun i => by
    rw [Bool.or_self, ← Bool.not_eq_true, List.contains_iff_mem]
    exact fun h => (hc _ h).1 rfl⟩
def bd_law_by : List MS := [(.asg (.nm 2) (.lc (.dct []) (.nm 5) (.rng (.var 0)) none [5])), (.for (.tp [(.nm 3), (.nm 4)]) (.seq (.var 1)) [(.six2 2 (.var 3) (.var 4) (.cst (.bool true))), (.six2 2 (.var 4) (.var 3) (.cst (.bool true)))]), (.ret (.bi .tuple [(.lc (.bi .tuple [(.bi .sorted [(.bi .list [(.var 6)])])]) (.nm 6) (.seq (.var 2)) none [6])]))]
section
variable {cf : Nat → List R → Option (R × List (Option R))} {wh : WhT}
theorem b_by (n : Nat) (cs : List (Nat × Nat)) (h1 : 1 ≤ n) (h8 : n ≤ 8) (hc : ∀ c ∈ cs, c.1 ≠ c.2 ∧ c.1 < n ∧ c.2 < n) (hl : cs.length ≤ 400) :
    ∃ e, Xs ⟨cf, wh⟩ bd_law_by [V (nI n), L (cs.map cp), .no, .no, .no, .no, .no] (.ret (vR (toD (webOf n cs h1 h8 hc)))) e := by
  have s1 : X ⟨cf, wh⟩ (.asg (.nm 2) (.lc (.dct []) (.nm 5) (.rng (.var 0)) none [5])) [V (nI n), L (cs.map cp), .no, .no, .no, .no, .no] .nx [V (nI n), L (cs.map cp), .sl (dcts n fun _ => []), .no, .no, .no, .no] :=
    .asg (E.lc (xs := List.range n) (f := nI) (h := fun j => .dct (List.map kv [])) (I.rng (.var rfl) (by omega)) rfl (by simp; omega) fun x hx => E.dct0) rfl
  obtain ⟨e2, g2, K, a, b, rfl, ha, hb, hK, hN, hL⟩ := X.forP (O := ⟨cf, wh⟩) (tg := .tp [(.nm 3), (.nm 4)]) (it := .seq (.var 1)) (b := [(.six2 2 (.var 3) (.var 4) (.cst (.bool true))), (.six2 2 (.var 4) (.var 3) (.cst (.bool true)))])
    (env := [V (nI n), L (cs.map cp), .sl (dcts n fun _ => []), .no, .no, .no, .no]) (env1 := [V (nI n), V (.list (cs.map cp)), .sl (dcts n fun _ => []), .no, .no, .no, .no]) (xs := cs) (f := cp)
    (fun pre e => ∃ (K : Nat → List Nat) (a b : Sl), e = [V (nI n), V (.list (cs.map cp)), .sl (dcts n K), a, b, .no, .no] ∧ notLk a = true ∧ notLk b = true ∧ (∀ i j, j ∈ K i ↔ (i, j) ∈ pre ∨ (j, i) ∈ pre) ∧ (∀ i, (K i).Nodup) ∧ ∀ i, (K i).length ≤ 2 * pre.length)
    (I.seqv rfl) ⟨fun _ => [], .no, .no, rfl, rfl, rfl, by simp, by simp, by simp⟩ fun pre x e hx hpre hI => by
      obtain ⟨K, a, b, rfl, ha, hb, hK, hN, hL⟩ := hI
      obtain ⟨u, v⟩ := x
      obtain ⟨hne, hu, hv⟩ := hc _ hx
      simp only at hne hu hv
      have hLu := hL u
      have hLv := hL v
      have t1 := X.six2k (O := ⟨cf, wh⟩) (i := 2) (a := u) (b := v) (n := n) (k := .var 3) (k' := .var 4) (v := .cst (.bool true)) (K := K) (env := [V (nI n), V (.list (cs.map cp)), .sl (dcts n K), V (nI u), V (nI v), .no, .no]) rfl .cst rfl rfl hu (by omega)
      have t2 := X.six2k (O := ⟨cf, wh⟩) (i := 2) (a := v) (b := u) (n := n) (k := .var 4) (k' := .var 3) (v := .cst (.bool true)) (K := fun j => if j = u then addk v (K u) else K j) (env := [V (nI n), V (.list (cs.map cp)), .sl (dcts n fun j => if j = u then addk v (K u) else K j), V (nI u), V (nI v), .no, .no]) rfl .cst rfl rfl hv (by rw [if_neg (fun e => hne e.symm)]; omega)
      refine ⟨_, _, bind2 ha hb, .nx t1 (.last t2), _, V (nI u), V (nI v), rfl, rfl, rfl, fun i j => ?_, fun i => ?_, fun i => ?_⟩
      · simp only [if_neg (show ¬ v = u from fun e => hne e.symm), List.mem_append, List.mem_singleton, Prod.mk.injEq]
        by_cases hiv : i = v
        · subst hiv
          rw [if_pos rfl, mem_addk, hK]
          have hh : ¬ i = u := fun e => hne e.symm
          constructor
          · rintro (rfl | h | h)
            · exact .inr (.inr ⟨rfl, rfl⟩)
            · exact .inl (.inl h)
            · exact .inr (.inl h)
          · rintro ((h | ⟨h, _⟩) | (h | ⟨h, _⟩))
            · exact .inr (.inl h)
            · exact absurd h hh
            · exact .inr (.inr h)
            · exact .inl h
        · rw [if_neg hiv]
          by_cases hiu : i = u
          · subst hiu
            rw [if_pos rfl, mem_addk, hK]
            constructor
            · rintro (rfl | h | h)
              · exact .inl (.inr ⟨rfl, rfl⟩)
              · exact .inl (.inl h)
              · exact .inr (.inl h)
            · rintro ((h | ⟨_, h⟩) | (h | ⟨_, h⟩))
              · exact .inr (.inl h)
              · exact .inl h
              · exact .inr (.inr h)
              · exact absurd h hne
          · rw [if_neg hiu, hK]
            simp [hiu, hiv]
      · simp only [if_neg (show ¬ v = u from fun e => hne e.symm)]
        split
        · exact nodup_addk (hN v)
        · split
          · exact nodup_addk (hN u)
          · exact hN i
      · simp only [if_neg (show ¬ v = u from fun e => hne e.symm), List.length_append, List.length_singleton]
        have := len_addk u (K v)
        have := len_addk v (K u)
        have := hL i
        split
        · omega
        · split <;> omega
  refine ⟨[V (nI n), V (.list (cs.map cp)), V (fro (dcts n K)), a, b, .no, .no], .nx s1 (.nx g2 (.ret ?_))⟩
  refine ret_to (bi1_to (r := vals ((List.range n).map (rowD (webOf n cs h1 h8 hc)))) (env1 := [V (nI n), V (.list (cs.map cp)), V (fro (dcts n K)), a, b, .no, .no]) ?_ (by rw [fro_vals]; rfl))
  rw [lc_frz (env1 := [V (nI n), V (.list (cs.map cp)), V (fro (dcts n K)), a, b, .no, .no]) (ds := (List.range n).map fun j => .dict ((K j).map fun j => (nI j, .bool true)))]
  · refine E.lcv (xs := List.range n) (f := fun j => .dict ((K j).map fun j => (nI j, .bool true))) (g := rowD (webOf n cs h1 h8 hc)) (I.seq (.var rfl) (by rw [fro_dcts]; rfl)) rfl (by simp; omega) fun i hi => ?_
    have hLi := hL i
    have k1 : (PyData.dict ((K i).map fun j => (nI j, .bool true))) = .dict ((K i).map fun j => (nI j, .bool true)) := rfl
    have w1 : biop .list [.dict ((K i).map fun j => (nI j, .bool true))] = some (vals ((K i).map nI)) := by
      have : (((K i).map fun j => (nI j, PyData.bool true)).map (·.1)) = (K i).map nI := by rw [List.map_map]; rfl
      simp only [biop, this]
      rw [if_pos (by simp [flatKey])]
    have w2 : biop .sorted [.list ((K i).map nI)] = some (vals ((nb (webOf n cs h1 h8 hc) i).map nI)) := by
      simp only [biop]
      rw [sortp_nat (by omega), sort_eq (n := n) (c := (webOf n cs h1 h8 hc).adj i) (hN i)]
      · rfl
      · intro j
        rw [hK]
        simp only [webOf, Bool.or_eq_true, List.contains_iff_mem]
        constructor
        · intro h
          refine ⟨?_, h⟩
          rcases h with h | h
          · exact (hc _ h).2.2
          · exact (hc _ h).2.1
        · exact fun h => h.2
    exact E.tupl (E.bi1 (E.bi1 (.var rfl) w1).wl w2).wl
  · rw [q_evI_seq, q_ev_var]
    simp only [gt, Option.bind_some, walk, fro_dcts, rowOf, Option.map_some, st]
  · exact I.seq (.var rfl) (by rw [fro_dcts]; rfl)
end
abbrev HBy (cf : Nat → List R → Option (R × List (Option R))) (f : Nat) : Prop := ∀ (n : Nat) (cs : List (Nat × Nat)) (h1 : 1 ≤ n) (h8 : n ≤ 8) (hc : ∀ c ∈ cs, c.1 ≠ c.2 ∧ c.1 < n ∧ c.2 < n), cs.length ≤ 400 → Cl cf f [vR (nI n), vals (cs.map cp)] (vR (toD (webOf n cs h1 h8 hc)))
theorem c_by {T : List Dfn} {wh : WhT} {n f : Nat} (hT : T[f]? = some ⟨2, 7, bd_law_by⟩) : HBy (callN T wh (n + 1)) f := fun m cs h1 h8 hc hl => by
  obtain ⟨e, h⟩ := b_by (cf := callN T wh n) (wh := wh) m cs h1 h8 hc hl
  exact ⟨_, call_run (args := [vR (nI m), vals (cs.map cp)]) hT ⟨rfl, rfl⟩ h rfl⟩
end Ev.Z
set_option autoImplicit true
set_option linter.all false
set_option maxRecDepth 100000
/-! _law_web: a drawn web. -/
namespace Ev.Z
open PySem
theorem mapE_rel {α : Type} {F : PyData → Env → Option (Option R × Env)} {f : α → PyData} (Iv : List R → List α → Env → Prop) : ∀ {xs : List α} {acc : List R} {pre : List α} {e : Env}, (∀ pre rs x e, x ∈ xs → Iv rs pre e → ∃ o e', F (f x) e = some (o, e') ∧ Iv (rs ++ o.toList) (pre ++ [x]) e') → Iv acc pre e →
    ∃ rs e', mapE F (xs.map f) e = some (rs, e') ∧ Iv (acc ++ rs) (pre ++ xs) e'
  | [], acc, pre, e, _, h => ⟨[], e, rfl, by simpa using h⟩
  | x :: xs, acc, pre, e, hs, h => by
    obtain ⟨o, e', h1, h2⟩ := hs pre acc x e List.mem_cons_self h
    obtain ⟨rs, e2, h3, h4⟩ := mapE_rel Iv (xs := xs) (fun pre rs y e hy hI => hs pre rs y e (List.mem_cons_of_mem _ hy) hI) h2
    refine ⟨o.toList ++ rs, e2, ?_, by simpa using h4⟩
    simp only [List.map_cons, mapE, h1, Option.bind_some, h3]
    cases o <;> rfl
def bd_law_web (f_law_taken f_law_by : Nat) : List MS := [(.par [4, 5] [(.bin .add (.cst (.int 1)) (.call f_law_taken [(.var 0), (.var 1)])), (.lst [])]), (.asg (.nm 2) (.bin .add (.cst (.int 2)) (.call f_law_taken [(.var 0), (.cst (.int 3))]))), (.for (.nm 3) (.rng (.var 4)) [(.asg (.nm 5) (.bin .add (.var 5) (.lc (.tup [(.var 3), (.var 6)]) (.nm 6) (.rng2 (.bin .add (.var 3) (.cst (.int 1))) (.var 4)) (some (.cmp .eq (.call f_law_taken [(.var 0), (.var 2)]) (.cst (.int 0)))) [6])))]), (.ret (.call f_law_by [(.var 4), (.var 5)]))]
section
variable {cf : Nat → List R → Option (R × List (Option R))} {wh : WhT}
theorem web_lc {f : Nat} (ht : HTaken cf f) (s : List Int) (r : R) (m rare i n : Nat) (ds : List PyData) (s6 : Sl) (hr : isRow s r) (h0 : 0 < rare) (h5 : rare < 100) (hi : i < n) (hn : n ≤ 100) (hs : plainSl s6 = true) :
    ∃ (r' : R) (ys : List Nat), ev ⟨cf, wh⟩ (.lc (.tup [(.var 3), (.var 6)]) (.nm 6) (.rng2 (.bin .add (.var 3) (.cst (.int 1))) (.var 4)) (some (.cmp .eq (.call f [(.var 0), (.var 2)]) (.cst (.int 0)))) [6]) [.sl r, V (nI m), V (nI rare), V (nI i), V (nI n), L ds, s6]
      = some (.tm (vals ((ys.map fun j => (i, j)).map cp)), [.sl r', V (nI m), V (nI rare), V (nI i), V (nI n), L ds, s6]) ∧ isRow s r' ∧ (∀ j ∈ ys, i < j ∧ j < n) ∧ ys.length ≤ n := by
  have hI : I ⟨cf, wh⟩ (.rng2 (.bin .add (.var 3) (.cst (.int 1))) (.var 4)) [.sl r, V (nI m), V (nI rare), V (nI i), V (nI n), L ds, s6] ((List.range' (i + 1) (n - (i + 1))).map nI) :=
    I.rng2 (E.bin (.var rfl) .cst (add_nat i 1)).wv (.var rfl) (by omega) (by omega)
  rw [q_ev_lc, hI, Option.bind_some]
  dsimp only
  have hp : [6].all (fun i_1 => plainSl (gt [.sl r, V (nI m), V (nI rare), V (nI i), V (nI n), L ds, s6] i_1)) = true := by
    simp only [List.all_cons, List.all_nil, Bool.and_true]; exact hs
  rw [if_pos hp]
  obtain ⟨rs, e', h1, r', ys, hr', rfl, hsub, hrs⟩ := mapE_rel (F := fun d e => (bindT (.nm 6) d e).bind fun e1 => (evC ⟨cf, wh⟩ (some (.cmp .eq (.call f [(.var 0), (.var 2)]) (.cst (.int 0)))) e1).bind fun c => if c.1 then (ev ⟨cf, wh⟩ (.tup [(.var 3), (.var 6)]) c.2).bind fun y => (own y.1 y.2).bind fun r => some (some r.1, Ev.wipe r.2 [6]) else some (none, Ev.wipe c.2 [6])) (f := nI)
    (fun rs pre e => ∃ (r' : R) (ys : List Nat), isRow s r' ∧ e = [.sl r', V (nI m), V (nI rare), V (nI i), V (nI n), L ds, .no] ∧ ys.Sublist pre ∧ rs = ys.map fun j => vR (cp (i, j))) (xs := List.range' (i + 1) (n - (i + 1))) (acc := []) (pre := []) (e := [.sl r, V (nI m), V (nI rare), V (nI i), V (nI n), L ds, .no])
    (fun pre rs j e hj hI => by
      obtain ⟨r', ys, hr', rfl, hsub, rfl⟩ := hI
      obtain ⟨v, r2, g1, g2, g3⟩ := draw (wh := wh) (f := f) (i := 0) (e := .var 2) (m := (rare : Int)) (s := s) (r := r') (env := [.sl r', V (nI m), V (nI rare), V (nI i), V (nI n), L ds, V (nI j)]) ht rfl hr' (.var rfl) (by omega) (by omega)
      have hb : bindT (.nm 6) (nI j) [.sl r', V (nI m), V (nI rare), V (nI i), V (nI n), L ds, .no] = some [.sl r', V (nI m), V (nI rare), V (nI i), V (nI n), L ds, V (nI j)] := bindT_nm rfl
      have hc : evC ⟨cf, wh⟩ (some (.cmp .eq (.call f [(.var 0), (.var 2)]) (.cst (.int 0)))) [.sl r', V (nI m), V (nI rare), V (nI i), V (nI n), L ds, V (nI j)] = some (v == 0, [.sl r2, V (nI m), V (nI rare), V (nI i), V (nI n), L ds, V (nI j)]) := by
        rw [q_evC_somee, q_ev_cmp, g1, Option.bind_some]
        have : cmpop .eq (.int (v : Int)) (.int 0) = some (v == 0) := eq_nat v 0
        simp only [q_ev_cst, Option.bind_some, view, fro, nI, this, asB, st]
      rw [hb, Option.bind_some, hc, Option.bind_some]
      cases hv : v == 0
      · refine ⟨none, _, rfl, r2, ys, g3, rfl, hsub.trans (List.sublist_append_left _ _), by simp⟩
      · have ht : ev ⟨cf, wh⟩ (.tup [(.var 3), (.var 6)]) [.sl r2, V (nI m), V (nI rare), V (nI i), V (nI n), L ds, V (nI j)] = some (.tm (vR (cp (i, j))), [.sl r2, V (nI m), V (nI rare), V (nI i), V (nI n), L ds, V (nI j)]) := E.tup2 (.var rfl) (.var rfl)
        refine ⟨some (vR (cp (i, j))), [.sl r2, V (nI m), V (nI rare), V (nI i), V (nI n), L ds, .no], ?_, r2, ys ++ [j], g3, rfl, hsub.append (List.Sublist.refl _), by simp⟩
        simp only [if_true, ht, Option.bind_some, own, Ev.wipe, st])
    ⟨r, [], hr, rfl, List.Sublist.refl _, rfl⟩
  have hw : Ev.wipe [.sl r, V (nI m), V (nI rare), V (nI i), V (nI n), L ds, s6] [6] = [.sl r, V (nI m), V (nI rare), V (nI i), V (nI n), L ds, .no] := rfl
  rw [hw, h1]
  simp only [List.nil_append] at hsub hrs
  have hlen := hsub.length_le
  simp only [List.length_range'] at hlen
  refine ⟨r', ys, ?_, hr', fun j hj => ?_, by omega⟩
  · have e1 : vals ((ys.map fun j => (i, j)).map cp) = .lst rs := by rw [hrs, vals, List.map_map, List.map_map]; rfl
    rw [e1]
    simp only [Option.bind_some]
    rw [if_pos (by rw [hrs, List.length_map]; simp only [big]; omega)]
    rfl
  · have := hsub.subset hj
    simp only [List.mem_range'_1] at this
    omega
theorem b_web {ft fb : Nat} (ht : HTaken cf ft) (hb : HBy cf fb) (s : List Int) (r : R) (m : Nat) (hr : isRow s r) (hm : 1 ≤ m) (hm8 : m ≤ 8) :
    ∃ (w : Web) (r' : R) (e : Env), Xs ⟨cf, wh⟩ (bd_law_web ft fb) [.sl r, V (nI m), .no, .no, .no, .no, .no] (.ret (vR (toD w))) (.sl r' :: e) ∧ isRow s r' ∧ w.n ≤ m := by
  obtain ⟨v, r1, g1, g2, g3⟩ := draw (wh := wh) (f := ft) (i := 0) (e := .var 1) (m := (m : Int)) (s := s) (r := r) (env := [.sl r, V (nI m), .no, .no, .no, .no, .no]) ht rfl hr (.var rfl) (by omega) (by omega)
  have t1 : X ⟨cf, wh⟩ (.par [4, 5] [(.bin .add (.cst (.int 1)) (.call ft [(.var 0), (.var 1)])), (.lst [])]) [.sl r, V (nI m), .no, .no, .no, .no, .no] .nx [.sl r1, V (nI m), .no, .no, V (nI (1 + v)), L [], .no] := by
    unfold X
    have ha := add_nat 1 v
    simp only [nI] at ha
    rw [q_ex_par, q_evs_ees, q_ev_bin, q_ev_cst, Option.bind_some]
    simp only [g1, Option.bind_some, view, fro, nI, ha, q_evs_ees, q_ev_lst, q_evs_nil, owns, own, bindRs, bindR, gt, st]
    have ha : binop .add (.int 1) (.int (v : Int)) = some (.val (.int ((1 + v : Nat) : Int))) := ha
    simp only [ha, Option.bind_some, owns, own, bindRs, bindR, gt, st]
    rfl
  obtain ⟨v2, r2, p1, p2, p3⟩ := draw (wh := wh) (f := ft) (i := 0) (e := .cst (.int 3)) (m := 3) (s := s) (r := r1) (env := [.sl r1, V (nI m), .no, .no, V (nI (1 + v)), L [], .no]) ht rfl g3 .cst (by omega) (by omega)
  have t2 : X ⟨cf, wh⟩ (.asg (.nm 2) (.bin .add (.cst (.int 2)) (.call ft [(.var 0), (.cst (.int 3))]))) [.sl r1, V (nI m), .no, .no, V (nI (1 + v)), L [], .no] .nx [.sl r2, V (nI m), V (nI (2 + v2)), .no, V (nI (1 + v)), L [], .no] := by
    unfold X
    have ha : binop .add (.int 2) (.int (v2 : Int)) = some (.val (.int ((2 + v2 : Nat) : Int))) := add_nat 2 v2
    rw [q_ex_asg, q_ev_bin, q_ev_cst, Option.bind_some]
    simp only [p1, Option.bind_some, view, fro, nI, ha, own, bindR, gt, st]
  obtain ⟨e3, t3, r3, cs, s3, s6, hr3, hcs, hl3, rfl, h3, h6⟩ := X.forP (O := ⟨cf, wh⟩) (tg := .nm 3) (it := .rng (.var 4)) (b := [(.asg (.nm 5) (.bin .add (.var 5) (.lc (.tup [(.var 3), (.var 6)]) (.nm 6) (.rng2 (.bin .add (.var 3) (.cst (.int 1))) (.var 4)) (some (.cmp .eq (.call ft [(.var 0), (.var 2)]) (.cst (.int 0)))) [6])))])
    (env := [.sl r2, V (nI m), V (nI (2 + v2)), .no, V (nI (1 + v)), L [], .no]) (env1 := [.sl r2, V (nI m), V (nI (2 + v2)), .no, V (nI (1 + v)), L [], .no]) (xs := List.range (1 + v)) (f := nI)
    (fun pre e => ∃ (r3 : R) (cs : List (Nat × Nat)) (s3 s6 : Sl), isRow s r3 ∧ (∀ c ∈ cs, c.1 ≠ c.2 ∧ c.1 < 1 + v ∧ c.2 < 1 + v) ∧ cs.length ≤ 8 * pre.length ∧ e = [.sl r3, V (nI m), V (nI (2 + v2)), s3, V (nI (1 + v)), L (cs.map cp), s6] ∧ notLk s3 = true ∧ plainSl s6 = true)
    (I.rng (.var rfl) (by omega)) ⟨r2, [], .no, .no, p3, by simp, by simp, rfl, rfl, rfl⟩ fun pre i e hi hpre hI => by
      obtain ⟨r3, cs, s3, s6, hr3, hcs, hl3, rfl, h3, h6⟩ := hI
      rw [List.mem_range] at hi
      rw [List.length_range] at hpre
      obtain ⟨r4, ys, q1, q2, q3, q4⟩ := web_lc (wh := wh) ht s r3 m (2 + v2) i (1 + v) (cs.map cp) s6 hr3 (by omega) (by omega) hi (by omega) h6
      refine ⟨[.sl r3, V (nI m), V (nI (2 + v2)), V (nI i), V (nI (1 + v)), L (cs.map cp), s6], [.sl r4, V (nI m), V (nI (2 + v2)), V (nI i), V (nI (1 + v)), L ((cs ++ ys.map fun j => (i, j)).map cp), s6], bindT_nm h3, .last ?_, r4, _, _, s6, q2, fun c hc => ?_, ?_, rfl, rfl, h6⟩
      · have ha : binop .add (.list (cs.map cp)) (.list ((ys.map fun j => (i, j)).map cp)) = some (vals ((cs ++ ys.map fun j => (i, j)).map cp)) := by
          simp only [binop, List.map_append]
          rw [if_pos (by simp only [List.length_map, big]; omega)]
        have hv : ev ⟨cf, wh⟩ (.var 5) [.sl r3, V (nI m), V (nI (2 + v2)), V (nI i), V (nI (1 + v)), L (cs.map cp), s6] = some (.vr 5, [.sl r3, V (nI m), V (nI (2 + v2)), V (nI i), V (nI (1 + v)), L (cs.map cp), s6]) := by rw [q_ev_var]; rfl
        unfold X
        rw [q_ex_asg, q_ev_bin, hv, Option.bind_some]
        simp only [q1, Option.bind_some, view, gt, fro_vals, shal_vals, st, ha, own, bindR]
      · rw [List.mem_append, List.mem_map] at hc
        rcases hc with hc | ⟨j, hj, rfl⟩
        · exact hcs c hc
        · have := q3 j hj
          exact ⟨by simp only; omega, hi, this.2⟩
      · simp only [List.length_append, List.length_map, List.length_singleton]
        omega
  simp only [List.length_range] at hl3
  obtain ⟨outs, hcall⟩ := hb (1 + v) cs (by omega) (by omega) hcs (by omega)
  have hv : ev ⟨cf, wh⟩ (.var 5) [.sl r3, V (nI m), V (nI (2 + v2)), s3, V (nI (1 + v)), L (cs.map cp), s6] = some (.vr 5, [.sl r3, V (nI m), V (nI (2 + v2)), s3, V (nI (1 + v)), L (cs.map cp), s6]) := by rw [q_ev_var]; rfl
  have hv4 : ev ⟨cf, wh⟩ (.var 4) [.sl r3, V (nI m), V (nI (2 + v2)), s3, V (nI (1 + v)), L (cs.map cp), s6] = some (.tm (vR (nI (1 + v))), [.sl r3, V (nI m), V (nI (2 + v2)), s3, V (nI (1 + v)), L (cs.map cp), s6]) := by rw [q_ev_var]; rfl
  have key : ∃ e, ev ⟨cf, wh⟩ (.call fb [(.var 4), (.var 5)]) [.sl r3, V (nI m), V (nI (2 + v2)), s3, V (nI (1 + v)), L (cs.map cp), s6] = some (.tm (vR (toD (webOf (1 + v) cs (by omega) (by omega) hcs))), .sl r3 :: e) := by
    rw [q_ev_call, q_evs_ees, hv4, Option.bind_some]
    simp only [q_evs_ees, hv, Option.bind_some, q_evs_nil, owns, own, gt, st, hcall]
    cases outs with
    | nil => exact ⟨_, rfl⟩
    | cons o1 outs => cases outs <;> exact ⟨_, rfl⟩
  obtain ⟨e, key⟩ := key
  refine ⟨webOf (1 + v) cs (by omega) (by omega) hcs, r3, e, .nx t1 (.nx t2 (.nx t3 (.ret (ret_to key)))), hr3, ?_⟩
  show 1 + v ≤ m
  omega
/-- a drawn web of at most m people; the row goes on -/
abbrev HDrawn (cf : Nat → List R → Option (R × List (Option R))) (f : Nat) : Prop := ∀ (s : List Int) (r : R) (m : Nat), isRow s r → 1 ≤ m → m ≤ 8 → ∃ (w : Web) (r' : R), cf f [r, vR (nI m)] = some (vR (toD w), [some r', none]) ∧ isRow s r' ∧ w.n ≤ m
end
theorem c_web {T : List Dfn} {wh : WhT} {n f ft fb : Nat} (hT : T[f]? = some ⟨2, 7, bd_law_web ft fb⟩) (ht : HTaken (callN T wh n) ft) (hb : HBy (callN T wh n) fb) : HDrawn (callN T wh (n + 1)) f := fun s r m hr h1 h8 => by
  obtain ⟨w, r', e, g1, g2, g3⟩ := b_web (wh := wh) ht hb s r m hr h1 h8
  obtain ⟨c, h, t, hc, rfl⟩ := hr
  exact ⟨w, r', call_run (args := [rowR (s.map .int) c h t, vR (nI m)]) hT ⟨rfl, rfl⟩ g1 rfl, g2, g3⟩
end Ev.Z
set_option autoImplicit true
set_option linter.all false
set_option maxRecDepth 100000
/-! Steps of the laws: draws, checks. -/
namespace Ev.Z
open PySem
section
variable {cf : Nat → List R → Option (R × List (Option R))} {wh : WhT} {env : Env}
theorem X.drawn {f i j : Nat} {e : ME} {m : Nat} {s : List Int} {r : R} (ht : HTaken cf f) (hg : gt env i = .sl r) (hr : isRow s r) (he : E ⟨cf, wh⟩ e env (vR (nI m))) (hm : 0 < m) (hm2 : m < 100) (hj : notLk (gt env j) = true) (hij : i ≠ j := by decide) :
    ∃ (v : Nat) (r' : R), X ⟨cf, wh⟩ (.asg (.nm j) (.call f [.var i, e])) env .nx (st (st env i (.sl r')) j (V (nI v))) ∧ v < m ∧ isRow s r' := by
  obtain ⟨v, r', h1, h2, h3⟩ := draw (wh := wh) ht hg hr he (by omega) (by omega)
  refine ⟨v, r', ?_, by omega, h3⟩
  unfold X
  rw [q_ex_asg, h1, Option.bind_some]
  simp only [own, Option.bind_some]
  rw [bindR_nm (by rw [gt_st_ne _ _ _ _ hij]; exact hj)]
  rfl
theorem X.web {f i j m : Nat} {s : List Int} {r : R} (ht : HDrawn cf f) (hg : gt env i = .sl r) (hr : isRow s r) (hm : 1 ≤ m) (hm2 : m ≤ 8) (hj : notLk (gt env j) = true) (hij : i ≠ j := by decide) :
    ∃ (w : Web) (r' : R), X ⟨cf, wh⟩ (.asg (.nm j) (.call f [.var i, .cst (nI m)])) env .nx (st (st env i (.sl r')) j (V (toD w))) ∧ w.n ≤ m ∧ isRow s r' := by
  obtain ⟨w, r', h1, h3, h2⟩ := ht s r m hr hm hm2
  refine ⟨w, r', ?_, h2, h3⟩
  obtain ⟨c, h, t, _, rfl⟩ := hr
  have h5 : ev ⟨cf, wh⟩ (.var i) env = some (.vr i, env) := by rw [q_ev_var, hg]; rfl
  unfold X
  rw [q_ex_asg, q_ev_call, q_evs_ees, h5, Option.bind_some]
  simp only [q_evs_ees, q_ev_cst, Option.bind_some, q_evs_nil, owns, own, hg, h1, back, st_st]
  rw [bindR_nm (by rw [gt_st_ne _ _ _ _ hij]; exact hj)]
  rfl
/-- an answer is alike what is due -/
theorem E.alk {f k : Nat} {a b : ME} {d : PyData} (hal : HAlike cf f k) (hp : Pl k d) (ha : E ⟨cf, wh⟩ a env (vR d)) (hb : E ⟨cf, wh⟩ b env (vR d)) : E ⟨cf, wh⟩ (.call f [a, b]) env (vR (.bool true)) := E.cl (.cons ha (.cons hb .nil)) (hal d hp)
theorem X.alk {f k : Nat} {a b : ME} {ss : List MS} {d : PyData} (hal : HAlike cf f k) (hp : Pl k d) (ha : E ⟨cf, wh⟩ a env (vR d)) (hb : E ⟨cf, wh⟩ b env (vR d)) : X ⟨cf, wh⟩ (.ite (.nt (.call f [a, b])) ss []) env .nx env :=
  X.skip (E.nt (E.alk hal hp ha hb).wv).wv
end
theorem pl_nat (k n : Nat) : Pl k (nI n) := .int k n
theorem pl_nats {k : Nat} {xs : List Nat} (h : xs.length ≤ 1000) : Pl (k + 1) (.tuple (xs.map nI)) := .tup k _ (fun d hd => by obtain ⟨x, _, rfl⟩ := List.mem_map.mp hd; exact pl_nat k x) (by simpa using h)
theorem pl_cp (k : Nat) (c : Nat × Nat) : Pl (k + 1) (cp c) := .tup k _ (fun d hd => by
  simp only [List.mem_cons, List.not_mem_nil, or_false] at hd
  rcases hd with rfl | rfl <;> exact pl_nat k _) (by simp)
theorem pl_cps {k : Nat} {xs : List (Nat × Nat)} (h : xs.length ≤ 1000) : Pl (k + 2) (.tuple (xs.map cp)) := .tup (k + 1) _ (fun d hd => by obtain ⟨x, _, rfl⟩ := List.mem_map.mp hd; exact pl_cp k x) (by simpa using h)
theorem pl_row {k : Nat} (w : Web) (i : Nat) : Pl (k + 1) (rowD w i) := pl_nats (by have := nb_len w i; omega)
theorem pl_web {k : Nat} (w : Web) : Pl (k + 2) (toD w) := .tup (k + 1) _ (fun d hd => by obtain ⟨x, _, rfl⟩ := List.mem_map.mp hd; exact pl_row w x) (by have := w.le; simp; omega)
theorem mem_prs {w : Web} {i j : Nat} : (i, j) ∈ prs w ↔ i < w.n ∧ j < w.n ∧ w.adj i j = true ∧ i < j := by
  simp only [prs, prs1, List.mem_flatMap, List.mem_range, List.mem_map, List.mem_filter, mem_nb, Prod.mk.injEq, decide_eq_true_eq]
  constructor
  · rintro ⟨a, ha, b, ⟨⟨hb, h1⟩, h2⟩, rfl, rfl⟩
    exact ⟨ha, hb, h1, h2⟩
  · rintro ⟨h1, h2, h3, h4⟩
    exact ⟨i, h1, j, ⟨⟨h2, h3⟩, h4⟩, rfl, rfl⟩
theorem prs_has {w : Web} {i j : Nat} (hi : i < w.n) (hij : i < j) : (prs w).contains (i, j) = (nb w i).contains j := by
  rw [Bool.eq_iff_iff, List.contains_iff_mem, List.contains_iff_mem, mem_prs, mem_nb]
  constructor
  · rintro ⟨_, h1, h2, _⟩; exact ⟨h1, h2⟩
  · rintro ⟨h1, h2⟩; exact ⟨hi, h1, h2, hij⟩
end Ev.Z
set_option autoImplicit true
set_option linter.all false
set_option maxRecDepth 100000
/-! web_by: the web of couples by lists. -/
namespace Ev.Z
open PySem
theorem mem_insI {i k : Int} : ∀ {js : List Int}, k ∈ insI i js ↔ k = i ∨ k ∈ js
  | [] => by simp [insI]
  | j :: js => by
    simp only [insI]
    split
    · simp
    · split
      · rename_i h; subst h; simp
      · simp only [List.mem_cons, mem_insI (js := js)]
        constructor
        · rintro (h | h | h)
          · exact .inr (.inl h)
          · exact .inl h
          · exact .inr (.inr h)
        · rintro (h | h | h)
          · exact .inr (.inl h)
          · exact .inl h
          · exact .inr (.inr h)
theorem insI_pw {i : Int} : ∀ {js : List Int}, js.Pairwise (· < ·) → (insI i js).Pairwise (· < ·)
  | [], _ => by simp [insI]
  | j :: js, h => by
    rw [List.pairwise_cons] at h
    simp only [insI]
    split
    · rename_i hi
      rw [List.pairwise_cons, List.pairwise_cons]
      refine ⟨fun k hk => ?_, h⟩
      rcases List.mem_cons.mp hk with rfl | hk
      · exact hi
      · exact Int.lt_trans hi (h.1 k hk)
    · split
      · rw [List.pairwise_cons]; exact h
      · rename_i h1 h2
        rw [List.pairwise_cons]
        refine ⟨fun k hk => ?_, insI_pw h.2⟩
        rcases mem_insI.mp hk with rfl | hk
        · omega
        · exact h.1 k hk
theorem mem_setI {k : Int} : ∀ {is : List Int}, k ∈ setI is ↔ k ∈ is
  | [] => by simp [setI]
  | i :: is => by rw [setI, mem_insI, mem_setI, List.mem_cons]
theorem setI_pw : ∀ is : List Int, (setI is).Pairwise (· < ·)
  | [] => by simp [setI]
  | i :: is => insI_pw (setI_pw is)
theorem pw_eq {l m : List Int} (hl : l.Pairwise (· < ·)) (hm : m.Pairwise (· < ·)) (h : ∀ k, k ∈ l ↔ k ∈ m) : l = m := by
  refine List.Perm.eq_of_pairwise (le := fun a b => a < b) (fun a b _ _ h1 h2 => by omega) hl hm ?_
  exact (List.perm_ext_iff_of_nodup (hl.imp fun h => by omega) (hm.imp fun h => by omega)).mpr h
/-- sorted(set(l)): the numbers below n that stand in l -/
theorem sset_list {xs : List Nat} {n : Nat} {c : Nat → Bool} (hm : ∀ j, j ∈ xs ↔ j < n ∧ c j = true) (hl : xs.length ≤ 4000) (hn : n < 64) : biop .sset [.list (xs.map nI)] = some (vals (((List.range n).filter c).map nI)) := by
  have h1 : xs.map nI = (xs.map Int.ofNat).map .int := by rw [List.map_map]; rfl
  have h2 : ((List.range n).filter c).map nI = (((List.range n).filter c).map Int.ofNat).map .int := by rw [List.map_map]; rfl
  have h3 : setI (xs.map Int.ofNat) = ((List.range n).filter c).map Int.ofNat := by
    refine pw_eq (setI_pw _) ?_ fun k => ?_
    · rw [List.pairwise_map]
      exact (List.Pairwise.filter _ List.pairwise_lt_range).imp fun h => Int.ofNat_lt.mpr h
    · rw [mem_setI]
      simp only [List.mem_map, List.mem_filter, List.mem_range, hm]
  have h4 : ((List.range n).filter c).length < 64 := by
    have := List.length_filter_le c (List.range n)
    rw [List.length_range] at this
    omega
  rw [h1, h2]
  simp only [biop, setp, ints_map, h3, List.length_map]
  rw [if_pos ⟨by omega, h4⟩]
  rfl
abbrev lsts (n : Nat) (K : Nat → List Nat) : R := .lst ((List.range n).map fun j => vals ((K j).map nI))
section
variable {O : Orc} {env : Env}
theorem X.app2k {i a b n : Nat} {k v : ME} {K : Nat → List Nat} (hg : gt env i = .sl (lsts n K)) (hk : smp k env = some (nI a)) (hv : smp v env = some (nI b)) (ha : a < n) (hl : (K a).length < 1000) :
    X O (.app2 i k v) env .nx (st env i (.sl (lsts n fun j => if j = a then K a ++ [b] else K j))) := by
  unfold X
  rw [q_ex_app2, hk, Option.bind_some, hv, Option.bind_some]
  have h1 : ixOf ((List.range n).map fun j => vals ((K j).map nI)).length (a : Int) = some a := ix_ok (by simpa using ha)
  have h2 : ((List.range n).map fun j => vals ((K j).map nI))[a]? = some (vals ((K a).map nI)) := by simp [ha]
  have h3 : addTo (.val (nI b)) (vals ((K a).map nI)) = some (vals ((K a ++ [b]).map nI)) := by
    simp only [vals, addTo]
    rw [if_pos (by simp only [List.length_map, big]; omega)]
    simp
  simp only [chg, hg, onAt, nI, h1, h2, Option.bind_some]
  simp only [nI] at h3
  simp only [h3, Option.bind_some, set_map _ _ _ _ ha]
  congr 4
  simp only [lsts, R.lst.injEq, Sl.sl.injEq]
  refine List.map_congr_left fun j _ => ?_
  split <;> rfl
end
theorem fro_lsts (n : Nat) (K : Nat → List Nat) : fro (lsts n K) = .list ((List.range n).map fun j => .list ((K j).map nI)) := by
  rw [lsts, fro]
  congr 1
  induction List.range n with
  | nil => rfl
  | cons x xs ih => simp only [List.map_cons, froAll, fro_vals, ih]
def bd_web_by : List MS := [(.asg (.nm 2) (.lc (.lst []) (.nm 5) (.rng (.var 0)) none [5])), (.for (.tp [(.nm 3), (.nm 4)]) (.seq (.var 1)) [(.app2 2 (.var 3) (.var 4)), (.app2 2 (.var 4) (.var 3))]), (.ret (.bi .tuple [(.lc (.bi .tuple [(.bi .sset [(.var 6)])]) (.nm 6) (.seq (.var 2)) none [6])]))]
section
variable {cf : Nat → List R → Option (R × List (Option R))} {wh : WhT}
theorem b_web_by (n : Nat) (cs : List (Nat × Nat)) (h1 : 1 ≤ n) (h8 : n ≤ 8) (hc : ∀ c ∈ cs, c.1 ≠ c.2 ∧ c.1 < n ∧ c.2 < n) (hl : cs.length ≤ 60) :
    ∃ e, Xs ⟨cf, wh⟩ bd_web_by [V (nI n), L (cs.map cp), .no, .no, .no, .no, .no] (.ret (vR (toD (webOf n cs h1 h8 hc)))) e := by
  have s1 : X ⟨cf, wh⟩ (.asg (.nm 2) (.lc (.lst []) (.nm 5) (.rng (.var 0)) none [5])) [V (nI n), L (cs.map cp), .no, .no, .no, .no, .no] .nx [V (nI n), L (cs.map cp), .sl (lsts n fun _ => []), .no, .no, .no, .no] :=
    .asg (E.lc (xs := List.range n) (f := nI) (h := fun j => vals (List.map nI [])) (I.rng (.var rfl) (by omega)) rfl (by simp; omega) fun x hx => nil_L) rfl
  obtain ⟨e2, g2, K, a, b, rfl, ha, hb, hK, hL⟩ := X.forP (O := ⟨cf, wh⟩) (tg := .tp [(.nm 3), (.nm 4)]) (it := .seq (.var 1)) (b := [(.app2 2 (.var 3) (.var 4)), (.app2 2 (.var 4) (.var 3))])
    (env := [V (nI n), L (cs.map cp), .sl (lsts n fun _ => []), .no, .no, .no, .no]) (env1 := [V (nI n), V (.list (cs.map cp)), .sl (lsts n fun _ => []), .no, .no, .no, .no]) (xs := cs) (f := cp)
    (fun pre e => ∃ (K : Nat → List Nat) (a b : Sl), e = [V (nI n), V (.list (cs.map cp)), .sl (lsts n K), a, b, .no, .no] ∧ notLk a = true ∧ notLk b = true ∧ (∀ i j, j ∈ K i ↔ (i, j) ∈ pre ∨ (j, i) ∈ pre) ∧ ∀ i, (K i).length ≤ pre.length)
    (I.seqv rfl) ⟨fun _ => [], .no, .no, rfl, rfl, rfl, by simp, by simp⟩ fun pre x e hx hpre hI => by
      obtain ⟨K, a, b, rfl, ha, hb, hK, hL⟩ := hI
      obtain ⟨u, v⟩ := x
      obtain ⟨hne, hu, hv⟩ := hc _ hx
      simp only at hne hu hv
      have hLu := hL u
      have hLv := hL v
      have t1 := X.app2k (O := ⟨cf, wh⟩) (i := 2) (a := u) (b := v) (n := n) (k := .var 3) (v := .var 4) (K := K) (env := [V (nI n), V (.list (cs.map cp)), .sl (lsts n K), V (nI u), V (nI v), .no, .no]) rfl rfl rfl hu (by omega)
      have t2 := X.app2k (O := ⟨cf, wh⟩) (i := 2) (a := v) (b := u) (n := n) (k := .var 4) (v := .var 3) (K := fun j => if j = u then K u ++ [v] else K j) (env := [V (nI n), V (.list (cs.map cp)), .sl (lsts n fun j => if j = u then K u ++ [v] else K j), V (nI u), V (nI v), .no, .no]) rfl rfl rfl hv (by rw [if_neg (fun e => hne e.symm)]; omega)
      refine ⟨_, _, bind2 ha hb, .nx t1 (.last t2), _, V (nI u), V (nI v), rfl, rfl, rfl, fun i j => ?_, fun i => ?_⟩
      · simp only [if_neg (show ¬ v = u from fun e => hne e.symm), List.mem_append, List.mem_singleton, Prod.mk.injEq]
        by_cases hiv : i = v
        · subst hiv
          rw [if_pos rfl, List.mem_append, List.mem_singleton, hK]
          have hh : ¬ i = u := fun e => hne e.symm
          constructor
          · rintro ((h | h) | rfl)
            · exact .inl (.inl h)
            · exact .inr (.inl h)
            · exact .inr (.inr ⟨rfl, rfl⟩)
          · rintro ((h | ⟨h, _⟩) | (h | ⟨h, _⟩))
            · exact .inl (.inl h)
            · exact absurd h hh
            · exact .inl (.inr h)
            · exact .inr h
        · rw [if_neg hiv]
          by_cases hiu : i = u
          · subst hiu
            rw [if_pos rfl, List.mem_append, List.mem_singleton, hK]
            constructor
            · rintro ((h | h) | rfl)
              · exact .inl (.inl h)
              · exact .inr (.inl h)
              · exact .inl (.inr ⟨rfl, rfl⟩)
            · rintro ((h | ⟨_, h⟩) | (h | ⟨_, h⟩))
              · exact .inl (.inl h)
              · exact .inr h
              · exact .inl (.inr h)
              · exact absurd h hne
          · rw [if_neg hiu, hK]
            simp [hiu, hiv]
      · simp only [if_neg (show ¬ v = u from fun e => hne e.symm), List.length_append, List.length_singleton]
        have := hL i
        split
        · simp only [List.length_append, List.length_singleton]; omega
        · split
          · simp only [List.length_append, List.length_singleton]; omega
          · omega
  refine ⟨[V (nI n), V (.list (cs.map cp)), V (fro (lsts n K)), a, b, .no, .no], .nx s1 (.nx g2 (.ret ?_))⟩
  refine ret_to (bi1_to (r := vals ((List.range n).map (rowD (webOf n cs h1 h8 hc)))) (env1 := [V (nI n), V (.list (cs.map cp)), V (fro (lsts n K)), a, b, .no, .no]) ?_ (by rw [fro_vals]; rfl))
  rw [lc_frz (env1 := [V (nI n), V (.list (cs.map cp)), V (fro (lsts n K)), a, b, .no, .no]) (ds := (List.range n).map fun j => .list ((K j).map nI))]
  · refine E.lcv (xs := List.range n) (f := fun j => .list ((K j).map nI)) (g := rowD (webOf n cs h1 h8 hc)) (I.seq (.var rfl) (by rw [fro_lsts]; rfl)) rfl (by simp; omega) fun i hi => ?_
    have hLi := hL i
    have w2 : biop .sset [.list ((K i).map nI)] = some (vals ((nb (webOf n cs h1 h8 hc) i).map nI)) := by
      refine sset_list (n := n) (fun j => ?_) (by omega) (by omega)
      rw [hK]
      simp only [webOf, Bool.or_eq_true, List.contains_iff_mem]
      constructor
      · intro h
        refine ⟨?_, h⟩
        rcases h with h | h
        · exact (hc _ h).2.2
        · exact (hc _ h).2.1
      · exact fun h => h.2
    exact E.tupl (E.bi1 (.var rfl) w2).wl
  · rw [q_evI_seq, q_ev_var]
    simp only [gt, Option.bind_some, walk, fro_lsts, rowOf, Option.map_some, st]
  · exact I.seq (.var rfl) (by rw [fro_lsts]; rfl)
end
abbrev HBy6 (cf : Nat → List R → Option (R × List (Option R))) (f : Nat) : Prop := ∀ (n : Nat) (cs : List (Nat × Nat)) (h1 : 1 ≤ n) (h8 : n ≤ 8) (hc : ∀ c ∈ cs, c.1 ≠ c.2 ∧ c.1 < n ∧ c.2 < n), cs.length ≤ 60 → Cl cf f [vR (nI n), vals (cs.map cp)] (vR (toD (webOf n cs h1 h8 hc)))
theorem c_web_by {T : List Dfn} {wh : WhT} {n f : Nat} (hT : T[f]? = some ⟨2, 7, bd_web_by⟩) : HBy6 (callN T wh (n + 1)) f := fun m cs h1 h8 hc hl => by
  obtain ⟨e, h⟩ := b_web_by (cf := callN T wh n) (wh := wh) m cs h1 h8 hc hl
  exact ⟨_, call_run (args := [vR (nI m), vals (cs.map cp)]) hT ⟨rfl, rfl⟩ h rfl⟩
/-! ### how many couples -/
theorem fm_sum {α β : Type} (f : α → List β) (g : α → Nat) (h : ∀ x, (f x).length ≤ g x) : ∀ l : List α, (l.flatMap f).length ≤ (l.map g).sum
  | [] => by simp
  | x :: xs => by
    have := fm_sum f g h xs
    have := h x
    simp only [List.flatMap_cons, List.length_append, List.map_cons, List.sum_cons]
    omega
theorem fm_filter_le {α β : Type} (f : α → List β) (c : α → Bool) : ∀ l : List α, ((l.filter c).flatMap f).length ≤ (l.flatMap f).length
  | [] => by simp
  | x :: xs => by
    have := fm_filter_le f c xs
    rw [List.filter_cons]
    split
    · simp only [List.flatMap_cons, List.length_append]; omega
    · simp only [List.flatMap_cons, List.length_append]; omega
theorem sum28 {n : Nat} (h : n ≤ 8) : ((List.range n).map fun i => n - 1 - i).sum ≤ 28 := by
  have : ∀ m ≤ 8, ((List.range m).map fun i => m - 1 - i).sum ≤ 28 := by decide
  exact this n h
/-- the people above i -/
theorem above_len (n i : Nat) (c : Nat → Bool) : (((List.range n).filter c).filter fun j => decide (i < j)).length ≤ n - 1 - i := by
  have h : (((List.range n).filter c).filter fun j => decide (i < j)).Sublist ((List.range n).filter fun j => decide (i < j)) := List.Sublist.filter _ List.filter_sublist
  refine Nat.le_trans h.length_le ?_
  have e : (List.range n).filter (fun j => decide (i < j)) = List.range' (i + 1) (n - (i + 1)) := by
    refine List.Perm.eq_of_pairwise (le := fun a b => a < b) (fun a b _ _ h1 h2 => by omega) (List.Pairwise.filter _ List.pairwise_lt_range) (List.pairwise_lt_range' ..) ?_
    refine (List.perm_ext_iff_of_nodup (List.Pairwise.filter _ List.nodup_range) (List.nodup_range' ..)).mpr fun j => ?_
    simp only [List.mem_filter, List.mem_range, decide_eq_true_eq, List.mem_range'_1]
    omega
  rw [e, List.length_range']
  omega
theorem prs_28 (w : Web) : (prs w).length ≤ 28 :=
  Nat.le_trans (fm_sum (prs1 w) (fun i => w.n - 1 - i) (fun i => by rw [prs1, List.length_map]; exact above_len _ _ _) _) (sum28 w.le)
end Ev.Z
set_option autoImplicit true
set_option linter.all false
set_option maxRecDepth 100000
/-! Comprehensions of two fors; a call; who moves. -/
namespace Ev.Z
open PySem
theorem mapEs_map {α : Type} {F : PyData → Env → Option (List R × Env)} {f : α → PyData} {g : α → List R} {e : Env} : ∀ {xs : List α}, (∀ x ∈ xs, F (f x) e = some (g x, e)) → mapEs F (xs.map f) e = some (xs.flatMap g, e)
  | [], _ => rfl
  | x :: xs, h => by
    simp only [List.map_cons, mapEs, h x List.mem_cons_self, Option.bind_some, mapEs_map fun y hy => h y (List.mem_cons_of_mem _ hy), List.flatMap_cons]
section
variable {O : Orc} {env : Env}
theorem E.lc2 {α β : Type} {elt cnd : ME} {i j : Nat} {it it' : MI} {xs : List α} {ys : α → List β} {f : α → PyData} {g : β → PyData} {c : α → β → Bool} {h : α → β → PyData} (hi : I O it env (xs.map f)) (hp : plainSl (gt env i) = true) (hp2 : plainSl (gt env j) = true)
    (hb : (xs.flatMap fun x => ((ys x).filter (c x)).map (h x)).length ≤ 1000) (hI : ∀ x ∈ xs, I O it' (st (st env j .no) i (V (f x))) ((ys x).map g))
    (hc : ∀ x ∈ xs, ∀ y ∈ ys x, W O cnd (st (st env i (V (f x))) j (V (g y))) (.bool (c x y)))
    (he : ∀ x ∈ xs, ∀ y ∈ ys x, c x y = true → E O elt (st (st env i (V (f x))) j (V (g y))) (vR (h x y))) (hij : i ≠ j := by decide) :
    E O (.lc2 elt (.nm i) it (.nm j) it' (some cnd) [i, j] [j]) env (vals (xs.flatMap fun x => ((ys x).filter (c x)).map (h x))) := by
  have w0 : Ev.wipe env [i, j] = st (st env j .no) i .no := rfl
  have key : ∀ x ∈ xs, ((bindT (.nm i) (f x) (Ev.wipe env [i, j])).bind fun e1 => (evI O it' e1).bind fun u =>
        (mapE (fun d' e' => (bindT (.nm j) d' e').bind fun e2 => (evC O (some cnd) e2).bind fun c => if c.1 then (ev O elt c.2).bind fun y => (own y.1 y.2).bind fun r => some (some r.1, Ev.wipe r.2 [j]) else some (none, Ev.wipe c.2 [j])) u.1 (Ev.wipe u.2.2 [j])).bind fun y =>
          some (y.1, Ev.wipe y.2 [i, j])) = some (((ys x).filter (c x)).map fun y => vR (h x y), Ev.wipe env [i, j]) := fun x hx => by
    have n1 : notLk (gt (st (st env j .no) i .no) i) = true := nlk_st rfl
    have n2 : notLk (gt (st (st (st env j .no) i (V (f x))) j .no) j) = true := nlk_st rfl
    have e1 : st (st (st env j .no) i (V (f x))) j .no = st (st env j .no) i (V (f x)) := by rw [st_comm _ i j _ _ hij, st_st]
    rw [w0, bindT_nm n1, Option.bind_some, st_st, hI x hx, Option.bind_some]
    dsimp only
    have w1 : Ev.wipe (st (st env j .no) i (V (f x))) [j] = st (st env j .no) i (V (f x)) := e1
    rw [w1, mapE_map (g := fun y => if c x y then some (vR (h x y)) else none) (fun y hy => by
      obtain ⟨o, hc1, hc2⟩ := hc x hx y hy
      have h1 := he x hx y hy
      unfold E at h1
      have n3 : notLk (gt (st (st env j .no) i (V (f x))) j) = true := by rw [← e1]; exact n2
      have e2 : st (st (st env j .no) i (V (f x))) j (V (g y)) = st (st env i (V (f x))) j (V (g y)) := by rw [st_comm _ i j _ _ hij, st_st, st_comm _ j i _ _ hij.symm]
      have e3 : ∀ s, Ev.wipe (st (st env i (V (f x))) j s) [j] = st (st env j .no) i (V (f x)) := fun s => by
        show st (st (st env i (V (f x))) j s) j .no = _
        rw [st_st, st_comm _ i j _ _ hij]
      rw [bindT_nm n3, Option.bind_some, e2, q_evC_somee, hc1, Option.bind_some]
      simp only [hc2, Option.bind_some, asB]
      cases hcx : c x y
      · simp only [Bool.false_eq_true, if_false, e3]
      · simp only [if_true, h1 hcx, Option.bind_some, own, e3])]
    rw [fm_filter]
    simp only [Option.bind_some, Option.some.injEq, Prod.mk.injEq, true_and]
    show st (st (st (st env j .no) i (V (f x))) j .no) i .no = _
    rw [e1, st_st]
  unfold E
  rw [q_ev_lc2, hi, Option.bind_some]
  simp only [List.all_cons, hp, hp2, List.all_nil, Bool.and_self, if_true]
  rw [mapEs_map key]
  have e5 : (xs.flatMap fun x => ((ys x).filter (c x)).map fun y => vR (h x y)) = (xs.flatMap fun x => ((ys x).filter (c x)).map (h x)).map .val := by
    rw [List.map_flatMap]
    congr 1
    funext x
    rw [List.map_map]
    rfl
  simp only [Option.bind_some, e5]
  rw [if_pos (by rw [List.length_map]; simp only [big]; omega), again_wipe]
  rfl
end
/-! ### equal tuples -/
theorem eqvAll_map {α : Type} [BEq α] [LawfulBEq α] {f : α → PyData} (hf : ∀ a b, (f a).eqv (f b) = (a == b)) : ∀ xs ys : List α, PyData.eqvAll (xs.map f) (ys.map f) = (xs == ys)
  | [], [] => by simp [PyData.eqvAll]
  | [], _ :: _ => by simp [PyData.eqvAll]
  | _ :: _, [] => by simp [PyData.eqvAll]
  | x :: xs, y :: ys => by simp only [List.map_cons, PyData.eqvAll, hf, eqvAll_map hf xs ys]; rfl
theorem eqT {α : Type} [BEq α] [LawfulBEq α] {f : α → PyData} (hf : ∀ a b, (f a).eqv (f b) = (a == b)) (xs ys : List α) : (PyData.tuple (xs.map f)).eqv (.tuple (ys.map f)) = (xs == ys) := by
  simp only [PyData.eqv, eqvAll_map hf]
def rowT (ns : List Nat) : PyData := .tuple (ns.map nI)
theorem eqR (a b : List Nat) : (rowT a).eqv (rowT b) = (a == b) := eqT eqN a b
def rows (w : Web) : List (List Nat) := (List.range w.n).map (nb w)
theorem toD_rows (w : Web) : toD w = .tuple ((rows w).map rowT) := by rw [toD, rows, List.map_map]; rfl
theorem eqW (a b : Web) : (toD a).eqv (toD b) = (rows a == rows b) := by rw [toD_rows, toD_rows]; exact eqT eqR _ _
theorem cmp_web (a b : Web) : cmpop .eq (toD a) (toD b) = some (rows a == rows b) := by rw [cmp_eq (sh_web a) (sh_web b), eqW]
theorem cmp_webne (a b : Web) : cmpop .ne (toD a) (toD b) = some (!(rows a == rows b)) := by rw [cmp_ne (sh_web a) (sh_web b), eqW]
/-! ### a call -/
def tri1 (w : Web) (p i : Nat) : List (Nat × Nat) := ((nb w p).filter fun j => decide (i < j)).map fun j => (i, j)
def tri (w : Web) (p : Nat) : List (Nat × Nat) := (nb w p).flatMap (tri1 w p)
theorem tri_28 (w : Web) (p : Nat) : (tri w p).length ≤ 28 :=
  Nat.le_trans (fm_filter_le (tri1 w p) (w.adj p) (List.range w.n)) (Nat.le_trans (fm_sum (tri1 w p) (fun i => w.n - 1 - i) (fun i => by rw [tri1, List.length_map]; exact above_len _ _ _) _) (sum28 w.le))
theorem mem_tri {w : Web} {p i j : Nat} : (i, j) ∈ tri w p ↔ i ∈ nb w p ∧ j ∈ nb w p ∧ i < j := by
  simp only [tri, tri1, List.mem_flatMap, List.mem_map, List.mem_filter, decide_eq_true_eq, Prod.mk.injEq]
  constructor
  · rintro ⟨a, ha, b, ⟨hb, h⟩, rfl, rfl⟩; exact ⟨ha, hb, h⟩
  · rintro ⟨h1, h2, h3⟩; exact ⟨i, h1, j, ⟨h2, h3⟩, rfl, rfl⟩
theorem good_prs (w : Web) : ∀ c ∈ prs w, c.1 ≠ c.2 ∧ c.1 < w.n ∧ c.2 < w.n := fun c hc => by
  obtain ⟨i, j⟩ := c
  obtain ⟨h1, h2, h3, h4⟩ := mem_prs.mp hc
  exact ⟨by simp only; omega, h1, h2⟩
theorem good_tri (w : Web) (p : Nat) : ∀ c ∈ tri w p, c.1 ≠ c.2 ∧ c.1 < w.n ∧ c.2 < w.n := fun c hc => by
  obtain ⟨i, j⟩ := c
  obtain ⟨h1, h2, h3⟩ := mem_tri.mp hc
  exact ⟨by simp only; omega, (mem_nb.mp h1).1, (mem_nb.mp h2).1⟩
theorem good_app {n : Nat} {a b : List (Nat × Nat)} (ha : ∀ c ∈ a, c.1 ≠ c.2 ∧ c.1 < n ∧ c.2 < n) (hb : ∀ c ∈ b, c.1 ≠ c.2 ∧ c.1 < n ∧ c.2 < n) : ∀ c ∈ a ++ b, c.1 ≠ c.2 ∧ c.1 < n ∧ c.2 < n := fun c hc => (List.mem_append.mp hc).elim (ha c) (hb c)
/-- the web behind a call -/
def callW (w : Web) (p : Nat) : Web := webOf w.n (prs w ++ tri w p) w.pos w.le (good_app (good_prs w) (good_tri w p))
theorem callW_n (w : Web) (p : Nat) : (callW w p).n = w.n := rfl
theorem callW_adj {w : Web} {p i j : Nat} (hi : i < w.n) (hj : j < w.n) : (callW w p).adj i j = true ↔ w.adj i j = true ∨ (i ≠ j ∧ w.adj p i = true ∧ w.adj p j = true) := by
  simp only [callW, webOf, Bool.or_eq_true, List.contains_iff_mem, List.mem_append, mem_prs, mem_tri, mem_nb]
  constructor
  · rintro ((⟨_, _, h, _⟩ | ⟨h1, h2, h3⟩) | (⟨_, _, h, _⟩ | ⟨h1, h2, h3⟩))
    · exact .inl h
    · exact .inr ⟨by omega, h1.2, h2.2⟩
    · exact .inl (by rw [w.sym]; exact h)
    · exact .inr ⟨by omega, h2.2, h1.2⟩
  · rintro (h | ⟨h1, h2, h3⟩)
    · rcases Nat.lt_trichotomy i j with q | q | q
      · exact .inl (.inl ⟨hi, hj, h, q⟩)
      · subst q; rw [w.irr] at h; cases h
      · exact .inr (.inl ⟨hj, hi, by rw [w.sym]; exact h, q⟩)
    · rcases Nat.lt_or_gt_of_ne h1 with q | q
      · exact .inl (.inr ⟨⟨hi, h2⟩, ⟨hj, h3⟩, q⟩)
      · exact .inr (.inr ⟨⟨hj, h3⟩, ⟨hi, h2⟩, q⟩)
/-- all couples of these are friends -/
def tableB (w : Web) (ps : List Nat) : Bool := (ps.flatMap fun i => (ps.filter fun j => decide (i < j)).map fun j => (i, j)).all fun c => (nb w c.1).contains c.2
theorem tableB_iff {w : Web} {ps : List Nat} : tableB w ps = true ↔ ∀ i ∈ ps, ∀ j ∈ ps, i < j → j ∈ nb w i := by
  simp only [tableB, List.all_eq_true, List.mem_flatMap, List.mem_map, List.mem_filter, decide_eq_true_eq, List.contains_iff_mem]
  constructor
  · intro h i hi j hj hij; exact h (i, j) ⟨i, hi, j, ⟨hj, hij⟩, rfl⟩
  · rintro h c ⟨i, hi, j, ⟨hj, hij⟩, rfl⟩; exact h i hi j hj hij
theorem call_same (w : Web) (p : Nat) : (rows (callW w p) == rows w) = tableB w (nb w p) := by
  rw [Bool.eq_iff_iff, beq_iff_eq, tableB_iff]
  have hr : rows (callW w p) = rows w ↔ ∀ i < w.n, nb (callW w p) i = nb w i := by
    simp only [rows, callW_n]
    constructor
    · intro h i hi
      have := congrArg (fun l => l[i]?) h
      simpa [hi] using this
    · intro h
      exact List.map_congr_left fun i hi => h i (List.mem_range.mp hi)
  rw [hr]
  constructor
  · intro h i hi j hj hij
    have hi' := (mem_nb.mp hi)
    have hj' := (mem_nb.mp hj)
    rw [← h i hi'.1, mem_nb]
    exact ⟨hj'.1, (callW_adj hi'.1 hj'.1).mpr (.inr ⟨by omega, hi'.2, hj'.2⟩)⟩
  · intro h i hi
    simp only [nb, callW_n]
    refine List.filter_congr fun j hj => ?_
    have hj := List.mem_range.mp hj
    rw [Bool.eq_iff_iff, callW_adj hi hj]
    constructor
    · rintro (h1 | ⟨h1, h2, h3⟩)
      · exact h1
      · rcases Nat.lt_or_gt_of_ne h1 with q | q
        · exact (mem_nb.mp (h i (mem_nb.mpr ⟨hi, h2⟩) j (mem_nb.mpr ⟨hj, h3⟩) q)).2
        · rw [w.sym]; exact (mem_nb.mp (h j (mem_nb.mpr ⟨hj, h3⟩) i (mem_nb.mpr ⟨hi, h2⟩) q)).2
    · exact .inl
section
variable {cf : Nat → List R → Option (R × List (Option R))} {wh : WhT}
def bd_is_table : List MS := [(.ret (.bi .all [(.lc2 (.cmp .isin (.var 3) (.ix (.var 0) (.var 2))) (.nm 2) (.seq (.var 1)) (.nm 3) (.seq (.var 1)) (some (.cmp .lt (.var 2) (.var 3))) [2, 3] [3])]))]
def bd_call_in (f_web_by f_pairs_in : Nat) : List MS := [(.asg (.nm 2) (.lc2 (.tup [(.var 3), (.var 4)]) (.nm 3) (.seq (.ix (.var 0) (.var 1))) (.nm 4) (.seq (.ix (.var 0) (.var 1))) (some (.cmp .lt (.var 3) (.var 4))) [3, 4] [4])), (.ret (.call f_web_by [(.bi .len [(.var 0)]), (.bin .add (.call f_pairs_in [(.var 0)]) (.var 2))]))]
def bd_law_call (f__law_couples f__law_by : Nat) : List MS := [(.asg (.nm 2) (.call f__law_couples [(.var 0)])), (.for (.nm 3) (.seq (.ix (.var 0) (.var 1))) [(.asg (.nm 2) (.bin .add (.var 2) (.lc (.tup [(.var 3), (.var 4)]) (.nm 4) (.seq (.ix (.var 0) (.var 1))) (some (.cmp .lt (.var 3) (.var 4))) [4])))]), (.ret (.call f__law_by [(.bi .len [(.var 0)]), (.var 2)]))]
abbrev HTable (cf : Nat → List R → Option (R × List (Option R))) (f : Nat) : Prop := ∀ (w : Web) (ps : List Nat), (∀ i ∈ ps, i < w.n) → ps.length ≤ 8 → Cl cf f [vR (toD w), vR (.tuple (ps.map nI))] (vR (.bool (tableB w ps)))
abbrev HCallIn (cf : Nat → List R → Option (R × List (Option R))) (f : Nat) : Prop := ∀ (w : Web) (p : Nat), p < w.n → Cl cf f [vR (toD w), vR (nI p)] (vR (toD (callW w p)))
theorem b_is_table (w : Web) (ps : List Nat) (hp : ∀ i ∈ ps, i < w.n) (hl : ps.length ≤ 8) : Xs ⟨cf, wh⟩ bd_is_table [V (toD w), V (.tuple (ps.map nI)), .no, .no] (.ret (vR (.bool (tableB w ps)))) [V (toD w), V (.tuple (ps.map nI)), .no, .no] := by
  have e : (ps.flatMap fun i => (ps.filter fun j => decide (i < j)).map fun j => PyData.bool ((nb w i).contains j)) = (ps.flatMap fun i => (ps.filter fun j => decide (i < j)).map fun j => (i, j)).map fun c => .bool ((nb w c.1).contains c.2) := by
    rw [List.map_flatMap]
    congr 1
    funext i
    rw [List.map_map]
    rfl
  have hb : (ps.flatMap fun i => (ps.filter fun j => decide (i < j)).map fun j => PyData.bool ((nb w i).contains j)).length ≤ ps.length * 8 := fm_len _ 8 (fun i => by
    have := List.length_filter_le (fun j => decide (i < j)) ps
    rw [List.length_map]; omega) ps
  have h := E.lc2 (O := ⟨cf, wh⟩) (env := [V (toD w), V (.tuple (ps.map nI)), .no, .no]) (i := 2) (j := 3) (elt := .cmp .isin (.var 3) (.ix (.var 0) (.var 2))) (cnd := .cmp .lt (.var 2) (.var 3)) (it := .seq (.var 1)) (it' := .seq (.var 1)) (xs := ps) (ys := fun _ => ps) (f := nI) (g := nI) (c := fun i j => decide (i < j)) (h := fun i j => .bool ((nb w i).contains j))
    (I.seq (.var rfl) rfl) rfl rfl (by omega) (fun x hx => I.seq (.var rfl) rfl) (fun x hx y hy => (E.cmp (.var rfl) (.var rfl) (lt_nat x y)).wv) fun x hx y hy hc => E.cmp (.var rfl) (E.ixw (.var rfl) (.var rfl) (hp x hx)).wv (in_nat _ _)
  rw [e] at h
  exact .ret (.ret (E.bi1 h.wl (all_map _ _)))
theorem b_call_in {f g : Nat} (hb : HBy6 cf f) (hpi : HPairsIn cf g) (w : Web) (p : Nat) (hp : p < w.n) : ∃ e, Xs ⟨cf, wh⟩ (bd_call_in f g) [V (toD w), V (nI p), .no, .no, .no] (.ret (vR (toD (callW w p)))) e := by
  have h28 := tri_28 w p
  have h29 := prs_28 w
  have e : ((nb w p).flatMap fun i => ((nb w p).filter fun j => decide (i < j)).map fun j => cp (i, j)) = (tri w p).map cp := by
    rw [tri, List.map_flatMap]
    congr 1
    funext i
    rw [tri1, List.map_map]
    rfl
  have h := E.lc2 (O := ⟨cf, wh⟩) (env := [V (toD w), V (nI p), .no, .no, .no]) (i := 3) (j := 4) (elt := .tup [(.var 3), (.var 4)]) (cnd := .cmp .lt (.var 3) (.var 4)) (it := .seq (.ix (.var 0) (.var 1))) (it' := .seq (.ix (.var 0) (.var 1))) (xs := nb w p) (ys := fun _ => nb w p) (f := nI) (g := nI) (c := fun i j => decide (i < j)) (h := fun i j => cp (i, j))
    (I.seq (E.ixw (.var rfl) (.var rfl) hp) rfl) rfl rfl (by rw [e, List.length_map]; omega) (fun x hx => I.seq (E.ixw (.var rfl) (.var rfl) hp) rfl) (fun x hx y hy => (E.cmp (.var rfl) (.var rfl) (lt_nat x y)).wv) fun x hx y hy hc => E.tup2 (.var rfl) (.var rfl)
  rw [e] at h
  refine ⟨_, .nx (.asg h rfl) (.ret (.ret (E.cl (.cons (E.lenw (.var rfl)) (.cons ?_ .nil)) (hb w.n (prs w ++ tri w p) w.pos w.le _ (by rw [List.length_append]; omega)))))⟩
  rw [List.map_append]
  exact E.catl (E.cl (.cons (.var rfl) .nil) (hpi w)).wl (.vals rfl) (by simp only [List.length_map]; omega)
abbrev HCouples (cf : Nat → List R → Option (R × List (Option R))) (f : Nat) : Prop := HPairsIn cf f
theorem b_law_call {f g : Nat} (hpi : HPairsIn cf f) (hb : HBy cf g) (w : Web) (p : Nat) (hp : p < w.n) : ∃ e, Xs ⟨cf, wh⟩ (bd_law_call f g) [V (toD w), V (nI p), .no, .no, .no] (.ret (vR (toD (callW w p)))) e := by
  have h28 := tri_28 w p
  have h29 := prs_28 w
  have hnl := nb_len w p
  obtain ⟨s, hs, q⟩ := X.gatherG (O := ⟨cf, wh⟩) (i := 3) (k := 2) (it := .seq (.ix (.var 0) (.var 1))) (b := [(.asg (.nm 2) (.bin .add (.var 2) (.lc (.tup [(.var 3), (.var 4)]) (.nm 4) (.seq (.ix (.var 0) (.var 1))) (some (.cmp .lt (.var 3) (.var 4))) [4])))])
    (env := [V (toD w), V (nI p), L ((prs w).map cp), .no, .no]) (xs := nb w p) (f := nI) (h := fun i => (tri1 w p i).map cp) (K := 8) (acc := (prs w).map cp) (I.seq (E.ixw (.var rfl) (.var rfl) hp) rfl) rfl rfl (fun i => by
      have := List.length_filter_le (fun j => decide (i < j)) (nb w p)
      rw [List.length_map, tri1, List.length_map]; omega) (by simp only [List.length_map]; omega) fun i hi ds hds => by
      have e : (tri1 w p i).map cp = ((nb w p).filter fun j => decide (i < j)).map fun j => cp (i, j) := by rw [tri1, List.map_map]; rfl
      have := List.length_filter_le (fun j => decide (i < j)) (nb w p)
      refine .last (.asg (E.catl (.vals rfl) ?_ (by rw [e, List.length_map]; omega)) rfl)
      rw [e]
      exact (E.lcFv (xs := nb w p) (f := nI) (g := fun j => cp (i, j)) (c := fun j => decide (i < j)) (I.seq (E.ixw (.var rfl) (.var rfl) hp) rfl) rfl (by omega) (fun j hj => (E.cmp (.var rfl) (.var rfl) (lt_nat i j)).wv) fun j hj hc => E.tup2 (.var rfl) (.var rfl)).wl
  have e : (prs w).map cp ++ (nb w p).flatMap (fun i => (tri1 w p i).map cp) = (prs w ++ tri w p).map cp := by rw [List.map_append, tri, List.map_flatMap]
  rw [e] at q
  obtain ⟨outs, hcall⟩ := hb w.n (prs w ++ tri w p) w.pos w.le (good_app (good_prs w) (good_tri w p)) (by rw [List.length_append]; omega)
  have hv : ev ⟨cf, wh⟩ (.var 2) [V (toD w), V (nI p), L ((prs w ++ tri w p).map cp), s, .no] = some (.vr 2, [V (toD w), V (nI p), L ((prs w ++ tri w p).map cp), s, .no]) := by rw [q_ev_var]; rfl
  have hn : ev ⟨cf, wh⟩ (.bi .len [.var 0]) [V (toD w), V (nI p), L ((prs w ++ tri w p).map cp), s, .no] = some (.tm (vR (nI w.n)), [V (toD w), V (nI p), L ((prs w ++ tri w p).map cp), s, .no]) := E.lenw (.var rfl)
  have key : ∃ e, ev ⟨cf, wh⟩ (.call g [(.bi .len [.var 0]), (.var 2)]) [V (toD w), V (nI p), L ((prs w ++ tri w p).map cp), s, .no] = some (.tm (vR (toD (callW w p))), e) := by
    rw [q_ev_call, q_evs_ees, hn, Option.bind_some]
    simp only [q_evs_ees, hv, Option.bind_some, q_evs_nil, owns, own, gt, st, hcall]
    cases outs with
    | nil => exact ⟨_, rfl⟩
    | cons o1 outs => cases outs <;> exact ⟨_, rfl⟩
  obtain ⟨e, key⟩ := key
  exact ⟨e, .nx (.asg (E.cl (.cons (.var rfl) .nil) (hpi w)) rfl) (.nx q (.ret (ret_to key)))⟩
end
end Ev.Z
set_option autoImplicit true
set_option linter.all false
set_option maxRecDepth 100000
/-! Movers, idle, the story of a row of calls, new pairs. -/
namespace Ev.Z
open PySem
def mvs (w : Web) : List Nat := (List.range w.n).filter fun p => !tableB w (nb w p)
def idl (w : Web) : List Nat := (List.range w.n).filter fun p => tableB w (nb w p)
theorem nb_below (w : Web) (p : Nat) : ∀ i ∈ nb w p, i < w.n := fun i hi => (mem_nb.mp hi).1
def stw (w : Web) (cs : List Nat) : Web := cs.foldl callW w
theorem stw_n (w : Web) : ∀ cs : List Nat, (stw w cs).n = w.n := fun cs => by
  induction cs generalizing w with
  | nil => rfl
  | cons c cs ih => exact (ih (callW w c)).trans (callW_n w c)
theorem stw_snoc (w : Web) (cs : List Nat) (c : Nat) : stw w (cs ++ [c]) = callW (stw w cs) c := by simp [stw]
def stories (w : Web) (cs : List Nat) : List Web := (List.range (cs.length + 1)).map fun k => stw w (cs.take k)
theorem stories_len (w : Web) (cs : List Nat) : (stories w cs).length = cs.length + 1 := by simp [stories]
theorem stories_last (w : Web) (cs : List Nat) : stories w cs = (List.range cs.length).map (fun k => stw w (cs.take k)) ++ [stw w cs] := by
  rw [stories, List.range_succ, List.map_append]
  simp
theorem stories_snoc (w : Web) (cs : List Nat) (c : Nat) : stories w (cs ++ [c]) = stories w cs ++ [callW (stw w cs) c] := by
  rw [stories_last w (cs ++ [c]), stw_snoc]
  congr 1
  simp only [List.length_append, List.length_singleton, stories]
  refine List.map_congr_left fun k hk => ?_
  have := List.mem_range.mp hk
  rw [List.take_append_of_le_length (by omega)]
theorem stories_at {w : Web} {cs : List Nat} {k : Nat} (h : k ≤ cs.length) : (stories w cs)[k]? = some (stw w (cs.take k)) := by
  simp [stories, show k < cs.length + 1 by omega]
theorem ix_last (ds : List PyData) (d : PyData) : ixop (.list (ds ++ [d])) (.int (-1)) = some d := by
  have : ixOf (ds ++ [d]).length (-1) = some ds.length := by
    simp only [ixOf, List.length_append, List.length_singleton]
    rw [if_neg (by omega), if_pos (by omega)]
    congr 1
  simp only [ixop, this, Option.bind_some]
  simp
theorem E.neg1 {O : Orc} {env : Env} : E O (.neg (.cst (.int 1))) env (vR (.int (-1))) := E.neg .cst
section
variable {O : Orc} {env : Env}
theorem X.par2 {i j : Nat} {a b : ME} {r q : R} (ha : E O a env r) (hb : E O b env q) (hi : notLk (gt env i) = true) (hj : notLk (gt (st env i (.sl r)) j) = true) : X O (.par [i, j] [a, b]) env .nx (st (st env i (.sl r)) j (.sl q)) := by
  unfold E at ha hb
  unfold X
  rw [q_ex_par, q_evs_ees, ha, Option.bind_some]
  simp only [q_evs_ees, hb, Option.bind_some, q_evs_nil, owns, own, bindRs, bindR_nm hi, bindR_nm hj]
theorem I.enuml {a : ME} {ds : List PyData} (h : E O a env (vals ds)) : I O (.enum a) env (enumOf 0 ds) := by
  unfold E at h
  unfold I
  rw [q_evI_enum, h, Option.bind_some]
  simp only [walk, fro_vals, rowOf, Option.map_some]
end
theorem enum_list {α : Type} (xs : List α) (f : α → PyData) : enumOf 0 (xs.map f) = xs.zipIdx.map fun x => .tuple [nI x.2, f x.1] := by
  refine List.ext_getElem? fun j => ?_
  rw [enum_get]
  simp only [List.getElem?_map, List.getElem?_zipIdx]
  cases xs[j]? <;> simp
section
variable {cf : Nat → List R → Option (R × List (Option R))} {wh : WhT}
def bd_movers_in (f_is_table : Nat) : List MS := [(.asg (.nm 1) (.lst [])), (.for (.nm 2) (.rng (.bi .len [(.var 0)])) [(.ite (.nt (.call f_is_table [(.var 0), (.ix (.var 0) (.var 2))])) [(.app 1 (.var 2))] [])]), (.ret (.var 1))]
def bd_idle_in (f_is_table : Nat) : List MS := [(.asg (.nm 1) (.lst [])), (.for (.nm 2) (.rng (.bi .len [(.var 0)])) [(.ite (.call f_is_table [(.var 0), (.ix (.var 0) (.var 2))]) [(.app 1 (.var 2))] [])]), (.ret (.var 1))]
def bd_tup1 (f_need_web f : Nat) : List MS := [(.exp (.call f_need_web [(.var 0)])), (.ret (.bi .tuple [(.call f [(.var 0)])]))]
def bd_law_movers (f__law_call : Nat) : List MS := [(.ret (.lc (.var 1) (.nm 1) (.rng (.bi .len [(.var 0)])) (some (.cmp .ne (.call f__law_call [(.var 0), (.var 1)]) (.var 0))) [1]))]
def bd_call (f_need_web f_need_person f_call_in : Nat) : List MS := [(.exp (.call f_need_web [(.var 0)])), (.exp (.call f_need_person [(.var 0), (.var 1)])), (.ret (.call f_call_in [(.var 0), (.var 1)]))]
def bd_need_calls (f_is_list f_is_in : Nat) : List MS := [(.ite (.nt (.call f_is_list [(.var 1), (.cst (.int 0)), (.cst (.int 60))])) [.never] []), (.for (.tp [(.nm 2), (.nm 3)]) (.enum (.var 1)) [(.ite (.nt (.call f_is_in [(.var 3), (.cst (.int 0)), (.bin .sub (.bi .len [(.var 0)]) (.cst (.int 1)))])) [.never] [])])]
def bd_story_in (f_call_in : Nat) : List MS := [(.asg (.nm 2) (.lst [(.var 0)])), (.for (.nm 3) (.seq (.var 1)) [(.app 2 (.call f_call_in [(.ix (.var 2) (.neg (.cst (.int 1)))), (.var 3)]))]), (.ret (.var 2))]
def bd_after (f_need_web f_need_calls f_story_in : Nat) : List MS := [(.exp (.call f_need_web [(.var 0)])), (.exp (.call f_need_calls [(.var 0), (.var 1)])), (.ret (.ix (.call f_story_in [(.var 0), (.var 1)]) (.neg (.cst (.int 1)))))]
def bd_story (f_need_web f_need_calls f_story_in : Nat) : List MS := [(.exp (.call f_need_web [(.var 0)])), (.exp (.call f_need_calls [(.var 0), (.var 1)])), (.ret (.call f_story_in [(.var 0), (.var 1)]))]
def bd_still_calls (f_need_web f_need_calls f_story_in : Nat) : List MS := [(.exp (.call f_need_web [(.var 0)])), (.exp (.call f_need_calls [(.var 0), (.var 1)])), (.par [3, 4] [(.call f_story_in [(.var 0), (.var 1)]), (.lst [])]), (.for (.nm 2) (.rng (.bi .len [(.var 1)])) [(.ite (.cmp .eq (.ix (.var 3) (.var 2)) (.ix (.var 3) (.bin .add (.var 2) (.cst (.int 1))))) [(.app 4 (.var 2))] [])]), (.ret (.bi .tuple [(.var 4)]))]
def bd_new_pairs (f_need_web f_need_person : Nat) : List MS := [(.exp (.call f_need_web [(.var 0)])), (.exp (.call f_need_person [(.var 0), (.var 1)])), (.asg (.nm 2) (.lst [])), (.for (.nm 3) (.seq (.ix (.var 0) (.var 1))) [(.for (.nm 4) (.seq (.ix (.var 0) (.var 1))) [(.ite (.an (.cmp .lt (.var 3) (.var 4)) (.cmp .notin (.var 4) (.ix (.var 0) (.var 3)))) [(.app 2 (.tup [(.var 3), (.var 4)]))] [])])]), (.ret (.bi .tuple [(.var 2)]))]
def bd_gains (f_need_web f_need_calls f_pairs_in f_story_in : Nat) : List MS := [(.exp (.call f_need_web [(.var 0)])), (.exp (.call f_need_calls [(.var 0), (.var 1)])), (.asg (.nm 2) (.lc (.bi .len [(.call f_pairs_in [(.var 5)])]) (.nm 5) (.seq (.call f_story_in [(.var 0), (.var 1)])) none [5])), (.asg (.nm 3) (.lst [])), (.for (.nm 4) (.rng (.bi .len [(.var 1)])) [(.app 3 (.bin .sub (.ix (.var 2) (.bin .add (.var 4) (.cst (.int 1)))) (.ix (.var 2) (.var 4))))]), (.ret (.bi .tuple [(.var 3)]))]
abbrev HRow (cf : Nat → List R → Option (R × List (Option R))) (f : Nat) : Prop := ∀ (w : Web) (cs : List Nat), (∀ c ∈ cs, c < w.n) → cs.length ≤ 60 → Cl cf f [vR (toD w), vR (.tuple (cs.map nI))] (vR .none)
abbrev HStory (cf : Nat → List R → Option (R × List (Option R))) (f : Nat) : Prop := ∀ (w : Web) (cs : List Nat), (∀ c ∈ cs, c < w.n) → cs.length ≤ 60 → Cl cf f [vR (toD w), vR (.tuple (cs.map nI))] (vals ((stories w cs).map toD))
theorem b_movers_in {f : Nat} (ht : HTable cf f) (w : Web) : ∃ e, Xs ⟨cf, wh⟩ (bd_movers_in f) [V (toD w), .no, .no] (.ret (vals ((mvs w).map nI))) e := by
  have hn := w.le
  obtain ⟨s, hs, g⟩ := X.gatherF (O := ⟨cf, wh⟩) (i := 2) (k := 1) (it := .rng (.bi .len [(.var 0)])) (cnd := .nt (.call f [(.var 0), (.ix (.var 0) (.var 2))])) (elt := .var 2) (env := [V (toD w), L [], .no]) (xs := List.range w.n) (f := nI) (g := nI) (c := fun p => !tableB w (nb w p)) (acc := [])
    (I.rng (E.lenw (.var rfl)).wv (by omega)) rfl rfl (by simp; omega) (fun x hx ds => (E.nt (E.cl (.cons (.var rfl) (.cons (E.ixw (.var rfl) (.var rfl) (List.mem_range.mp hx)) .nil)) (ht w (nb w x) (nb_below w x) (nb_len w x))).wv).wv) fun x hx hc ds => .var rfl
  exact ⟨_, .nx (.asg nil_L rfl) (.nx g (.ret (.retl rfl)))⟩
theorem b_idle_in {f : Nat} (ht : HTable cf f) (w : Web) : ∃ e, Xs ⟨cf, wh⟩ (bd_idle_in f) [V (toD w), .no, .no] (.ret (vals ((idl w).map nI))) e := by
  have hn := w.le
  obtain ⟨s, hs, g⟩ := X.gatherF (O := ⟨cf, wh⟩) (i := 2) (k := 1) (it := .rng (.bi .len [(.var 0)])) (cnd := .call f [(.var 0), (.ix (.var 0) (.var 2))]) (elt := .var 2) (env := [V (toD w), L [], .no]) (xs := List.range w.n) (f := nI) (g := nI) (c := fun p => tableB w (nb w p)) (acc := [])
    (I.rng (E.lenw (.var rfl)).wv (by omega)) rfl rfl (by simp; omega) (fun x hx ds => (E.cl (.cons (.var rfl) (.cons (E.ixw (.var rfl) (.var rfl) (List.mem_range.mp hx)) .nil)) (ht w (nb w x) (nb_below w x) (nb_len w x))).wv) fun x hx hc ds => .var rfl
  exact ⟨_, .nx (.asg nil_L rfl) (.nx g (.ret (.retl rfl)))⟩
theorem b_tup1 {f g : Nat} {w : Web} {ds : List PyData} (hw : HWeb cf f) (h : Cl cf g [vR (toD w)] (vals ds)) : Xs ⟨cf, wh⟩ (bd_tup1 f g) [V (toD w)] (.ret (vR (.tuple ds))) [V (toD w)] :=
  .nx (.exp (E.cl (.cons (.var rfl) .nil) (hw w))) (.ret (.ret (E.tupl (E.cl (.cons (.var rfl) .nil) h).wl)))
theorem b_law_movers {f : Nat} (hc : HCallIn cf f) (w : Web) : Xs ⟨cf, wh⟩ (bd_law_movers f) [V (toD w), .no] (.ret (vals ((mvs w).map nI))) [V (toD w), .no] := by
  have hn := w.le
  exact .ret (.ret (E.lcFv (xs := List.range w.n) (f := nI) (g := nI) (c := fun p => !tableB w (nb w p)) (I.rng (E.lenw (.var rfl)).wv (by omega)) rfl (by simp; omega) (fun p hp => (E.cmp (E.cl (.cons (.var rfl) (.cons (.var rfl) .nil)) (hc w p (List.mem_range.mp hp))).wv (.var rfl) (cmp_webne _ _)).wv.to (by rw [call_same])) fun p hp hc => .var rfl))
theorem b_call {f g h : Nat} (hw : HWeb cf f) (hp : HPerson cf g) (hc : HCallIn cf h) (w : Web) (p : Nat) (hpn : p < w.n) : Xs ⟨cf, wh⟩ (bd_call f g h) [V (toD w), V (nI p)] (.ret (vR (toD (callW w p)))) [V (toD w), V (nI p)] :=
  .nx (.exp (E.cl (.cons (.var rfl) .nil) (hw w))) (.nx (.exp (E.cl (.cons (.var rfl) (.cons (.var rfl) .nil)) (hp w p hpn))) (.ret (.ret (E.cl (.cons (.var rfl) (.cons (.var rfl) .nil)) (hc w p hpn)))))
theorem b_need_calls {f g : Nat} (hl : HList cf f) (hi : HIn cf g) (w : Web) (cs : List Nat) (hc : ∀ c ∈ cs, c < w.n) (hlen : cs.length ≤ 60) : ∃ e, Xs ⟨cf, wh⟩ (bd_need_calls f g) [V (toD w), V (.tuple (cs.map nI)), .no, .no] .nx e := by
  obtain ⟨e1, g1, g2⟩ := X.forP (O := ⟨cf, wh⟩) (tg := .tp [(.nm 2), (.nm 3)]) (it := .enum (.var 1)) (b := [(.ite (.nt (.call g [(.var 3), (.cst (.int 0)), (.bin .sub (.bi .len [(.var 0)]) (.cst (.int 1)))])) [.never] [])])
    (env := [V (toD w), V (.tuple (cs.map nI)), .no, .no]) (env1 := [V (toD w), V (.tuple (cs.map nI)), .no, .no]) (xs := cs.zipIdx) (f := fun x => .tuple [nI x.2, nI x.1])
    (fun _ e => ∃ a b, e = [V (toD w), V (.tuple (cs.map nI)), a, b] ∧ notLk a = true ∧ notLk b = true) ((I.enum (.var rfl) rfl).trans (by rw [enum_list])) ⟨_, _, rfl, rfl, rfl⟩ fun pre x e hx hpre hI => by
      obtain ⟨a, b, rfl, ha, hb⟩ := hI
      have hxc : x.1 < w.n := hc x.1 (List.fst_mem_of_mem_zipIdx hx)
      refine ⟨_, _, bind2 ha hb, .last (.skip ((E.nt (E.cl (.cons (.var rfl) (.cons .cst (.cons (E.bin (E.bi1 (.var rfl) (len_map _ _)).wv .cst rfl) .nil))) (hi x.1 0 _)).wv).wv.to ?_)), V (nI x.2), V (nI x.1), rfl, rfl, rfl⟩
      have h4 : (x.1 : Int) ≤ ((List.range w.n).length : Int) - 1 := by simp; omega
      have h5 : (0 : Int) ≤ (x.1 : Int) := by omega
      simp only [h4, h5, decide_true, Bool.and_self, Bool.not_true]
  refine ⟨e1, .nx (.skip ((E.nt (E.cl (.cons (.var rfl) (.cons .cst (.cons .cst .nil))) (hl _ 0 60)).wv).wv.to ?_)) (.last g1)⟩
  have h4 : ((cs.map nI).length : Int) ≤ 60 := by simp; omega
  have h5 : (0 : Int) ≤ ((cs.map nI).length : Int) := by omega
  simp only [h4, h5, decide_true, Bool.and_self, Bool.not_true]
theorem b_story_in {f : Nat} (hcall : HCallIn cf f) (w : Web) (cs : List Nat) (hc : ∀ c ∈ cs, c < w.n) (hlen : cs.length ≤ 60) : ∃ e, Xs ⟨cf, wh⟩ (bd_story_in f) [V (toD w), V (.tuple (cs.map nI)), .no, .no] (.ret (vals ((stories w cs).map toD))) e := by
  obtain ⟨e1, g1, a, rfl, ha⟩ := X.forP (O := ⟨cf, wh⟩) (tg := .nm 3) (it := .seq (.var 1)) (b := [(.app 2 (.call f [(.ix (.var 2) (.neg (.cst (.int 1)))), (.var 3)]))])
    (env := [V (toD w), V (.tuple (cs.map nI)), L [toD w], .no]) (env1 := [V (toD w), V (.tuple (cs.map nI)), L [toD w], .no]) (xs := cs) (f := nI)
    (fun pre e => ∃ a, e = [V (toD w), V (.tuple (cs.map nI)), L ((stories w pre).map toD), a] ∧ notLk a = true) (I.seq (.var rfl) rfl) ⟨_, rfl, rfl⟩ fun pre c e hcm hpre hI => by
      obtain ⟨a, rfl, ha⟩ := hI
      have hlast : (stories w pre).map toD = ((List.range pre.length).map (fun k => stw w (pre.take k))).map toD ++ [toD (stw w pre)] := by rw [stories_last, List.map_append]; rfl
      have hcall2 : E ⟨cf, wh⟩ (.call f [(.ix (.var 2) (.neg (.cst (.int 1)))), (.var 3)]) [V (toD w), V (.tuple (cs.map nI)), L ((stories w pre).map toD), V (nI c)] (vR (toD (callW (stw w pre) c))) :=
        E.cl (.cons (E.ix (.vals rfl) E.neg1.wv (by rw [hlast]; exact ix_last _ _)) (.cons (.var rfl) .nil)) (hcall (stw w pre) c (by rw [stw_n]; exact hc c hcm))
      refine ⟨_, _, bindT_nm ha, .last (X.appv rfl hcall2 (by rw [List.length_map, stories_len]; omega)), V (nI c), ?_, rfl⟩
      rw [stories_snoc, List.map_append]
      rfl
  exact ⟨_, .nx (.asg (E.lst (.cons (.var rfl) .nil)) rfl) (.nx g1 (.ret (.retl rfl)))⟩
theorem b_after {f g h : Nat} (hw : HWeb cf f) (hr : HRow cf g) (hs : HStory cf h) (w : Web) (cs : List Nat) (hc : ∀ c ∈ cs, c < w.n) (hlen : cs.length ≤ 60) : Xs ⟨cf, wh⟩ (bd_after f g h) [V (toD w), V (.tuple (cs.map nI))] (.ret (vR (toD (stw w cs)))) [V (toD w), V (.tuple (cs.map nI))] := by
  have hlast : (stories w cs).map toD = ((List.range cs.length).map (fun k => stw w (cs.take k))).map toD ++ [toD (stw w cs)] := by rw [stories_last, List.map_append]; rfl
  exact .nx (.exp (E.cl (.cons (.var rfl) .nil) (hw w))) (.nx (.exp (E.cl (.cons (.var rfl) (.cons (.var rfl) .nil)) (hr w cs hc hlen))) (.ret (.ret (E.ix (E.cl (.cons (.var rfl) (.cons (.var rfl) .nil)) (hs w cs hc hlen)).wl E.neg1.wv (by rw [hlast]; exact ix_last _ _)))))
theorem b_story {f g h : Nat} (hw : HWeb cf f) (hr : HRow cf g) (hs : HStory cf h) (w : Web) (cs : List Nat) (hc : ∀ c ∈ cs, c < w.n) (hlen : cs.length ≤ 60) : Xs ⟨cf, wh⟩ (bd_story f g h) [V (toD w), V (.tuple (cs.map nI))] (.ret (vals ((stories w cs).map toD))) [V (toD w), V (.tuple (cs.map nI))] :=
  .nx (.exp (E.cl (.cons (.var rfl) .nil) (hw w))) (.nx (.exp (E.cl (.cons (.var rfl) (.cons (.var rfl) .nil)) (hr w cs hc hlen))) (.ret (.ret (E.cl (.cons (.var rfl) (.cons (.var rfl) .nil)) (hs w cs hc hlen)))))
def still (w : Web) (cs : List Nat) : List Nat := (List.range cs.length).filter fun k => rows (stw w (cs.take k)) == rows (stw w (cs.take (k + 1)))
theorem ix_story {w : Web} {cs : List Nat} {k : Nat} (h : k ≤ cs.length) : ixop (.list ((stories w cs).map toD)) (nI k) = some (toD (stw w (cs.take k))) := by
  rw [ix_lst (by rw [List.length_map, stories_len]; omega)]
  have := stories_at (w := w) h
  rw [List.getElem?_eq_some_iff] at this
  obtain ⟨h1, h2⟩ := this
  rw [List.getElem_map, h2]
theorem b_still_calls {f g h : Nat} (hw : HWeb cf f) (hr : HRow cf g) (hs : HStory cf h) (w : Web) (cs : List Nat) (hc : ∀ c ∈ cs, c < w.n) (hlen : cs.length ≤ 60) : ∃ e, Xs ⟨cf, wh⟩ (bd_still_calls f g h) [V (toD w), V (.tuple (cs.map nI)), .no, .no, .no] (.ret (vR (.tuple ((still w cs).map nI)))) e := by
  obtain ⟨s, hs', q⟩ := X.gatherF (O := ⟨cf, wh⟩) (i := 2) (k := 4) (it := .rng (.bi .len [(.var 1)])) (cnd := .cmp .eq (.ix (.var 3) (.var 2)) (.ix (.var 3) (.bin .add (.var 2) (.cst (.int 1))))) (elt := .var 2) (env := [V (toD w), V (.tuple (cs.map nI)), .no, L ((stories w cs).map toD), L []]) (xs := List.range cs.length) (f := nI) (g := nI) (c := fun k => rows (stw w (cs.take k)) == rows (stw w (cs.take (k + 1)))) (acc := [])
    (I.rng (E.bi1 (.var rfl) (len_map _ _)).wv (by omega)) rfl rfl (by simp; omega) (fun k hk ds => (E.cmp (E.ix (.vals rfl) (.var rfl) (ix_story (by have := List.mem_range.mp hk; omega))).wv (E.ix (.vals rfl) (E.bin (.var rfl) .cst (add_nat k 1)).wv (ix_story (by have := List.mem_range.mp hk; omega))).wv (cmp_web _ _)).wv) fun x hx hc ds => .var rfl
  exact ⟨_, .nx (.exp (E.cl (.cons (.var rfl) .nil) (hw w))) (.nx (.exp (E.cl (.cons (.var rfl) (.cons (.var rfl) .nil)) (hr w cs hc hlen))) (.nx (.par2 (E.cl (.cons (.var rfl) (.cons (.var rfl) .nil)) (hs w cs hc hlen)) nil_L rfl rfl) (.nx q (.ret (.ret (E.tupl (.vals rfl)))))))⟩
def npr1 (w : Web) (p i : Nat) : List (Nat × Nat) := ((nb w p).filter fun j => decide (i < j) && !(nb w i).contains j).map fun j => (i, j)
def npr (w : Web) (p : Nat) : List (Nat × Nat) := (nb w p).flatMap (npr1 w p)
theorem npr1_len (w : Web) (p i : Nat) : (npr1 w p i).length ≤ 8 := by
  have := List.length_filter_le (fun j => decide (i < j) && !(nb w i).contains j) (nb w p)
  have := nb_len w p
  rw [npr1, List.length_map]; omega
theorem b_new_pairs {f g : Nat} (hw : HWeb cf f) (hp : HPerson cf g) (w : Web) (p : Nat) (hpn : p < w.n) : ∃ e, Xs ⟨cf, wh⟩ (bd_new_pairs f g) [V (toD w), V (nI p), .no, .no, .no] (.ret (vR (.tuple ((npr w p).map cp)))) e := by
  have hnl := nb_len w p
  obtain ⟨s, s', hs, hs', q⟩ := X.gatherJ (O := ⟨cf, wh⟩) (i := 3) (k := 2) (j := 4) (it := .seq (.ix (.var 0) (.var 1))) (b := [(.for (.nm 4) (.seq (.ix (.var 0) (.var 1))) [(.ite (.an (.cmp .lt (.var 3) (.var 4)) (.cmp .notin (.var 4) (.ix (.var 0) (.var 3)))) [(.app 2 (.tup [(.var 3), (.var 4)]))] [])])])
    (env := [V (toD w), V (nI p), L [], .no, .no]) (xs := nb w p) (f := nI) (h := fun i => (npr1 w p i).map cp) (K := 8) (acc := []) (I.seq (E.ixw (.var rfl) (.var rfl) hpn) rfl) rfl rfl rfl (fun x => by rw [List.length_map]; exact npr1_len w p x) (by simp; omega) fun i hi ds s hds hs => by
      obtain ⟨s', h1, h2⟩ := X.gatherF (O := ⟨cf, wh⟩) (i := 4) (k := 2) (it := .seq (.ix (.var 0) (.var 1))) (cnd := .an (.cmp .lt (.var 3) (.var 4)) (.cmp .notin (.var 4) (.ix (.var 0) (.var 3)))) (elt := .tup [(.var 3), (.var 4)]) (env := [V (toD w), V (nI p), L ds, V (nI i), s]) (xs := nb w p) (f := nI) (g := fun j => cp (i, j)) (c := fun j => decide (i < j) && !(nb w i).contains j) (acc := ds)
        (I.seq (E.ixw (.var rfl) (.var rfl) hpn) rfl) rfl hs (by omega) (fun j hj ds => (E.an (E.cmp (.var rfl) (.var rfl) (lt_nat i j)).wv fun _ => E.cmp (.var rfl) (E.ixw (.var rfl) (.var rfl) (nb_below w p i hi)).wv (cmp_notin (in_nat _ _))).wv) fun j hj hc ds => E.tup2 (.var rfl) (.var rfl)
      refine ⟨s', h1, .last ?_⟩
      have e : (npr1 w p i).map cp = ((nb w p).filter fun j => decide (i < j) && !(nb w i).contains j).map fun j => cp (i, j) := by rw [npr1, List.map_map]; rfl
      rw [e]
      exact h2
  have e : (nb w p).flatMap (fun i => (npr1 w p i).map cp) = (npr w p).map cp := by rw [npr, List.map_flatMap]
  rw [List.nil_append, e] at q
  exact ⟨_, .nx (.exp (E.cl (.cons (.var rfl) .nil) (hw w))) (.nx (.exp (E.cl (.cons (.var rfl) (.cons (.var rfl) .nil)) (hp w p hpn))) (.nx (.asg nil_L rfl) (.nx q (.ret (.ret (E.tupl (.vals rfl)))))))⟩
def gns (w : Web) (cs : List Nat) : List PyData := (List.range cs.length).map fun k => .int (((prs (stw w (cs.take (k + 1)))).length : Int) - ((prs (stw w (cs.take k))).length : Int))
theorem ix_size {w : Web} {cs : List Nat} {k : Nat} (h : k ≤ cs.length) : ixop (.list ((stories w cs).map fun s => nI (prs s).length)) (nI k) = some (nI (prs (stw w (cs.take k))).length) := by
  rw [ix_lst (by rw [List.length_map, stories_len]; omega)]
  have := stories_at (w := w) h
  rw [List.getElem?_eq_some_iff] at this
  obtain ⟨h1, h2⟩ := this
  rw [List.getElem_map, h2]
theorem b_gains {f g h k : Nat} (hw : HWeb cf f) (hr : HRow cf g) (hpi : HPairsIn cf h) (hs : HStory cf k) (w : Web) (cs : List Nat) (hc : ∀ c ∈ cs, c < w.n) (hlen : cs.length ≤ 60) : ∃ e, Xs ⟨cf, wh⟩ (bd_gains f g h k) [V (toD w), V (.tuple (cs.map nI)), .no, .no, .no, .no] (.ret (vR (.tuple (gns w cs)))) e := by
  have s2 := E.lcv (O := ⟨cf, wh⟩) (env := [V (toD w), V (.tuple (cs.map nI)), .no, .no, .no, .no]) (i := 5) (elt := .bi .len [(.call h [(.var 5)])]) (it := .seq (.call k [(.var 0), (.var 1)])) (xs := stories w cs) (f := toD) (g := fun s => nI (prs s).length) (I.seql (E.cl (.cons (.var rfl) (.cons (.var rfl) .nil)) (hs w cs hc hlen))) rfl (by rw [stories_len]; omega)
    fun s hs => (E.lenl (E.cl (.cons (.var rfl) .nil) (hpi s)).wl).to (by rw [List.length_map])
  obtain ⟨s, hs', q⟩ := X.gather (O := ⟨cf, wh⟩) (i := 4) (k := 3) (it := .rng (.bi .len [(.var 1)])) (elt := .bin .sub (.ix (.var 2) (.bin .add (.var 4) (.cst (.int 1)))) (.ix (.var 2) (.var 4))) (env := [V (toD w), V (.tuple (cs.map nI)), L ((stories w cs).map fun s => nI (prs s).length), L [], .no, .no]) (xs := List.range cs.length) (f := nI) (g := fun k => .int (((prs (stw w (cs.take (k + 1)))).length : Int) - ((prs (stw w (cs.take k))).length : Int))) (acc := [])
    (I.rng (E.bi1 (.var rfl) (len_map _ _)).wv (by omega)) rfl rfl (by simp; omega) fun k hk ds => E.bin (E.ix (.vals rfl) (E.bin (.var rfl) .cst (add_nat k 1)).wv (ix_size (by have := List.mem_range.mp hk; omega))).wv (E.ix (.vals rfl) (.var rfl) (ix_size (by have := List.mem_range.mp hk; omega))).wv rfl
  exact ⟨_, .nx (.exp (E.cl (.cons (.var rfl) .nil) (hw w))) (.nx (.exp (E.cl (.cons (.var rfl) (.cons (.var rfl) .nil)) (hr w cs hc hlen))) (.nx (.asg s2 rfl) (.nx (.asg nil_L rfl) (.nx q (.ret (.ret (E.tupl (.vals rfl))))))))⟩
end
/-! ### new pairs are what the call adds -/
theorem fm_filter_if {α β : Type} (f : α → List β) (c : α → Bool) : ∀ l : List α, (l.filter c).flatMap f = l.flatMap fun x => if c x then f x else []
  | [] => rfl
  | x :: xs => by
    rw [List.filter_cons]
    split
    · rename_i h; simp [h, fm_filter_if f c xs]
    · rename_i h; simp [h, fm_filter_if f c xs]
theorem fm_congr {α β : Type} {f g : α → List β} : ∀ {l : List α}, (∀ x ∈ l, f x = g x) → l.flatMap f = l.flatMap g
  | [], _ => rfl
  | x :: xs, h => by rw [List.flatMap_cons, List.flatMap_cons, h x List.mem_cons_self, fm_congr fun y hy => h y (List.mem_cons_of_mem _ hy)]
theorem npr_eq {w : Web} {p : Nat} (hp : p < w.n) : (prs (callW w p)).filter (fun c => !(prs w).contains c) = npr w p := by
  have e1 : npr w p = (List.range w.n).flatMap fun i => if w.adj p i then npr1 w p i else [] := by rw [npr, nb, fm_filter_if]
  have e0 : prs (callW w p) = (List.range w.n).flatMap (prs1 (callW w p)) := rfl
  rw [e1, e0, List.filter_flatMap]
  refine fm_congr fun i hi => ?_
  have hi := List.mem_range.mp hi
  have e2 : (prs1 (callW w p) i).filter (fun c => !(prs w).contains c) = ((List.range w.n).filter fun j => (callW w p).adj i j && (decide (i < j) && !(nb w i).contains j)).map fun j => (i, j) := by
    rw [prs1, List.filter_map, List.filter_filter, nb, callW_n, List.filter_filter]
    congr 1
    refine List.filter_congr fun j hj => ?_
    have hj := List.mem_range.mp hj
    simp only [Function.comp]
    by_cases hij : i < j
    · rw [prs_has hi hij]
      cases (callW w p).adj i j <;> cases (nb w i).contains j <;> simp [hij]
    · simp [hij]
  rw [e2]
  split
  · rename_i h
    have e3 : nb w p = (List.range w.n).filter (w.adj p) := rfl
    rw [npr1, e3, List.filter_filter]
    congr 1
    refine List.filter_congr fun j hj => ?_
    have hj := List.mem_range.mp hj
    rw [Bool.eq_iff_iff]
    simp only [Bool.and_eq_true, decide_eq_true_eq, Bool.not_eq_true', callW_adj hi hj, ← Bool.not_eq_true, List.contains_iff_mem, mem_nb]
    constructor
    · rintro ⟨h1, h2, h3⟩
      refine ⟨⟨h2, h3⟩, ?_⟩
      rcases h1 with h1 | h1
      · exact absurd ⟨hj, h1⟩ h3
      · exact h1.2.2
    · rintro ⟨⟨h2, h3⟩, h4⟩
      exact ⟨.inr ⟨by omega, h, h4⟩, h2, h3⟩
  · rename_i h
    rw [List.map_eq_nil_iff, List.filter_eq_nil_iff]
    intro j hj
    have hj := List.mem_range.mp hj
    simp only [Bool.and_eq_true, decide_eq_true_eq, Bool.not_eq_true', callW_adj hi hj, ← Bool.not_eq_true, List.contains_iff_mem, mem_nb]
    rintro ⟨h1, h2, h3⟩
    rcases h1 with h1 | h1
    · exact h3 ⟨hj, h1⟩
    · exact h h1.2.1
end Ev.Z
set_option autoImplicit true
set_option linter.all false
set_option maxRecDepth 100000
/-! The most new pairs; since when two are friends; drawn rows; lists that are alike. -/
namespace Ev.Z
open PySem
/-! ### the least couple -/
def P2 (a : Nat → Int) (i : Nat) : PyData := .tuple [.int (a i), nI i]
theorem lt_P2 (a b : Int) (i j : Int) : PySem.W.dataLt (.tuple [.int a, .int i]) (.tuple [.int b, .int j]) = decide (a < b ∨ (a = b ∧ i < j)) := by
  rw [PySem.W.dataLt_tuple]
  by_cases h : a = b
  · subst h
    rw [PySem.W.dataLt_all_yes (by simp [PySem.W.alike]) (by simp [PyData.eqv])]
    by_cases h2 : i = j
    · subst h2
      rw [PySem.W.dataLt_all_yes (by simp [PySem.W.alike]) (by simp [PyData.eqv])]
      rw [Bool.eq_iff_iff, decide_eq_true_eq]
      constructor
      · intro h; exact absurd h (by decide)
      · intro h; omega
    · rw [PySem.W.dataLt_all_no (by simp [PySem.W.alike]) (by simpa [PyData.eqv] using h2), PySem.W.dataLt_int, Bool.eq_iff_iff, decide_eq_true_eq, decide_eq_true_eq]
      omega
  · rw [PySem.W.dataLt_all_no (by simp [PySem.W.alike]) (by simpa [PyData.eqv] using h), PySem.W.dataLt_int, Bool.eq_iff_iff, decide_eq_true_eq, decide_eq_true_eq]
    omega
theorem best_P2 (a : Nat → Int) : ∀ k : Nat, ∃ m ≤ k, ((List.range' 1 k).map (P2 a)).foldl (fun x y => if PySem.W.dataLt y x then y else x) (P2 a 0) = P2 a m ∧ (∀ i ≤ k, a m ≤ a i) ∧ ∀ i < m, a m < a i
  | 0 => by
    refine ⟨0, Nat.le_refl _, rfl, fun i hi => ?_, fun i hi => by omega⟩
    obtain rfl : i = 0 := by omega
    omega
  | k + 1 => by
    obtain ⟨m, hm, h1, h2, h3⟩ := best_P2 a k
    rw [List.range'_concat, List.map_append, List.foldl_append, h1]
    simp only [List.map_cons, List.map_nil, List.foldl_cons, List.foldl_nil, Nat.one_mul]
    have e : PySem.W.dataLt (P2 a (1 + k)) (P2 a m) = decide (a (1 + k) < a m) := by
      rw [P2, P2, nI, nI, lt_P2, Bool.eq_iff_iff, decide_eq_true_eq, decide_eq_true_eq]
      omega
    rw [e]
    by_cases h : a (1 + k) < a m
    · refine ⟨1 + k, by omega, by simp [h], fun i hi => ?_, fun i hi => ?_⟩
      · rcases Nat.lt_or_ge k i with q | q
        · obtain rfl : i = 1 + k := by omega
          omega
        · have := h2 i q; omega
      · have := h2 i (by omega); omega
    · refine ⟨m, by omega, by simp [h], fun i hi => ?_, h3⟩
      rcases Nat.lt_or_ge k i with q | q
      · obtain rfl : i = 1 + k := by omega
        omega
      · exact h2 i q
theorem range_split {n : Nat} (h : 1 ≤ n) : List.range n = 0 :: List.range' 1 (n - 1) := by
  obtain ⟨k, rfl⟩ : ∃ k, n = k + 1 := ⟨n - 1, by omega⟩
  rw [List.range_eq_range', List.range'_succ]
  rfl
/-- the first of the least -/
structure Best (a : Nat → Int) (n m : Nat) : Prop where
  lt : m < n
  le : ∀ i < n, a m ≤ a i
  fst : ∀ i < m, a m < a i
theorem min_P2 (a : Nat → Int) {n : Nat} (h : 1 ≤ n) : ∃ m, Best a n m ∧ biop .min [.list ((List.range n).map (P2 a))] = some (.val (P2 a m)) := by
  obtain ⟨m, hm, h1, h2, h3⟩ := best_P2 a (n - 1)
  refine ⟨m, ⟨by omega, fun i hi => h2 i (by omega), h3⟩, ?_⟩
  have hi : intsOf ((List.range n).map (P2 a)) = none := by rw [range_split h]; rfl
  simp only [biop, hi]
  have hall : allAlike ((List.range n).map (P2 a)) = true := by simp [allAlike, P2, PySem.W.alike, PySem.W.alikeAll]
  have hnn : ((List.range n).map (P2 a)).all (fun x => !isN x) = true := by simp [P2, isN]
  have hsh : ((List.range n).map (P2 a)).all SeqAt.shaped = true := by
    rw [List.all_eq_true]
    intro d hd
    obtain ⟨i, _, rfl⟩ := List.mem_map.mp hd
    exact (sh_tup (k := 0) fun d hd => by
      simp only [List.mem_cons, List.not_mem_nil, or_false] at hd
      rcases hd with rfl | rfl <;> exact sh_int _).ok
  rw [range_split h, List.map_cons] at hall hnn hsh ⊢
  simp only [bestD, hall, hnn, hsh, Bool.and_self, if_true, h1, Option.map_some]
theorem max_best {a : Nat → Int} {n m : Nat} (b : Best a n m) : biop .max [.list ((List.range n).map fun i => .int (-(a i)))] = some (.val (.int (-(a m)))) := by
  have e : (List.range n).map (fun i => PyData.int (-(a i))) = ((List.range n).map fun i => -(a i)).map .int := by rw [List.map_map]; rfl
  have hm : ((List.range n).map fun i => -(a i)).max? = some (-(a m)) := by
    rw [List.max?_eq_some_iff]
    refine ⟨List.mem_map.mpr ⟨m, List.mem_range.mpr b.lt, rfl⟩, fun x hx => ?_⟩
    obtain ⟨i, hi, rfl⟩ := List.mem_map.mp hx
    have := b.le i (List.mem_range.mp hi)
    omega
  simp only [biop, e, ints_map, hm, Option.map_some, int]
theorem index_best {a : Nat → Int} {n m : Nat} (b : Best a n m) : mtop .index [.list ((List.range n).map fun i => .int (-(a i))), .int (-(a m))] = some (.val (nI m)) := by
  have h1 : SeqAt.shaped (.list ((List.range n).map fun i => PyData.int (-(a i)))) = true := (sh_lst (k := 0) fun d hd => by obtain ⟨i, _, rfl⟩ := List.mem_map.mp hd; exact sh_int _).ok
  have h2 : firstIx ((List.range n).map fun i => PyData.int (-(a i))) (.int (-(a m))) = some m := by
    rw [firstIx, List.findIdx?_eq_some_iff_getElem]
    refine ⟨by simpa using b.lt, by simp [eqI], fun j hj => ?_⟩
    have := b.fst j hj
    simp only [List.getElem_map, List.getElem_range, eqI, beq_iff_eq]
    omega
  simp only [mtop, h1, shI, Bool.and_self, if_true, h2, Option.map_some, int]
def bd_most_new (f_need_web f_pairs_in f_call_in : Nat) : List MS := [(.exp (.call f_need_web [(.var 0)])), (.asg (.nm 1) (.bi .len [(.call f_pairs_in [(.var 0)])])), (.asg (.tp [(.nm 2), (.nm 3)]) (.bi .min [(.lc (.tup [(.bin .sub (.var 1) (.bi .len [(.call f_pairs_in [(.call f_call_in [(.var 0), (.var 3)])])])), (.var 3)]) (.nm 3) (.rng (.bi .len [(.var 0)])) none [3])])), (.ret (.tup [(.neg (.var 2)), (.var 3)]))]
def bd_friends_at (f_need_web f_need_calls f_need_person f_story_in : Nat) : List MS := [(.exp (.call f_need_web [(.var 0)])), (.exp (.call f_need_calls [(.var 0), (.var 1)])), (.exp (.call f_need_person [(.var 0), (.var 2)])), (.exp (.call f_need_person [(.var 0), (.var 3)])), (.for (.tp [(.nm 4), (.nm 5)]) (.enum (.call f_story_in [(.var 0), (.var 1)])) [(.ite (.cmp .isin (.var 3) (.ix (.var 5) (.var 2))) [(.ret (.bin .sub (.var 4) (.cst (.int 1))))] [])]), (.ret (.cst .none))]
def bd_law_row (f__law_taken : Nat) : List MS := [(.ret (.bi .tuple [(.lc (.call f__law_taken [(.var 0), (.bi .len [(.var 1)])]) (.nm 3) (.rng (.call f__law_taken [(.var 0), (.bin .add (.var 2) (.cst (.int 1)))])) none [3])]))]
/-- how many fewer than now -/
def less (w : Web) (i : Nat) : Int := ((prs w).length : Int) - ((prs (callW w i)).length : Int)
section
variable {cf : Nat → List R → Option (R × List (Option R))} {wh : WhT}
theorem b_most_new {f g h : Nat} (hw : HWeb cf f) (hpi : HPairsIn cf g) (hc : HCallIn cf h) (w : Web) : ∃ m e, Best (less w) w.n m ∧ Xs ⟨cf, wh⟩ (bd_most_new f g h) [V (toD w), .no, .no, .no] (.ret (vR (.tuple [.int (-(less w m)), nI m]))) e := by
  have hn := w.le
  obtain ⟨m, b, hmin⟩ := min_P2 (less w) w.pos
  have s := E.lcv (O := ⟨cf, wh⟩) (env := [V (toD w), V (nI (prs w).length), .no, .no]) (i := 3) (elt := .tup [(.bin .sub (.var 1) (.bi .len [(.call g [(.call h [(.var 0), (.var 3)])])])), (.var 3)]) (it := .rng (.bi .len [(.var 0)])) (xs := List.range w.n) (f := nI) (g := P2 (less w)) (I.rng (E.lenw (.var rfl)).wv (by omega)) rfl (by simp; omega)
    fun i hi => E.tup2 (E.bin (.var rfl) ((E.lenl (E.cl (.cons (E.cl (.cons (.var rfl) (.cons (.var rfl) .nil)) (hc w i (List.mem_range.mp hi))) .nil) (hpi (callW w i))).wl).wv.to (by rw [List.length_map])) rfl) (.var rfl)
  exact ⟨m, _, b, .nx (.exp (E.cl (.cons (.var rfl) .nil) (hw w))) (.nx (.asg ((E.lenl (E.cl (.cons (.var rfl) .nil) (hpi w)).wl).to (by rw [List.length_map])) rfl) (.nx (.asg2 (E.bi1 s.wl hmin) rfl rfl) (.ret (.ret (E.tup (.cons (E.neg (.var rfl)) (.cons (.var rfl) .nil)))))))⟩
/-- the first state in which they are friends -/
def fstAt (w : Web) (cs : List Nat) (i j : Nat) : Option Nat := (List.range (cs.length + 1)).find? fun k => (nb (stw w (cs.take k)) i).contains j
def fstD (o : Option Nat) : PyData := match o with | some k => .int ((k : Int) - 1) | none => .none
/-- a walk that ends with an answer at the first thing that passes -/
theorem X.find {O : Orc} {env : Env} {α : Type} {tg : MT} {it : MI} {b : List MS} {xs : List α} {f : α → PyData} {r : α → R} (c : α → Bool) (Iv : Env → Prop) (hi : evI O it env = some (xs.map f, none, env)) (h0 : Iv env)
    (hs : ∀ x e, x ∈ xs → Iv e → ∃ e1, bindT tg (f x) e = some e1 ∧ (if c x then Xs O b e1 (.ret (r x)) e1 else Xs O b e1 .nx e1) ∧ Iv e1) :
    ∃ e', Iv e' ∧ match xs.find? c with | some x => X O (.for tg it b) env (.ret (r x)) e' | none => X O (.for tg it b) env .nx e' := by
  have key : ∀ (ys : List α) (e : Env), (∀ y ∈ ys, y ∈ xs) → Iv e → ∃ e', Iv e' ∧ forL (fun d e => (bindT tg d e).bind fun e1 => exs O b e1) (ys.map f) e = match ys.find? c with | some x => some (.ret (r x), e') | none => some (.nx, e') := by
    intro ys
    induction ys with
    | nil => intro e _ h; exact ⟨e, h, rfl⟩
    | cons y ys ih =>
      intro e hm h
      obtain ⟨e1, h1, h2, h3⟩ := hs y e (hm y List.mem_cons_self) h
      cases hc : c y
      · rw [hc] at h2
        simp only [Bool.false_eq_true, if_false] at h2
        unfold Xs at h2
        obtain ⟨e', q1, q2⟩ := ih e1 (fun z hz => hm z (List.mem_cons_of_mem _ hz)) h3
        refine ⟨e', q1, ?_⟩
        simp only [List.map_cons, forL, h1, Option.bind_some, h2, List.find?_cons, hc]
        exact q2
      · rw [hc] at h2
        simp only [if_true] at h2
        unfold Xs at h2
        refine ⟨e1, h3, ?_⟩
        simp only [List.map_cons, forL, h1, Option.bind_some, h2, List.find?_cons, hc]
  obtain ⟨e', q1, q2⟩ := key xs env (fun _ h => h) h0
  refine ⟨e', q1, ?_⟩
  have e0 : ∀ z, forL (fun d e => (bindT tg d e).bind fun e1 => exs O b e1) (xs.map f) env = some z → ex O (.for tg it b) env = some z := fun z hz => by
    rw [q_ex_forr, hi, Option.bind_some]
    dsimp only
    rw [hz, Option.bind_some]
    rfl
  cases hf : xs.find? c with
  | none => rw [hf] at q2; exact e0 _ q2
  | some x => rw [hf] at q2; exact e0 _ q2
theorem b_friends_at {f g h k : Nat} (hw : HWeb cf f) (hr : HRow cf g) (hp : HPerson cf h) (hs : HStory cf k) (w : Web) (cs : List Nat) (hc : ∀ c ∈ cs, c < w.n) (hlen : cs.length ≤ 60) (i j : Nat) (hi : i < w.n) (hj : j < w.n) :
    ∃ e, Xs ⟨cf, wh⟩ (bd_friends_at f g h k) [V (toD w), V (.tuple (cs.map nI)), V (nI i), V (nI j), .no, .no] (.ret (vR (fstD (fstAt w cs i j)))) e := by
  have e1 : enumOf 0 ((stories w cs).map toD) = (List.range (cs.length + 1)).map fun k => .tuple [nI k, toD (stw w (cs.take k))] := by
    rw [stories, List.map_map]
    exact enum_map _ _
  obtain ⟨e', ⟨a, b, rfl, ha, hb⟩, q⟩ := X.find (O := ⟨cf, wh⟩) (tg := .tp [(.nm 4), (.nm 5)]) (it := .enum (.call k [(.var 0), (.var 1)])) (b := [(.ite (.cmp .isin (.var 3) (.ix (.var 5) (.var 2))) [(.ret (.bin .sub (.var 4) (.cst (.int 1))))] [])])
    (env := [V (toD w), V (.tuple (cs.map nI)), V (nI i), V (nI j), .no, .no]) (xs := List.range (cs.length + 1)) (f := fun k => .tuple [nI k, toD (stw w (cs.take k))]) (r := fun k => vR (.int ((k : Int) - 1))) (fun k => (nb (stw w (cs.take k)) i).contains j)
    (fun e => ∃ a b, e = [V (toD w), V (.tuple (cs.map nI)), V (nI i), V (nI j), a, b] ∧ notLk a = true ∧ notLk b = true) ((I.enuml (E.cl (.cons (.var rfl) (.cons (.var rfl) .nil)) (hs w cs hc hlen))).trans (by rw [e1])) ⟨_, _, rfl, rfl, rfl⟩ fun x e hx hI => by
      obtain ⟨a, b, rfl, ha, hb⟩ := hI
      have hcmp : W ⟨cf, wh⟩ (.cmp .isin (.var 3) (.ix (.var 5) (.var 2))) [V (toD w), V (.tuple (cs.map nI)), V (nI i), V (nI j), V (nI x), V (toD (stw w (cs.take x)))] (.bool ((nb (stw w (cs.take x)) i).contains j)) :=
        (E.cmp (.var rfl) (E.ixw (.var rfl) (.var rfl) (by rw [stw_n]; exact hi)).wv (in_nat _ _)).wv
      refine ⟨_, bind2 ha hb, ?_, V (nI x), V (toD (stw w (cs.take x))), rfl, rfl, rfl⟩
      split
      · rename_i hcx
        exact .ret (.iteT (hcmp.to (by rw [hcx])) (.ret (.ret (E.bin (.var rfl) .cst rfl))))
      · rename_i hcx
        exact .last (.skip (hcmp.to (by simp only [Bool.not_eq_true] at hcx; rw [hcx])))
  have pre : ∀ {fl e}, Xs ⟨cf, wh⟩ [(.for (.tp [(.nm 4), (.nm 5)]) (.enum (.call k [(.var 0), (.var 1)])) [(.ite (.cmp .isin (.var 3) (.ix (.var 5) (.var 2))) [(.ret (.bin .sub (.var 4) (.cst (.int 1))))] [])]), (.ret (.cst .none))] [V (toD w), V (.tuple (cs.map nI)), V (nI i), V (nI j), .no, .no] fl e → Xs ⟨cf, wh⟩ (bd_friends_at f g h k) [V (toD w), V (.tuple (cs.map nI)), V (nI i), V (nI j), .no, .no] fl e := fun q =>
    .nx (.exp (E.cl (.cons (.var rfl) .nil) (hw w))) (.nx (.exp (E.cl (.cons (.var rfl) (.cons (.var rfl) .nil)) (hr w cs hc hlen))) (.nx (.exp (E.cl (.cons (.var rfl) (.cons (.var rfl) .nil)) (hp w i hi))) (.nx (.exp (E.cl (.cons (.var rfl) (.cons (.var rfl) .nil)) (hp w j hj))) q)))
  unfold fstAt
  cases hf : (List.range (cs.length + 1)).find? fun k => (nb (stw w (cs.take k)) i).contains j with
  | some x => rw [hf] at q; exact ⟨_, pre (.ret q)⟩
  | none => rw [hf] at q; exact ⟨_, pre (.nx q (.ret (.ret .cst)))⟩
/-- a drawn row of at most m calls -/
abbrev HRowD (cf : Nat → List R → Option (R × List (Option R))) (f : Nat) : Prop := ∀ (s : List Int) (r : R) (w : Web) (m : Nat), isRow s r → m ≤ 60 → ∃ (cs : List Nat) (r' : R), cf f [r, vR (toD w), vR (nI m)] = some (vR (.tuple (cs.map nI)), [some r', none, none]) ∧ isRow s r' ∧ (∀ c ∈ cs, c < w.n) ∧ cs.length ≤ m
theorem b_law_row {f : Nat} (ht : HTaken cf f) (s : List Int) (r : R) (w : Web) (m : Nat) (hr : isRow s r) (hm : m ≤ 60) :
    ∃ (cs : List Nat) (r' : R), Xs ⟨cf, wh⟩ (bd_law_row f) [.sl r, V (toD w), V (nI m), .no] (.ret (vR (.tuple (cs.map nI)))) [.sl r', V (toD w), V (nI m), .no] ∧ isRow s r' ∧ (∀ c ∈ cs, c < w.n) ∧ cs.length ≤ m := by
  have hn := w.le
  have hp := w.pos
  obtain ⟨v, r1, h1, h2, h3⟩ := draw (wh := wh) (f := f) (i := 0) (e := .bin .add (.var 2) (.cst (.int 1))) (m := ((m + 1 : Nat) : Int)) (s := s) (r := r) (env := [.sl r, V (toD w), V (nI m), .no]) ht rfl hr (E.bin (.var rfl) .cst (add_nat m 1)) (by omega) (by omega)
  have hI : evI ⟨cf, wh⟩ (.rng (.call f [(.var 0), (.bin .add (.var 2) (.cst (.int 1)))])) [.sl r, V (toD w), V (nI m), .no] = some ((List.range v).map nI, none, [.sl r1, V (toD w), V (nI m), .no]) := by
    have hv : near (v : Int) = true := near_of_le (by omega) (by omega)
    rw [q_evI_rng, h1, Option.bind_some]
    simp only [view, fro, Option.bind_some, hv, if_true, rngOf_nat, st]
  obtain ⟨rs, e', g1, r2, cs, hr2, rfl, hcs, hlen, hrs⟩ := mapE_rel (F := fun d e => (bindT (.nm 3) d e).bind fun e1 => (evC ⟨cf, wh⟩ none e1).bind fun c => if c.1 then (ev ⟨cf, wh⟩ (.call f [(.var 0), (.bi .len [(.var 1)])]) c.2).bind fun y => (own y.1 y.2).bind fun r => some (some r.1, Ev.wipe r.2 [3]) else some (none, Ev.wipe c.2 [3])) (f := nI)
    (fun rs pre e => ∃ (r2 : R) (cs : List Nat), isRow s r2 ∧ e = [.sl r2, V (toD w), V (nI m), .no] ∧ (∀ c ∈ cs, c < w.n) ∧ cs.length = pre.length ∧ rs = cs.map fun c => vR (nI c)) (xs := List.range v) (acc := []) (pre := []) (e := [.sl r1, V (toD w), V (nI m), .no])
    (fun pre rs j e hj hI => by
      obtain ⟨r2, cs, hr2, rfl, hcs, hlen, rfl⟩ := hI
      obtain ⟨c, r3, k1, k2, k3⟩ := draw (wh := wh) (f := f) (i := 0) (e := .bi .len [(.var 1)]) (m := (w.n : Int)) (s := s) (r := r2) (env := [.sl r2, V (toD w), V (nI m), V (nI j)]) ht rfl hr2 (E.lenw (.var rfl)) (by omega) (by omega)
      refine ⟨some (vR (nI c)), [.sl r3, V (toD w), V (nI m), .no], ?_, r3, cs ++ [c], k3, rfl, fun x hx => ?_, by simp [hlen], by simp⟩
      · have hb : bindT (.nm 3) (nI j) [.sl r2, V (toD w), V (nI m), .no] = some [.sl r2, V (toD w), V (nI m), V (nI j)] := bindT_nm rfl
        rw [hb, Option.bind_some, q_evC_none, Option.bind_some]
        simp only [if_true, k1, Option.bind_some, own, Ev.wipe, st]
      · rcases List.mem_append.mp hx with h | h
        · exact hcs x h
        · rw [List.mem_singleton.mp h]; omega)
    ⟨r1, [], h3, rfl, by simp, rfl, rfl⟩
  simp only [List.nil_append, List.length_range] at hlen hrs
  have key : ev ⟨cf, wh⟩ (.lc (.call f [(.var 0), (.bi .len [(.var 1)])]) (.nm 3) (.rng (.call f [(.var 0), (.bin .add (.var 2) (.cst (.int 1)))])) none [3]) [.sl r, V (toD w), V (nI m), .no] = some (.tm (vals (cs.map nI)), [.sl r2, V (toD w), V (nI m), .no]) := by
    rw [q_ev_lc, hI, Option.bind_some]
    dsimp only
    have hpl : [3].all (fun i => plainSl (gt [.sl r1, V (toD w), V (nI m), .no] i)) = true := rfl
    rw [if_pos hpl]
    have hw : Ev.wipe [.sl r1, V (toD w), V (nI m), .no] [3] = [.sl r1, V (toD w), V (nI m), .no] := rfl
    rw [hw, g1]
    have e1 : vals (cs.map nI) = .lst rs := by rw [hrs, vals, List.map_map]; rfl
    rw [e1]
    simp only [Option.bind_some]
    rw [if_pos (by rw [hrs, List.length_map]; simp only [big]; omega)]
    rfl
  exact ⟨cs, r2, .ret (ret_to (bi1_to key (by rw [fro_vals]; rfl))), hr2, hcs, by omega⟩
end
theorem c_law_row {T : List Dfn} {wh : WhT} {n f ft : Nat} (hT : T[f]? = some ⟨3, 4, bd_law_row ft⟩) (ht : HTaken (callN T wh n) ft) : HRowD (callN T wh (n + 1)) f := fun s r w m hr hm => by
  obtain ⟨cs, r', g1, g2, g3, g4⟩ := b_law_row (wh := wh) ht s r w m hr hm
  obtain ⟨c, h, t, hc, rfl⟩ := hr
  exact ⟨cs, r', call_run (args := [rowR (s.map .int) c h t, vR (toD w), vR (nI m)]) hT ⟨rfl, rfl⟩ g1 rfl, g2, g3, g4⟩
/-! ### lists are alike -/
abbrev HAlikeL (cf : Nat → List R → Option (R × List (Option R))) (f k : Nat) : Prop := ∀ ds : List PyData, (∀ d ∈ ds, Pl k d) → ds.length ≤ 1000 → cf f [vals ds, vals ds] = some (vR (.bool true), [some (vals ds), some (vals ds)])
theorem alike_lists {cf : Nat → List R → Option (R × List (Option R))} {wh : WhT} {f : Nat} (ds : List PyData) (hl : ds.length ≤ 1000) (ih : ∀ d ∈ ds, Cl cf f [vR d, vR d] (vR (.bool true))) :
    Xs ⟨cf, wh⟩ (bd_law_alike f) [L ds, L ds, .no] (.ret (vR (.bool true))) [L ds, L ds, .no] := by
  have sb : ∀ b, sh 0 (.bool b) := fun b => sh_bool b
  have inner : Xs ⟨cf, wh⟩ [(.ite (.or (.nt (.isi (.var 0) [.tuple, .list])) (.cmp .ne (.isi (.var 0) [.list]) (.isi (.var 1) [.list]))) [(.ret (.cst (.bool false)))] []), (.ite (.cmp .ne (.bi .len [(.var 0)]) (.bi .len [(.var 1)])) [(.ret (.cst (.bool false)))] []), (.ret (.cmp .eq (.lc (.var 2) (.nm 2) (.rng (.bi .len [(.var 1)])) (some (.nt (.call f [(.ix (.var 0) (.var 2)), (.ix (.var 1) (.var 2))]))) [2]) (.lst [])))] [L ds, L ds, .no] (.ret (vR (.bool true))) [L ds, L ds, .no] := by
    refine .nx (.skip ((E.or (E.nt (E.isi (.vals rfl)).wv).wv fun _ => E.cmp (E.isi (.vals rfl)).wv (E.isi (.vals rfl)).wv (cmp_ne (sb _) (sb _))).wv.to ?_)) (.nx (.skip ((E.cmp (E.lenl (.vals rfl)).wv (E.lenl (.vals rfl)).wv (ne_nat _ _)).wv.to (by simp))) (.ret (.ret ?_)))
    · rw [eqB]; simp [isTy]
    · refine (E.cmp (E.lcFv (xs := List.range ds.length) (f := nI) (g := nI) (c := fun _ => false) (I.rng (E.lenl (.vals rfl)).wv (by omega)) rfl (by simpa using hl) (fun j hj => ?_) fun j hj hc => by simp at hc).wl nil_L.wl (r := true) ?_).to rfl
      · have hj' := List.mem_range.mp hj
        exact (E.nt (E.cl (.cons (E.ix (.vals rfl) (.var rfl) (ix_lst hj')) (.cons (E.ix (.vals rfl) (.var rfl) (ix_lst hj')) .nil)) (ih _ (List.getElem_mem hj'))).wv).wv
      · have : (List.range ds.length).filter (fun _ => false) = [] := by simp
        rw [this]
        exact eq_nil
  exact .ret (.iteT ((E.isi (.vals rfl)).wv.to (by simp [isTy])) inner)
theorem c_alikeL {T : List Dfn} {wh : WhT} {f n k : Nat} (hT : T[f]? = some ⟨2, 3, bd_law_alike f⟩) (h : HAlike (callN T wh n) f k) : HAlikeL (callN T wh (n + 1)) f k := fun ds hd hl =>
  call_run (args := [vals ds, vals ds]) hT ⟨rfl, rfl⟩ (alike_lists (wh := wh) ds hl fun d hdm => h d (hd d hdm)) rfl
end Ev.Z
set_option autoImplicit true
set_option linter.all false
set_option maxRecDepth 100000
/-! Steps of laws: rows drawn, lists handed on, walks that freeze. -/
namespace Ev.Z
open PySem
section
variable {cf : Nat → List R → Option (R × List (Option R))} {wh : WhT} {env : Env}
theorem drawRow {f i : Nat} {a e : ME} {m : Nat} {s : List Int} {r : R} {w : Web} (ht : HRowD cf f) (hg : gt env i = .sl r) (hr : isRow s r) (ha : E ⟨cf, wh⟩ a env (vR (toD w))) (he : E ⟨cf, wh⟩ e env (vR (nI m))) (hm : m ≤ 60) :
    ∃ (cs : List Nat) (r' : R), ev ⟨cf, wh⟩ (.call f [.var i, a, e]) env = some (.tm (vR (.tuple (cs.map nI))), st env i (.sl r')) ∧ isRow s r' ∧ (∀ c ∈ cs, c < w.n) ∧ cs.length ≤ m := by
  obtain ⟨cs, r', h1, h2, h3, h4⟩ := ht s r w m hr hm
  refine ⟨cs, r', ?_, h2, h3, h4⟩
  unfold E at ha he
  obtain ⟨c, h, t, _, rfl⟩ := hr
  have h5 : ev ⟨cf, wh⟩ (.var i) env = some (.vr i, env) := by rw [q_ev_var, hg]; rfl
  rw [q_ev_call, q_evs_ees, h5, Option.bind_some]
  simp only [q_evs_ees, ha, he, Option.bind_some, q_evs_nil, owns, own, hg, h1, back, st_st]
theorem asg_to {O : Orc} {i : Nat} {e : ME} {r : R} {env1 : Env} (h : ev O e env = some (.tm r, env1)) (hl : notLk (gt env1 i) = true) : X O (.asg (.nm i) e) env .nx (st env1 i (.sl r)) := by
  unfold X
  rw [q_ex_asg, h, Option.bind_some]
  simp only [own, Option.bind_some, bindR_nm hl]
/-- a list of one's own is alike a list that is handed over -/
theorem E.alkL {f k j : Nat} {a : ME} {ds : List PyData} (hal : HAlikeL cf f k) (hp : ∀ d ∈ ds, Pl k d) (hl : ds.length ≤ 1000) (ha : E ⟨cf, wh⟩ a env (vals ds)) (hj : gt env j = L ds) : E ⟨cf, wh⟩ (.call f [a, .var j]) env (vR (.bool true)) := by
  unfold E at ha ⊢
  have h5 : ev ⟨cf, wh⟩ (.var j) env = some (.vr j, env) := by rw [q_ev_var, hj]; rfl
  rw [q_ev_call, q_evs_ees, ha, Option.bind_some]
  simp only [q_evs_ees, h5, Option.bind_some, q_evs_nil, owns, own, hj, L, hal ds hp hl, back, st_st]
  have e : st env j (.sl (vals ds)) = env := by
    have := st_gt env j
    rw [hj] at this
    exact this
  rw [e]
/-- a comprehension over a name's own list -/
theorem lc_own {O : Orc} {α : Type} {elt : ME} {i j : Nat} {xs : List α} {f g : α → PyData} (hj : gt env j = L (xs.map f)) (hp : plainSl (gt (st env j (V (.list (xs.map f)))) i) = true) (hb : xs.length ≤ 1000)
    (hf : ∀ x ∈ xs, E O elt (st (st env j (V (.list (xs.map f)))) i (V (f x))) (vR (g x))) : ev O (.lc elt (.nm i) (.seq (.var j)) none [i]) env = some (.tm (vals (xs.map g)), st env j (V (.list (xs.map f)))) := by
  have hjl := lt_of_gt hj (by simp [L])
  have h1 : gt (st env j (V (.list (xs.map f)))) j = V (.list (xs.map f)) := gt_st_eq _ _ _ hjl
  rw [lc_frz (env1 := st env j (V (.list (xs.map f)))) (ds := xs.map f) (I.seqv hj) (I.seq (.var h1) rfl)]
  exact E.lcv (I.seq (.var h1) rfl) hp hb hf
end
theorem ne_nil {xs : List Nat} : cmpop .ne (.list (xs.map nI)) (.list []) = some (!xs.isEmpty) := by
  rw [cmp_ne (sh_lst (sh_ints (k := 0) xs)) (sh_lst (k := 0) (by simp))]
  cases xs <;> simp [PyData.eqv, PyData.eqvAll]
theorem pl_webs {k : Nat} {ws : List Web} : ∀ d ∈ ws.map toD, Pl (k + 2) d := fun d hd => by obtain ⟨w, _, rfl⟩ := List.mem_map.mp hd; exact pl_web w
theorem mvs_idl (w : Web) : (List.range w.n).filter (fun p => !(mvs w).contains p) = idl w := by
  refine List.filter_congr fun p hp => ?_
  have : (mvs w).contains p = !tableB w (nb w p) := by
    rw [Bool.eq_iff_iff, List.contains_iff_mem, mvs, List.mem_filter]
    exact ⟨fun h => h.2, fun h => ⟨hp, h⟩⟩
  rw [this, Bool.not_not]
theorem fst_filter {n : Nat} {c : Nat → Bool} : (List.range n).find? c = ((List.range n).filter c).head? := by rw [List.head?_filter]
theorem len_filter_range (n : Nat) (c : Nat → Bool) : ((List.range n).filter c).length ≤ n := by
  have := List.length_filter_le c (List.range n)
  simpa using this
end Ev.Z
set_option autoImplicit true
set_option linter.all false
set_option maxRecDepth 100000
/-! More steps: targets of many names, extend, x[k] += 1, three names at once, while. -/
namespace Ev.Z
open PySem
section
variable {O : Orc} {env : Env}
theorem E.lcT {α : Type} {elt cnd : ME} {tg : MT} {ow : List Nat} {it : MI} {xs : List α} {f g : α → PyData} {c : α → Bool} (e1 : α → Env) (hi : I O it env (xs.map f)) (hp : ow.all (fun i => plainSl (gt env i)) = true) (hb : xs.length ≤ 1000)
    (hbd : ∀ x ∈ xs, bindT tg (f x) (Ev.wipe env ow) = some (e1 x)) (hw : ∀ x ∈ xs, Ev.wipe (e1 x) ow = Ev.wipe env ow) (hc : ∀ x ∈ xs, W O cnd (e1 x) (.bool (c x))) (hf : ∀ x ∈ xs, c x = true → E O elt (e1 x) (vR (g x))) :
    E O (.lc elt tg it (some cnd) ow) env (vals ((xs.filter c).map g)) := by
  unfold E
  rw [q_ev_lc, hi, Option.bind_some]
  dsimp only
  rw [if_pos hp, mapE_map (g := fun x => if c x then some (vR (g x)) else none) (fun x hx => by
    have h1 := hf x hx
    obtain ⟨o, hc1, hc2⟩ := hc x hx
    unfold E at h1
    rw [hbd x hx, Option.bind_some, q_evC_somee, hc1, Option.bind_some]
    simp only [hc2, Option.bind_some, asB]
    cases hcx : c x
    · simp only [Bool.false_eq_true, if_false, hw x hx]
    · simp only [if_true, h1 hcx, Option.bind_some, own, hw x hx])]
  rw [fm_filter]
  have e : vals ((xs.filter c).map g) = .lst ((xs.filter c).map fun x => vR (g x)) := by rw [vals, List.map_map]; rfl
  rw [e]
  simp only [Option.bind_some, List.length_map]
  have := List.length_filter_le c xs
  rw [if_pos (by simp only [big]; omega), again_wipe]
  rfl
theorem E.lcN {α : Type} {elt : ME} {tg : MT} {ow : List Nat} {it : MI} {xs : List α} {f g : α → PyData} (e1 : α → Env) (hi : I O it env (xs.map f)) (hp : ow.all (fun i => plainSl (gt env i)) = true) (hb : xs.length ≤ 1000)
    (hbd : ∀ x ∈ xs, bindT tg (f x) (Ev.wipe env ow) = some (e1 x)) (hw : ∀ x ∈ xs, Ev.wipe (e1 x) ow = Ev.wipe env ow) (hf : ∀ x ∈ xs, E O elt (e1 x) (vR (g x))) :
    E O (.lc elt tg it none ow) env (vals (xs.map g)) := by
  unfold E
  rw [q_ev_lc, hi, Option.bind_some]
  dsimp only
  rw [if_pos hp, mapE_map (g := fun x => some (vR (g x))) (fun x hx => by
    have h1 := hf x hx
    unfold E at h1
    rw [hbd x hx, Option.bind_some, q_evC_none, Option.bind_some]
    simp only [if_true, h1, Option.bind_some, own, hw x hx])]
  have e : vals (xs.map g) = .lst (xs.map fun x => vR (g x)) := by rw [vals, List.map_map]; rfl
  rw [e]
  simp only [Option.bind_some, List.filterMap_eq_map', List.length_map]
  rw [if_pos (by simp only [big]; omega), again_wipe]
  rfl
theorem X.extv {i : Nat} {e : ME} {ds es : List PyData} (hg : gt env i = L ds) (h : E O e env (vals es)) (hb : ds.length + es.length ≤ 10000) : X O (.ext i e) env .nx (st env i (L (ds ++ es))) := by
  unfold E at h
  unfold X
  rw [q_ex_ext, hg]
  have hl : isLst (Sl.sl (R.lst (ds.map .val))) = true := rfl
  simp only [h, Option.bind_some, vals, chg, hg, L, extTo]
  have hb' : (ds.map R.val).length + (es.map R.val).length ≤ big := by simp only [List.length_map, big]; omega
  rw [if_pos hb', if_pos hl]
  simp only [Option.bind_some, List.map_append]
theorem X.par3 {i j l : Nat} {a b c : ME} {r q s : R} (ha : E O a env r) (hb : E O b env q) (hc : E O c env s) (hi : notLk (gt env i) = true) (hj : notLk (gt (st env i (.sl r)) j) = true) (hl : notLk (gt (st (st env i (.sl r)) j (.sl q)) l) = true) : X O (.par [i, j, l] [a, b, c]) env .nx (st (st (st env i (.sl r)) j (.sl q)) l (.sl s)) := by
  unfold E at ha hb hc
  unfold X
  rw [q_ex_par, q_evs_ees, ha, Option.bind_some]
  simp only [q_evs_ees, hb, hc, Option.bind_some, q_evs_nil, owns, own, bindRs, bindR_nm hi, bindR_nm hj, bindR_nm hl]
/-- numbers by people -/
abbrev cnts' (n : Nat) (a : Nat → Nat) : List PyData := (List.range n).map fun p => nI (a p)
theorem set_cnt {n k b : Nat} {a : Nat → Nat} (hk : k < n) : ((cnts' n a).map R.val).set k (.val (nI b)) = (cnts' n fun p => if p = k then b else a p).map R.val := by
  rw [cnts', List.map_map, set_map _ _ _ _ hk, cnts', List.map_map]
  refine List.map_congr_left fun p _ => ?_
  simp only [Function.comp]
  split <;> rfl
theorem put_cnt {n k b : Nat} {a : Nat → Nat} (hk : k < n) : Ev.putAt (vals (cnts' n a)) (nI k) (vR (nI b)) = some (vals (cnts' n fun p => if p = k then b else a p)) := by
  have h1 : ixOf ((cnts' n a).map R.val).length (k : Int) = some k := ix_ok (by simpa using hk)
  have h2 : Ev.putAt (vals (cnts' n a)) (nI k) (vR (nI b)) = (ixOf ((cnts' n a).map R.val).length (k : Int)).bind fun j => some (.lst (((cnts' n a).map R.val).set j (vR (nI b)))) := by rw [vals, Ev.putAt]
  rw [h2, h1, Option.bind_some, set_cnt hk]
  rfl
theorem X.sixc {i n k b : Nat} {a : Nat → Nat} {ke v : ME} (hg : gt env i = L (cnts' n a)) (hv : E O v env (vR (nI b))) (hk : W O ke env (nI k)) (hkn : k < n) : X O (.six i ke v) env .nx (st env i (L (cnts' n fun p => if p = k then b else a p))) := by
  unfold E at hv
  obtain ⟨o, h1, h2⟩ := hk
  unfold X
  rw [q_ex_six, hv, Option.bind_some]
  have ho : isOwn (L (cnts' n a)) = true := rfl
  simp only [own, Option.bind_some, hg, ho, if_true, h1, h2, chg, put_cnt hkn]
theorem X.aixc {i n k b : Nat} {a : Nat → Nat} {ke v : ME} (hg : gt env i = L (cnts' n a)) (hv : smp v env = some (nI b)) (hk : smp ke env = some (nI k)) (hkn : k < n) : X O (.aix i ke .add v) env .nx (st env i (L (cnts' n fun p => if p = k then a k + b else a p))) := by
  unfold X
  rw [q_ex_aix, hk, Option.bind_some, hv, Option.bind_some]
  have h1 : ixOf ((cnts' n a).map R.val).length (k : Int) = some k := ix_ok (by simpa using hkn)
  have h2 : ((cnts' n a).map R.val)[k]? = some (.val (nI (a k))) := by simp [hkn]
  have h3 : augop .add (nI (a k)) (nI b) = some (.val (nI (a k + b))) := by simp [augop, int]
  have e : ((cnts' n a).map R.val).set k (.val (nI (a k + b))) = (cnts' n fun p => if p = k then a k + b else a p).map R.val := set_cnt hkn
  simp only [chg, hg, L, vals, onAt, nI, h1, h2, Option.bind_some]
  simp only [nI] at h3
  simp only [h3, Option.bind_some]
  simp only [nI] at e
  rw [e]
theorem E.zeros {e : ME} {n : Nat} (h : W O e env (nI n)) (hn : n ≤ 1000) : E O (.bin .mul (.lst [(.cst (.int 0))]) e) env (vals (cnts' n fun _ => 0)) := by
  refine E.bin (show W O (.lst [(.cst (.int 0))]) env (.list [.int 0]) from (E.lst (.cons .cst .nil)).w) h ?_
  simp only [binop, nI]
  rw [if_pos ⟨by omega, by omega, by simp⟩]
  congr 2
  have : ((n : Int).toNat) = n := by omega
  rw [this, cnts']
  clear h hn this
  induction n with
  | zero => rfl
  | succ n ih => rw [List.replicate_succ', List.flatten_append, ih, List.range_succ, List.map_append]; rfl
theorem turns_up {c : Env → Option (Bool × Env)} {b : Env → Option (Fl × Env)} : ∀ {n m : Nat} {e : Env} {y : Fl × Env}, n ≤ m → turns c b n e = some y → turns c b m e = some y
  | 0, _, _, _, _, h => by simp only [turns, reduceCtorEq] at h
  | n + 1, 0, _, _, hm, _ => absurd hm (by omega)
  | n + 1, m + 1, e, y, hm, h => by
    simp only [turns, Option.bind_eq_some_iff] at h ⊢
    obtain ⟨x, hx, h⟩ := h
    refine ⟨x, hx, ?_⟩
    split at h
    · rename_i hb
      rw [if_pos hb]
      simp only [Option.bind_eq_some_iff] at h ⊢
      obtain ⟨z, hz, h⟩ := h
      refine ⟨z, hz, ?_⟩
      split at h <;> first | exact turns_up (Nat.le_of_succ_le_succ hm) h | exact h
    · rename_i hb
      rw [if_neg hb]
      exact h
theorem loop_to {c : Env → Option (Bool × Env)} {b : Env → Option (Fl × Env)} {n : Nat} {e : Env} {y : Fl × Env} (h : turns c b n e = some y) : loop c b e = some y := by
  have hh : ∃ n, (turns c b n e).isSome = true := ⟨n, by rw [h]; rfl⟩
  unfold loop
  rw [dif_pos hh]
  have h2 := hh.choose_spec
  rcases Nat.le_total n hh.choose with hle | hle
  · exact turns_up hle h
  · cases q : turns c b hh.choose e with
    | none => rw [q] at h2; cases h2
    | some z => rw [← turns_up hle q, h]
/-- while True, by turns -/
theorem X.wh {c : ME} {b : List MS} {cf : Nat → List R → Option (R × List (Option R))} {n : Nat} {fl : Fl} {e : Env} (h : turns (fun e => (ev ⟨cf, Ev.loop⟩ c e).bind fun x => (view x.1 x.2).bind fun p => (asB p.1).bind fun k => some (k, p.2)) (fun e => exs ⟨cf, Ev.loop⟩ b e) n env = some (fl, e)) : X ⟨cf, Ev.loop⟩ (.wh c b) env fl e := by
  unfold X
  rw [q_ex_wh]
  exact loop_to h
end
end Ev.Z
set_option autoImplicit true
set_option linter.all false
set_option maxRecDepth 100000
/-! What each call of a row makes. -/
namespace Ev.Z
open PySem
/-! ### calls only add; who was called stays idle -/
theorem fm_le2 {α β : Type} {f g : α → List β} : ∀ {l : List α}, (∀ x ∈ l, (f x).length ≤ (g x).length) → (l.flatMap f).length ≤ (l.flatMap g).length
  | [], _ => Nat.le_refl _
  | x :: xs, h => by
    have h1 := h x List.mem_cons_self
    have h2 := fm_le2 (l := xs) fun y hy => h y (List.mem_cons_of_mem _ hy)
    simp only [List.flatMap_cons, List.length_append]
    omega
theorem filter_le2 {α : Type} {p q : α → Bool} : ∀ {l : List α}, (∀ x ∈ l, p x = true → q x = true) → (l.filter p).length ≤ (l.filter q).length
  | [], _ => Nat.le_refl _
  | x :: xs, h => by
    have h1 := h x List.mem_cons_self
    have h2 := filter_le2 (l := xs) fun y hy => h y (List.mem_cons_of_mem _ hy)
    simp only [List.filter_cons]
    cases hp : p x
    · cases q x <;> simp only [Bool.false_eq_true, if_false, if_true, List.length_cons] <;> omega
    · rw [h1 hp]; simp only [if_true, List.length_cons]; omega
theorem filter_lt2 {α : Type} {p q : α → Bool} {m : α} : ∀ {l : List α}, (∀ x ∈ l, p x = true → q x = true) → m ∈ l → p m = false → q m = true → (l.filter p).length < (l.filter q).length
  | [], _, hm, _, _ => absurd hm List.not_mem_nil
  | x :: xs, h, hm, hp, hq => by
    have h2 : ∀ y ∈ xs, p y = true → q y = true := fun y hy => h y (List.mem_cons_of_mem _ hy)
    simp only [List.filter_cons]
    rcases List.mem_cons.mp hm with rfl | hm
    · have := filter_le2 h2
      rw [hp, hq]; simp only [Bool.false_eq_true, if_false, if_true, List.length_cons]; omega
    · have h3 := filter_lt2 h2 hm hp hq
      have h1 := h x List.mem_cons_self
      cases hpx : p x
      · cases q x <;> simp only [Bool.false_eq_true, if_false, if_true, List.length_cons] <;> omega
      · rw [h1 hpx]; simp only [if_true, List.length_cons]; omega
theorem prs_grow (w : Web) (p : Nat) : (prs w).length ≤ (prs (callW w p)).length := by
  refine fm_le2 (f := prs1 w) (g := prs1 (callW w p)) (l := List.range w.n) fun i hi => ?_
  have hi := List.mem_range.mp hi
  rw [prs1, prs1, List.length_map, List.length_map, nb, nb, callW_n, List.filter_filter, List.filter_filter]
  refine filter_le2 fun j hj h => ?_
  have hj := List.mem_range.mp hj
  simp only [Bool.and_eq_true] at h ⊢
  exact ⟨h.1, (callW_adj hi hj).mpr (.inl h.2)⟩
theorem less_le (w : Web) (i : Nat) : less w i ≤ 0 := by
  have := prs_grow w i
  unfold less
  omega
theorem idle_iff {w : Web} {p : Nat} (hp : p < w.n) : tableB w (nb w p) = true ↔ ∀ i j, i < w.n → j < w.n → i ≠ j → w.adj p i = true → w.adj p j = true → w.adj i j = true := by
  rw [tableB_iff]
  constructor
  · intro h i j hi hj hij h1 h2
    rcases Nat.lt_or_gt_of_ne hij with q | q
    · exact (mem_nb.mp (h i (mem_nb.mpr ⟨hi, h1⟩) j (mem_nb.mpr ⟨hj, h2⟩) q)).2
    · rw [w.sym]; exact (mem_nb.mp (h j (mem_nb.mpr ⟨hj, h2⟩) i (mem_nb.mpr ⟨hi, h1⟩) q)).2
  · intro h i hi j hj hij
    have hi' := mem_nb.mp hi
    have hj' := mem_nb.mp hj
    exact mem_nb.mpr ⟨hj'.1, h i j hi'.1 hj'.1 (by omega) hi'.2 hj'.2⟩
theorem idle_called {w : Web} {p : Nat} (hp : p < w.n) : tableB (callW w p) (nb (callW w p) p) = true := by
  rw [idle_iff (w := callW w p) hp]
  intro i j hi hj hij h1 h2
  rw [callW_n] at hi hj
  have e : ∀ k, k < w.n → (callW w p).adj p k = true → w.adj p k = true := fun k hk h => by
    rcases (callW_adj hp hk).mp h with h | ⟨_, h, _⟩
    · exact h
    · rw [w.irr] at h; cases h
  exact (callW_adj hi hj).mpr (.inr ⟨hij, e i hi h1, e j hj h2⟩)
theorem idle_stays {w : Web} {p q : Nat} (hp : p < w.n) (hq : q < w.n) (h : tableB w (nb w p) = true) : tableB (callW w q) (nb (callW w q) p) = true := by
  rw [idle_iff hp] at h
  rw [idle_iff (w := callW w q) hp]
  intro i j hi hj hij h1 h2
  rw [callW_n] at hi hj
  rw [callW_adj hi hj]
  have key : ∀ a, a < w.n → w.adj p q = true → w.adj p a = true → a ≠ q → w.adj q a = true := fun a ha hpq hpa hne => h q a hq ha (fun e => hne e.symm) hpq hpa
  rcases (callW_adj hp hi).mp h1 with h1 | ⟨n1, a1, b1⟩ <;> rcases (callW_adj hp hj).mp h2 with h2 | ⟨n2, a2, b2⟩
  · exact .inl (h i j hi hj hij h1 h2)
  · have hpq : w.adj p q = true := by rw [w.sym]; exact a2
    by_cases hiq : i = q
    · subst hiq; exact .inl b2
    · exact .inr ⟨hij, key i hi hpq h1 hiq, b2⟩
  · have hpq : w.adj p q = true := by rw [w.sym]; exact a1
    by_cases hjq : j = q
    · subst hjq; exact .inl (by rw [w.sym]; exact b1)
    · exact .inr ⟨hij, b1, key j hj hpq h2 hjq⟩
  · exact .inr ⟨hij, b1, b2⟩
theorem mvs_fewer {w : Web} {p : Nat} (hp : p < w.n) (hm : tableB w (nb w p) = false) : (mvs (callW w p)).length < (mvs w).length := by
  refine filter_lt2 (l := List.range w.n) (m := p) (p := fun x => !tableB (callW w p) (nb (callW w p) x)) (q := fun x => !tableB w (nb w x)) (fun x hx h => ?_) (List.mem_range.mpr hp) ?_ ?_
  · have hx := List.mem_range.mp hx
    cases ht : tableB w (nb w x)
    · rfl
    · rw [idle_stays hx hp ht] at h; cases h
  · simp only [idle_called hp, Bool.not_true]
  · simp only [hm, Bool.not_false]
theorem same_of_idle {w : Web} {p : Nat} (h : tableB w (nb w p) = true) : less w p = 0 := by
  have h1 := call_same w p
  rw [h, beq_iff_eq] at h1
  have h2 : ∀ i < w.n, nb (callW w p) i = nb w i := fun i hi => by
    have := congrArg (fun l => l[i]?) h1
    simpa [rows, callW_n, hi] using this
  have h3 : prs (callW w p) = prs w := fm_congr (l := List.range w.n) fun i hi => by rw [prs1, prs1, h2 i (List.mem_range.mp hi)]
  unfold less
  rw [h3]
  omega
/-! ### the greedy row -/
inductive Gr : Web → List Nat → Prop
  | stop (w : Web) (m : Nat) : Best (less w) w.n m → less w m = 0 → Gr w []
  | go (w : Web) (m : Nat) (row : List Nat) : Best (less w) w.n m → less w m ≠ 0 → Gr (callW w m) row → Gr w (m :: row)
theorem gr_ex : ∀ (k : Nat) (w : Web), (mvs w).length ≤ k → ∃ row, Gr w row ∧ row.length ≤ k
  | k, w, hk => by
    obtain ⟨m, b, _⟩ := min_P2 (less w) w.pos
    by_cases h : less w m = 0
    · exact ⟨[], .stop w m b h, Nat.zero_le _⟩
    · have hm : tableB w (nb w m) = false := by
        cases ht : tableB w (nb w m)
        · rfl
        · exact absurd (same_of_idle ht) h
      have h2 := mvs_fewer b.lt hm
      obtain ⟨k', rfl⟩ : ∃ k', k = k' + 1 := ⟨k - 1, by omega⟩
      obtain ⟨row, g, hl⟩ := gr_ex k' (callW w m) (by omega)
      exact ⟨m :: row, .go w m row b h g, by simp only [List.length_cons]; omega⟩
theorem gr_row (w : Web) : ∃ row, Gr w row ∧ row.length ≤ w.n := gr_ex w.n w (len_filter_range _ _)
def bd_greedy_row (f_need_web f_pairs_in f_call_in : Nat) : List MS := [(.exp (.call f_need_web [(.var 0)])), (.asg (.nm 1) (.lst [])), (.wh (.cst (.bool true)) [(.asg (.nm 2) (.bi .len [(.call f_pairs_in [(.var 0)])])), (.asg (.tp [(.nm 3), (.nm 4)]) (.bi .min [(.lc (.tup [(.bin .sub (.var 2) (.bi .len [(.call f_pairs_in [(.call f_call_in [(.var 0), (.var 5)])])])), (.var 5)]) (.nm 5) (.rng (.bi .len [(.var 0)])) none [5])])), (.ite (.cmp .eq (.var 3) (.cst (.int 0))) [(.ret (.bi .tuple [(.var 1)]))] []), (.app 1 (.var 4)), (.asg (.nm 0) (.call f_call_in [(.var 0), (.var 4)]))])]
section
variable {cf : Nat → List R → Option (R × List (Option R))}
theorem best_uniq {a : Nat → Int} {n m k : Nat} (h1 : Best a n m) (h2 : Best a n k) : m = k := by
  rcases Nat.lt_trichotomy m k with h | h | h
  · have := h2.fst m h; have := h1.le k h2.lt; omega
  · exact h
  · have := h1.fst k h; have := h2.le m h1.lt; omega
theorem greedy_turn {g h : Nat} (hpi : HPairsIn cf g) (hc : HCallIn cf h) (w : Web) (acc : List Nat) (s2 s3 s4 : Sl) (h2 : notLk s2 = true) (h3 : notLk s3 = true) (h4 : notLk s4 = true) (m : Nat) (b : Best (less w) w.n m) (ss : List MS) (fl : Fl) (e : Env)
    (hn : Xs ⟨cf, Ev.loop⟩ ss [V (toD w), L (acc.map nI), V (nI (prs w).length), V (.int (less w m)), V (nI m), .no] fl e) :
    Xs ⟨cf, Ev.loop⟩ ((.asg (.nm 2) (.bi .len [(.call g [(.var 0)])])) :: (.asg (.tp [(.nm 3), (.nm 4)]) (.bi .min [(.lc (.tup [(.bin .sub (.var 2) (.bi .len [(.call g [(.call h [(.var 0), (.var 5)])])])), (.var 5)]) (.nm 5) (.rng (.bi .len [(.var 0)])) none [5])])) :: ss) [V (toD w), L (acc.map nI), s2, s3, s4, .no] fl e := by
  have h8 := w.le
  obtain ⟨m', b', hmin⟩ := min_P2 (less w) w.pos
  obtain rfl := best_uniq b b'
  have s := E.lcv (O := ⟨cf, Ev.loop⟩) (env := [V (toD w), L (acc.map nI), V (nI (prs w).length), s3, s4, .no]) (i := 5) (elt := .tup [(.bin .sub (.var 2) (.bi .len [(.call g [(.call h [(.var 0), (.var 5)])])])), (.var 5)]) (it := .rng (.bi .len [(.var 0)])) (xs := List.range w.n) (f := nI) (g := P2 (less w)) (I.rng (E.lenw (.var rfl)).wv (by omega)) rfl (by simp; omega)
    fun i hi => E.tup2 (E.bin (.var rfl) ((E.lenl (E.cl (.cons (E.cl (.cons (.var rfl) (.cons (.var rfl) .nil)) (hc w i (List.mem_range.mp hi))) .nil) (hpi (callW w i))).wl).wv.to (by rw [List.length_map])) rfl) (.var rfl)
  exact .nx (.asg ((E.lenl (E.cl (.cons (.var rfl) .nil) (hpi w)).wl).to (by rw [List.length_map])) h2) (.nx (.asg2 (E.bi1 s.wl hmin) h3 h4) hn)
theorem greedy_loop {g h : Nat} (hpi : HPairsIn cf g) (hc : HCallIn cf h) : ∀ (row : List Nat) (w : Web), Gr w row → ∀ (acc : List Nat) (s2 s3 s4 : Sl), notLk s2 = true → notLk s3 = true → notLk s4 = true → acc.length + row.length < 1000 →
    ∃ e, turns (fun e => (ev ⟨cf, Ev.loop⟩ (.cst (.bool true)) e).bind fun x => (view x.1 x.2).bind fun p => (asB p.1).bind fun k => some (k, p.2))
      (fun e => exs ⟨cf, Ev.loop⟩ [(.asg (.nm 2) (.bi .len [(.call g [(.var 0)])])), (.asg (.tp [(.nm 3), (.nm 4)]) (.bi .min [(.lc (.tup [(.bin .sub (.var 2) (.bi .len [(.call g [(.call h [(.var 0), (.var 5)])])])), (.var 5)]) (.nm 5) (.rng (.bi .len [(.var 0)])) none [5])])), (.ite (.cmp .eq (.var 3) (.cst (.int 0))) [(.ret (.bi .tuple [(.var 1)]))] []), (.app 1 (.var 4)), (.asg (.nm 0) (.call h [(.var 0), (.var 4)]))] e)
      (row.length + 1) [V (toD w), L (acc.map nI), s2, s3, s4, .no] = some (.ret (vR (.tuple ((acc ++ row).map nI))), e)
  | [], w, hg, acc, s2, s3, s4, h2, h3, h4, hl => by
    cases hg with
    | stop _ m b h0 =>
      have hcmp : W ⟨cf, Ev.loop⟩ (.cmp .eq (.var 3) (.cst (.int 0))) [V (toD w), L (acc.map nI), V (nI (prs w).length), V (.int (less w m)), V (nI m), .no] (.bool (less w m == 0)) := (E.cmp (.var rfl) .cst (eq_int _ _)).wv
      have htup : E ⟨cf, Ev.loop⟩ (.bi .tuple [(.var 1)]) [V (toD w), L (acc.map nI), V (nI (prs w).length), V (.int (less w m)), V (nI m), .no] (vR (.tuple (acc.map nI))) := E.tupl (.vals rfl)
      have hx := greedy_turn hpi hc w acc s2 s3 s4 h2 h3 h4 m b _ _ _ (.ret (s := .ite (.cmp .eq (.var 3) (.cst (.int 0))) [(.ret (.bi .tuple [(.var 1)]))] []) (ss := [(.app 1 (.var 4)), (.asg (.nm 0) (.call h [(.var 0), (.var 4)]))]) (.iteT (hcmp.to (by rw [h0]; rfl)) (.ret (.ret htup))))
      unfold Xs at hx
      refine ⟨[V (toD w), L (acc.map nI), V (nI (prs w).length), V (.int (less w m)), V (nI m), .no], ?_⟩
      simp only [turns, q_ev_cst, Option.bind_some, view, fro, asB, if_true]
      rw [hx, Option.bind_some, List.append_nil]
  | m :: row, w, hg, acc, s2, s3, s4, h2, h3, h4, hl => by
    cases hg with
    | go _ _ _ b h0 hg' =>
      simp only [List.length_cons] at hl
      obtain ⟨e, ih⟩ := greedy_loop hpi hc row (callW w m) hg' (acc ++ [m]) (V (nI (prs w).length)) (V (.int (less w m))) (V (nI m)) rfl rfl rfl (by simp only [List.length_append, List.length_singleton]; omega)
      have hap := X.appv (O := ⟨cf, Ev.loop⟩) (env := [V (toD w), L (acc.map nI), V (nI (prs w).length), V (.int (less w m)), V (nI m), .no]) (i := 1) (e := .var 4) (d := nI m) rfl (.var rfl) (by rw [List.length_map]; omega)
      have ea : acc.map nI ++ [nI m] = (acc ++ [m]).map nI := by rw [List.map_append]; rfl
      rw [ea] at hap
      have hcmp : W ⟨cf, Ev.loop⟩ (.cmp .eq (.var 3) (.cst (.int 0))) [V (toD w), L (acc.map nI), V (nI (prs w).length), V (.int (less w m)), V (nI m), .no] (.bool (less w m == 0)) := (E.cmp (.var rfl) .cst (eq_int _ _)).wv
      have hcl : X ⟨cf, Ev.loop⟩ (.asg (.nm 0) (.call h [(.var 0), (.var 4)])) [V (toD w), L ((acc ++ [m]).map nI), V (nI (prs w).length), V (.int (less w m)), V (nI m), .no] .nx [V (toD (callW w m)), L ((acc ++ [m]).map nI), V (nI (prs w).length), V (.int (less w m)), V (nI m), .no] := .asg (E.cl (.cons (.var rfl) (.cons (.var rfl) .nil)) (hc w m b.lt)) rfl
      have hx := greedy_turn hpi hc w acc s2 s3 s4 h2 h3 h4 m b _ _ _ (.nx (.skip (a := [(.ret (.bi .tuple [(.var 1)]))]) (hcmp.to (by simp [h0]))) (.nx hap (.last hcl)))
      unfold Xs at hx
      refine ⟨e, ?_⟩
      rw [List.length_cons]
      rw [turns]
      simp only [q_ev_cst, Option.bind_some, view, fro, asB, if_true]
      rw [hx, Option.bind_some]
      have e2 : acc ++ m :: row = (acc ++ [m]) ++ row := by simp
      rw [e2]
      exact ih
theorem b_greedy_row {f g h : Nat} (hw : HWeb cf f) (hpi : HPairsIn cf g) (hc : HCallIn cf h) (w : Web) (row : List Nat) (hg : Gr w row) (hl : row.length ≤ 8) : ∃ e, Xs ⟨cf, Ev.loop⟩ (bd_greedy_row f g h) [V (toD w), .no, .no, .no, .no, .no] (.ret (vR (.tuple (row.map nI)))) e := by
  obtain ⟨e, ht⟩ := greedy_loop hpi hc row w hg [] .no .no .no rfl rfl rfl (by simp; omega)
  exact ⟨e, .nx (.exp (E.cl (.cons (.var rfl) .nil) (hw w))) (.nx (.asg nil_L rfl) (.ret (X.wh ht)))⟩
end
end Ev.Z
set_option autoImplicit true
set_option linter.all false
set_option maxRecDepth 100000
namespace Ev.Z
open PySem
/-! ### what the calls make -/
/-- the couples that are new behind a step -/
def fresh (a b : Web) : List (Nat × Nat) := (prs b).filter fun c => !(nb a c.1).contains c.2
def stepF (w : Web) (cs : List Nat) (k : Nat) : List (Nat × Nat) := fresh (stw w (cs.take k)) (stw w (cs.take (k + 1)))
theorem stepF_len (w : Web) (cs : List Nat) (k : Nat) : (stepF w cs k).length ≤ 28 := Nat.le_trans (List.length_filter_le _ _) (prs_28 _)
/-- at, person, couple -/
def tp3 (x : Nat × Nat × (Nat × Nat)) : PyData := .tuple [nI x.1, nI x.2.1, cp x.2.2]
def madeK (w : Web) (cs : List Nat) (k : Nat) : List (Nat × Nat × (Nat × Nat)) := (stepF w cs k).map fun c => (k, cs.getD k 0, c)
def madeN (w : Web) (cs : List Nat) (n : Nat) : List (Nat × Nat × (Nat × Nat)) := (List.range n).flatMap (madeK w cs)
abbrev made (w : Web) (cs : List Nat) : List (Nat × Nat × (Nat × Nat)) := madeN w cs cs.length
theorem madeN_succ (w : Web) (cs : List Nat) (n : Nat) : madeN w cs (n + 1) = madeN w cs n ++ madeK w cs n := by
  rw [madeN, List.range_succ, List.flatMap_append]; simp [madeN]
theorem madeN_len (w : Web) (cs : List Nat) (n : Nat) : (madeN w cs n).length ≤ n * 28 := by
  have := fm_len (madeK w cs) 28 (fun k => by rw [madeK, List.length_map]; exact stepF_len w cs k) (List.range n)
  rwa [List.length_range] at this
theorem enum_getD (cs : List Nat) : enumOf 0 (cs.map nI) = (List.range cs.length).map fun k => .tuple [nI k, nI (cs.getD k 0)] := by
  refine List.ext_getElem? fun j => ?_
  rw [enum_get]
  by_cases h : j < cs.length
  · simp [h]
  · simp [h]
theorem getD_lt {cs : List Nat} {n k : Nat} (hc : ∀ c ∈ cs, c < n) (hk : k < cs.length) : cs.getD k 0 < n := by
  have : cs.getD k 0 = cs[k] := by simp [hk]
  rw [this]; exact hc _ (List.getElem_mem hk)
theorem ix_getD {cs : List Nat} {k : Nat} (hk : k < cs.length) : ixop (.tuple (cs.map nI)) (nI k) = some (nI (cs.getD k 0)) := by
  rw [ix_tup (by simpa using hk)]
  simp [hk]
theorem ix_c1 (c : Nat × Nat) : ixop (cp c) (.int 1) = some (nI c.2) := by rfl
theorem ix_c0 (c : Nat × Nat) : ixop (cp c) (.int 0) = some (nI c.1) := by rfl
def bd_made_in (f_story_in f_pairs_in : Nat) : List MS := [(.par [2, 3] [(.call f_story_in [(.var 0), (.var 1)]), (.lst [])]), (.for (.tp [(.nm 4), (.nm 5)]) (.enum (.var 1)) [(.ext 3 (.lc (.tup [(.var 4), (.var 5), (.var 6)]) (.nm 6) (.seq (.call f_pairs_in [(.ix (.var 2) (.bin .add (.var 4) (.cst (.int 1))))])) (some (.cmp .notin (.ix (.var 6) (.cst (.int 1))) (.ix (.ix (.var 2) (.var 4)) (.ix (.var 6) (.cst (.int 0)))))) [6]))]), (.ret (.var 3))]
def bd_made_by (f_need_web f_need_calls f_made_in : Nat) : List MS := [(.exp (.call f_need_web [(.var 0)])), (.exp (.call f_need_calls [(.var 0), (.var 1)])), (.ret (.bi .tuple [(.call f_made_in [(.var 0), (.var 1)])]))]
def bd_count_made (f_need_web f_need_calls f_made_in : Nat) : List MS := [(.exp (.call f_need_web [(.var 0)])), (.exp (.call f_need_calls [(.var 0), (.var 1)])), (.asg (.nm 2) (.bin .mul (.lst [(.cst (.int 0))]) (.bi .len [(.var 0)]))), (.for (.tp [(.nm 3), (.nm 4), (.nm 5)]) (.seq (.call f_made_in [(.var 0), (.var 1)])) [(.aix 2 (.var 4) .add (.cst (.int 1)))]), (.ret (.bi .tuple [(.var 2)]))]
def bd_new_friends (f_need_web f_need_calls f_need_person f_story_in : Nat) : List MS := [(.exp (.call f_need_web [(.var 0)])), (.exp (.call f_need_calls [(.var 0), (.var 1)])), (.exp (.call f_need_person [(.var 0), (.var 2)])), (.asg (.nm 3) (.ix (.call f_story_in [(.var 0), (.var 1)]) (.neg (.cst (.int 1))))), (.asg (.nm 4) (.lst [])), (.for (.nm 5) (.seq (.ix (.var 3) (.var 2))) [(.ite (.cmp .notin (.var 5) (.ix (.var 0) (.var 2))) [(.app 4 (.var 5))] [])]), (.ret (.bi .tuple [(.var 4)]))]
def bd_best_host (f_count_made : Nat) : List MS := [(.asg (.tp [(.nm 2), (.nm 3)]) (.bi .min [(.lc (.tup [(.neg (.var 2)), (.var 3)]) (.tp [(.nm 3), (.nm 2)]) (.enum (.call f_count_made [(.var 0), (.var 1)])) none [3, 2])])), (.ret (.tup [(.neg (.var 2)), (.var 3)]))]
def bd_met_by (f_need_web f_need_calls f_need_person f_made_in : Nat) : List MS := [(.exp (.call f_need_web [(.var 0)])), (.exp (.call f_need_calls [(.var 0), (.var 1)])), (.exp (.call f_need_person [(.var 0), (.var 2)])), (.asg (.nm 3) (.lst [])), (.for (.tp [(.nm 4), (.nm 5), (.nm 6)]) (.seq (.call f_made_in [(.var 0), (.var 1)])) [(.ite (.cmp .eq (.var 5) (.var 2)) [(.app 3 (.var 6))] [])]), (.ret (.bi .tuple [(.bi .sorted [(.var 3)])]))]
theorem bind3 {i j l : Nat} {p q r : PyData} {env : Env} (h1 : notLk (gt env i) = true) (h2 : notLk (gt (st env i (V p)) j) = true) (h3 : notLk (gt (st (st env i (V p)) j (V q)) l) = true) : bindT (.tp [.nm i, .nm j, .nm l]) (.tuple [p, q, r]) env = some (st (st (st env i (V p)) j (V q)) l (V r)) := by
  rw [bindT, bindTs, bindT_nm h1, Option.bind_some, bindTs, bindT_nm h2, Option.bind_some, bindTs, bindT_nm h3, Option.bind_some, bindTs]
abbrev HMade (cf : Nat → List R → Option (R × List (Option R))) (f : Nat) : Prop := ∀ (w : Web) (cs : List Nat), (∀ c ∈ cs, c < w.n) → cs.length ≤ 60 → Cl cf f [vR (toD w), vR (.tuple (cs.map nI))] (vals ((made w cs).map tp3))
section
variable {cf : Nat → List R → Option (R × List (Option R))} {wh : WhT}
theorem b_made_in {f g : Nat} (hs : HStory cf f) (hpi : HPairsIn cf g) (w : Web) (cs : List Nat) (hc : ∀ c ∈ cs, c < w.n) (hl : cs.length ≤ 60) : ∃ e, Xs ⟨cf, wh⟩ (bd_made_in f g) [V (toD w), V (.tuple (cs.map nI)), .no, .no, .no, .no, .no] (.ret (vals ((made w cs).map tp3))) e := by
  obtain ⟨e1, g1, a, b, rfl, ha, hb⟩ := X.for (O := ⟨cf, wh⟩) (tg := .tp [(.nm 4), (.nm 5)]) (it := .enum (.var 1)) (b := [(.ext 3 (.lc (.tup [(.var 4), (.var 5), (.var 6)]) (.nm 6) (.seq (.call g [(.ix (.var 2) (.bin .add (.var 4) (.cst (.int 1))))])) (some (.cmp .notin (.ix (.var 6) (.cst (.int 1))) (.ix (.ix (.var 2) (.var 4)) (.ix (.var 6) (.cst (.int 0)))))) [6]))])
    (env := [V (toD w), V (.tuple (cs.map nI)), L ((stories w cs).map toD), L [], .no, .no, .no]) (env1 := [V (toD w), V (.tuple (cs.map nI)), L ((stories w cs).map toD), L [], .no, .no, .no]) (xs := List.range cs.length) (f := fun k => .tuple [nI k, nI (cs.getD k 0)])
    (fun k e => ∃ a b, e = [V (toD w), V (.tuple (cs.map nI)), L ((stories w cs).map toD), L ((madeN w cs k).map tp3), a, b, .no] ∧ notLk a = true ∧ notLk b = true) ((I.enum (.var rfl) rfl).trans (by rw [enum_getD])) ⟨_, _, rfl, rfl, rfl⟩ fun i k e hk hI => by
      obtain ⟨a, b, rfl, ha, hb⟩ := hI
      have hlt := (List.getElem?_eq_some_iff.mp hk).1
      rw [List.length_range] at hlt
      obtain rfl : i = k := by simpa [hlt] using hk
      have hlc := E.lcFv (O := ⟨cf, wh⟩) (env := [V (toD w), V (.tuple (cs.map nI)), L ((stories w cs).map toD), L ((madeN w cs i).map tp3), V (nI i), V (nI (cs.getD i 0)), .no]) (i := 6) (elt := .tup [(.var 4), (.var 5), (.var 6)]) (it := .seq (.call g [(.ix (.var 2) (.bin .add (.var 4) (.cst (.int 1))))])) (cnd := .cmp .notin (.ix (.var 6) (.cst (.int 1))) (.ix (.ix (.var 2) (.var 4)) (.ix (.var 6) (.cst (.int 0)))))
        (xs := prs (stw w (cs.take (i + 1)))) (f := cp) (g := fun c => tp3 (i, cs.getD i 0, c)) (c := fun c => !(nb (stw w (cs.take i)) c.1).contains c.2)
        (I.seql (E.cl (.cons (E.ix (.vals rfl) (E.bin (.var rfl) .cst (add_nat i 1)).wv (ix_story (by omega))) .nil) (hpi (stw w (cs.take (i + 1)))))) rfl (by have := prs_28 (stw w (cs.take (i + 1))); omega)
        (fun c hcm => (E.cmp (E.ix (.var rfl) .cst (ix_c1 c)).wv (E.ixw (E.ix (.vals rfl) (.var rfl) (ix_story (by omega))).wv (E.ix (.var rfl) .cst (ix_c0 c)).wv (by have h1 := (good_prs _ c hcm).2.1; rw [stw_n] at h1 ⊢; exact h1)).wv (cmp_notin (in_nat _ _))).wv)
        fun c hcm hcc => E.tup (.cons (.var rfl) (.cons (.var rfl) (.cons (.var rfl) .nil)))
      have el : ((prs (stw w (cs.take (i + 1)))).filter fun c => !(nb (stw w (cs.take i)) c.1).contains c.2).map (fun c => tp3 (i, cs.getD i 0, c)) = (madeK w cs i).map tp3 := by rw [madeK, List.map_map]; rfl
      rw [el] at hlc
      have hx := X.extv (O := ⟨cf, wh⟩) (env := [V (toD w), V (.tuple (cs.map nI)), L ((stories w cs).map toD), L ((madeN w cs i).map tp3), V (nI i), V (nI (cs.getD i 0)), .no]) (i := 3) rfl hlc (by
        have h1 := madeN_len w cs i
        have h2 : (madeK w cs i).length ≤ 28 := by rw [madeK, List.length_map]; exact stepF_len w cs i
        simp only [List.length_map]; omega)
      rw [← List.map_append, ← madeN_succ] at hx
      exact ⟨_, _, bind2 ha hb, .last hx, V (nI i), V (nI (cs.getD i 0)), rfl, rfl, rfl⟩
  rw [List.length_range] at g1
  exact ⟨_, .nx (.par2 (E.cl (.cons (.var rfl) (.cons (.var rfl) .nil)) (hs w cs hc hl)) nil_L rfl rfl) (.nx g1 (.ret (.retl rfl)))⟩
theorem b_made_by {f g h : Nat} (hw : HWeb cf f) (hr : HRow cf g) (hm : HMade cf h) (w : Web) (cs : List Nat) (hc : ∀ c ∈ cs, c < w.n) (hl : cs.length ≤ 60) : Xs ⟨cf, wh⟩ (bd_made_by f g h) [V (toD w), V (.tuple (cs.map nI))] (.ret (vR (.tuple ((made w cs).map tp3)))) [V (toD w), V (.tuple (cs.map nI))] :=
  .nx (.exp (E.cl (.cons (.var rfl) .nil) (hw w))) (.nx (.exp (E.cl (.cons (.var rfl) (.cons (.var rfl) .nil)) (hr w cs hc hl))) (.ret (.ret (E.tupl (E.cl (.cons (.var rfl) (.cons (.var rfl) .nil)) (hm w cs hc hl)).wl))))
/-- how many by whom -/
def cntP (l : List (Nat × Nat × (Nat × Nat))) (p : Nat) : Nat := l.countP fun x => x.2.1 == p
theorem cntP_snoc (l : List (Nat × Nat × (Nat × Nat))) (x : Nat × Nat × (Nat × Nat)) : (fun p => cntP (l ++ [x]) p) = fun p => if p = x.2.1 then cntP l x.2.1 + 1 else cntP l p := by
  funext p
  rw [cntP, List.countP_append]
  by_cases h : p = x.2.1
  · subst h; simp [cntP]
  · rw [if_neg h]
    have : (x.2.1 == p) = false := by rw [beq_eq_false_iff_ne]; exact fun e => h e.symm
    simp [cntP, this]
theorem mem_made {w : Web} {cs : List Nat} (hc : ∀ c ∈ cs, c < w.n) {n : Nat} (hn : n ≤ cs.length) {x : Nat × Nat × (Nat × Nat)} (h : x ∈ madeN w cs n) : x.2.1 < w.n ∧ x.2.2.1 < w.n ∧ x.2.2.2 < w.n := by
  simp only [madeN, madeK, stepF, fresh, List.mem_flatMap, List.mem_range, List.mem_map, List.mem_filter] at h
  obtain ⟨k, hk, c, ⟨hc1, _⟩, rfl⟩ := h
  have h1 := good_prs _ c hc1
  rw [stw_n] at h1
  exact ⟨getD_lt hc (by omega), h1.2.1, h1.2.2⟩
abbrev HCount (cf : Nat → List R → Option (R × List (Option R))) (f : Nat) : Prop := ∀ (w : Web) (cs : List Nat), (∀ c ∈ cs, c < w.n) → cs.length ≤ 60 → Cl cf f [vR (toD w), vR (.tuple (cs.map nI))] (vR (.tuple (cnts' w.n (cntP (made w cs)))))
theorem b_count_made {f g h : Nat} (hw : HWeb cf f) (hr : HRow cf g) (hm : HMade cf h) (w : Web) (cs : List Nat) (hc : ∀ c ∈ cs, c < w.n) (hl : cs.length ≤ 60) : ∃ e, Xs ⟨cf, wh⟩ (bd_count_made f g h) [V (toD w), V (.tuple (cs.map nI)), .no, .no, .no, .no] (.ret (vR (.tuple (cnts' w.n (cntP (made w cs)))))) e := by
  have h8 := w.le
  obtain ⟨e1, g1, a, b, c, rfl, _⟩ := X.forP (O := ⟨cf, wh⟩) (tg := .tp [(.nm 3), (.nm 4), (.nm 5)]) (it := .seq (.call h [(.var 0), (.var 1)])) (b := [(.aix 2 (.var 4) .add (.cst (.int 1)))])
    (env := [V (toD w), V (.tuple (cs.map nI)), L (cnts' w.n fun _ => 0), .no, .no, .no]) (env1 := [V (toD w), V (.tuple (cs.map nI)), L (cnts' w.n fun _ => 0), .no, .no, .no]) (xs := made w cs) (f := tp3)
    (fun pre e => ∃ a b c, e = [V (toD w), V (.tuple (cs.map nI)), L (cnts' w.n (cntP pre)), a, b, c] ∧ notLk a = true ∧ notLk b = true ∧ notLk c = true) (I.seql (E.cl (.cons (.var rfl) (.cons (.var rfl) .nil)) (hm w cs hc hl))) ⟨_, _, _, rfl, rfl, rfl, rfl⟩ fun pre x e hx hpre hI => by
      obtain ⟨a, b, c, rfl, ha, hb, hcc⟩ := hI
      have hxn := (mem_made hc (Nat.le_refl _) hx).1
      have := X.aixc (O := ⟨cf, wh⟩) (env := [V (toD w), V (.tuple (cs.map nI)), L (cnts' w.n (cntP pre)), V (nI x.1), V (nI x.2.1), V (cp x.2.2)]) (i := 2) (n := w.n) (k := x.2.1) (b := 1) (ke := .var 4) (v := .cst (.int 1)) (a := cntP pre) rfl rfl rfl hxn
      have e3 : (cnts' w.n fun p => if p = x.2.1 then cntP pre x.2.1 + 1 else cntP pre p) = cnts' w.n (cntP (pre ++ [x])) := by rw [show cntP (pre ++ [x]) = fun p => cntP (pre ++ [x]) p from rfl, cntP_snoc]
      rw [e3] at this
      exact ⟨_, _, bind3 ha hb hcc, .last this, V (nI x.1), V (nI x.2.1), V (cp x.2.2), rfl, rfl, rfl, rfl⟩
  exact ⟨_, .nx (.exp (E.cl (.cons (.var rfl) .nil) (hw w))) (.nx (.exp (E.cl (.cons (.var rfl) (.cons (.var rfl) .nil)) (hr w cs hc hl))) (.nx (.asg (E.zeros (E.lenw (.var rfl)).wv (by omega)) rfl) (.nx g1 (.ret (.ret (E.tupl (.vals rfl)))))))⟩
def newF (w v : Web) (p : Nat) : List Nat := (nb v p).filter fun k => !(nb w p).contains k
theorem newF_len (w v : Web) (p : Nat) : (newF w v p).length ≤ 8 := Nat.le_trans (List.length_filter_le _ _) (nb_len v p)
theorem b_new_friends {f g h k : Nat} (hw : HWeb cf f) (hr : HRow cf g) (hp : HPerson cf h) (hs : HStory cf k) (w : Web) (cs : List Nat) (hc : ∀ c ∈ cs, c < w.n) (hl : cs.length ≤ 60) (p : Nat) (hpn : p < w.n) : ∃ e, Xs ⟨cf, wh⟩ (bd_new_friends f g h k) [V (toD w), V (.tuple (cs.map nI)), V (nI p), .no, .no, .no] (.ret (vR (.tuple ((newF w (stw w cs) p).map nI)))) e := by
  have hlast : (stories w cs).map toD = ((List.range cs.length).map (fun k => stw w (cs.take k))).map toD ++ [toD (stw w cs)] := by rw [stories_last, List.map_append]; rfl
  have hnl := nb_len (stw w cs) p
  obtain ⟨s, hs', g1⟩ := X.gatherF (O := ⟨cf, wh⟩) (i := 5) (k := 4) (it := .seq (.ix (.var 3) (.var 2))) (cnd := .cmp .notin (.var 5) (.ix (.var 0) (.var 2))) (elt := .var 5) (env := [V (toD w), V (.tuple (cs.map nI)), V (nI p), V (toD (stw w cs)), L [], .no]) (xs := nb (stw w cs) p) (f := nI) (g := nI) (c := fun k => !(nb w p).contains k) (acc := [])
    (I.seq (E.ixw (.var rfl) (.var rfl) (by rw [stw_n]; exact hpn)) rfl) rfl rfl (by simp; omega) (fun x hx ds => (E.cmp (.var rfl) (E.ixw (.var rfl) (.var rfl) hpn).wv (cmp_notin (in_nat _ _))).wv) fun x hx hcc ds => .var rfl
  exact ⟨_, .nx (.exp (E.cl (.cons (.var rfl) .nil) (hw w))) (.nx (.exp (E.cl (.cons (.var rfl) (.cons (.var rfl) .nil)) (hr w cs hc hl))) (.nx (.exp (E.cl (.cons (.var rfl) (.cons (.var rfl) .nil)) (hp w p hpn))) (.nx (.asg (E.ix (E.cl (.cons (.var rfl) (.cons (.var rfl) .nil)) (hs w cs hc hl)).wl E.neg1.wv (by rw [hlast]; exact ix_last _ _)) rfl) (.nx (.asg nil_L rfl) (.nx g1 (.ret (.ret (E.tupl (.vals rfl)))))))))⟩
/-- the couples that a person made -/
def metL (l : List (Nat × Nat × (Nat × Nat))) (p : Nat) : List (Nat × Nat) := (l.filter fun x => x.2.1 == p).map fun x => x.2.2
theorem sort_cps {l : List (Nat × Nat)} (hl : l.length ≤ 5000) : ∃ es : List PyData, biop .sorted [.list (l.map cp)] = some (vals es) ∧ es.Perm (l.map cp) := by
  have h1 : allAlike (l.map cp) = true := by simp [allAlike, cp, PySem.W.alike, PySem.W.alikeAll]
  have h2 : sortOk (l.map cp) = true := by
    simp only [sortOk, Bool.or_eq_true]
    left
    simp [cp]
  have h3 : (l.map cp).all SeqAt.shaped = true := by
    rw [List.all_eq_true]
    intro d hd
    obtain ⟨c, _, rfl⟩ := List.mem_map.mp hd
    exact (sh_cp (k := 0) c).ok
  refine ⟨(l.map cp).mergeSort le, ?_, List.mergeSort_perm _ _⟩
  simp only [biop, sortp, h1, h2, h3, List.length_map, Bool.true_and, Bool.and_true, decide_eq_true_eq]
  rw [if_pos (by simp only [big]; omega)]
  rfl
theorem b_met_by {f g h k : Nat} (hw : HWeb cf f) (hr : HRow cf g) (hp : HPerson cf h) (hm : HMade cf k) (w : Web) (cs : List Nat) (hc : ∀ c ∈ cs, c < w.n) (hl : cs.length ≤ 60) (p : Nat) (hpn : p < w.n) (es : List PyData) (hes : biop .sorted [.list ((metL (made w cs) p).map cp)] = some (vals es)) : ∃ e, Xs ⟨cf, wh⟩ (bd_met_by f g h k) [V (toD w), V (.tuple (cs.map nI)), V (nI p), .no, .no, .no, .no] (.ret (vR (.tuple es))) e := by
  have hml : (made w cs).length ≤ cs.length * 28 := madeN_len w cs cs.length
  obtain ⟨e1, g1, a, b, c, rfl, _⟩ := X.forP (O := ⟨cf, wh⟩) (tg := .tp [(.nm 4), (.nm 5), (.nm 6)]) (it := .seq (.call k [(.var 0), (.var 1)])) (b := [(.ite (.cmp .eq (.var 5) (.var 2)) [(.app 3 (.var 6))] [])])
    (env := [V (toD w), V (.tuple (cs.map nI)), V (nI p), L [], .no, .no, .no]) (env1 := [V (toD w), V (.tuple (cs.map nI)), V (nI p), L [], .no, .no, .no]) (xs := made w cs) (f := tp3)
    (fun pre e => ∃ a b c, e = [V (toD w), V (.tuple (cs.map nI)), V (nI p), L ((metL pre p).map cp), a, b, c] ∧ notLk a = true ∧ notLk b = true ∧ notLk c = true) (I.seql (E.cl (.cons (.var rfl) (.cons (.var rfl) .nil)) (hm w cs hc hl))) ⟨_, _, _, rfl, rfl, rfl, rfl⟩ fun pre x e hx hpre hI => by
      obtain ⟨a, b, c, rfl, ha, hb, hcc⟩ := hI
      have hle : (metL pre p).length ≤ pre.length := by rw [metL, List.length_map]; exact List.length_filter_le _ _
      have hcmp : W ⟨cf, wh⟩ (.cmp .eq (.var 5) (.var 2)) [V (toD w), V (.tuple (cs.map nI)), V (nI p), L ((metL pre p).map cp), V (nI x.1), V (nI x.2.1), V (cp x.2.2)] (.bool (x.2.1 == p)) := (E.cmp (.var rfl) (.var rfl) (eq_nat _ _)).wv
      refine ⟨_, [V (toD w), V (.tuple (cs.map nI)), V (nI p), L ((metL (pre ++ [x]) p).map cp), V (nI x.1), V (nI x.2.1), V (cp x.2.2)], bind3 ha hb hcc, .last ?_, V (nI x.1), V (nI x.2.1), V (cp x.2.2), rfl, rfl, rfl, rfl⟩
      cases hxp : x.2.1 == p
      · have em : metL (pre ++ [x]) p = metL pre p := by simp [metL, List.filter_append, hxp]
        rw [em]
        exact X.skip (hcmp.to (by rw [hxp]))
      · have em : (metL (pre ++ [x]) p).map cp = (metL pre p).map cp ++ [cp x.2.2] := by simp [metL, List.filter_append, hxp]
        rw [em]
        exact .iteT (hcmp.to (by rw [hxp])) (.last (X.appv rfl (.var rfl) (by rw [List.length_map]; omega)))
  exact ⟨_, .nx (.exp (E.cl (.cons (.var rfl) .nil) (hw w))) (.nx (.exp (E.cl (.cons (.var rfl) (.cons (.var rfl) .nil)) (hr w cs hc hl))) (.nx (.exp (E.cl (.cons (.var rfl) (.cons (.var rfl) .nil)) (hp w p hpn))) (.nx (.asg nil_L rfl) (.nx g1 (.ret (.ret (E.tupl (E.bi1 (.vals rfl) hes).wl)))))))⟩
theorem I.enumt {O : Orc} {env : Env} {a : ME} {ds : List PyData} (h : E O a env (vR (.tuple ds))) : I O (.enum a) env (enumOf 0 ds) := I.enum h rfl
theorem b_best_host {f : Nat} (hcn : HCount cf f) (w : Web) (cs : List Nat) (hc : ∀ c ∈ cs, c < w.n) (hl : cs.length ≤ 60) : ∃ m e, Best (fun p => -(cntP (made w cs) p : Int)) w.n m ∧ Xs ⟨cf, wh⟩ (bd_best_host f) [V (toD w), V (.tuple (cs.map nI)), .no, .no] (.ret (vR (.tuple [nI (cntP (made w cs) m), nI m]))) e := by
  have h8 := w.le
  obtain ⟨m, b, hmin⟩ := min_P2 (fun p => -(cntP (made w cs) p : Int)) w.pos
  have s := E.lcN (O := ⟨cf, wh⟩) (env := [V (toD w), V (.tuple (cs.map nI)), .no, .no]) (tg := .tp [(.nm 3), (.nm 2)]) (ow := [3, 2]) (elt := .tup [(.neg (.var 2)), (.var 3)]) (it := .enum (.call f [(.var 0), (.var 1)])) (xs := List.range w.n) (f := fun p => .tuple [nI p, nI (cntP (made w cs) p)]) (g := P2 fun p => -(cntP (made w cs) p : Int)) (fun p => [V (toD w), V (.tuple (cs.map nI)), V (nI (cntP (made w cs) p)), V (nI p)])
    ((I.enumt (E.cl (.cons (.var rfl) (.cons (.var rfl) .nil)) (hcn w cs hc hl))).trans (by rw [enum_map])) rfl (by simp; omega) (fun p hp => bind2 rfl rfl) (fun p hp => rfl) fun p hp => E.tup2 (E.neg (.var rfl)) (.var rfl)
  refine ⟨m, _, b, .nx (.asg2 (E.bi1 s.wl hmin) rfl rfl) (.ret (.ret ((E.tup (.cons (E.neg (.var rfl)) (.cons (.var rfl) .nil))).to ?_)))⟩
  simp only [froAll, fro, Int.neg_neg]
end
end Ev.Z
set_option autoImplicit true
set_option linter.all false
set_option maxRecDepth 100000
namespace Ev.Z
open PySem
section
variable {cf : Nat → List R → Option (R × List (Option R))} {wh : WhT} {env : Env}
/-- a check whose second side changes slots -/
theorem X.alkTo {f k : Nat} {a b : ME} {ss : List MS} {d : PyData} {env1 : Env} (hal : HAlike cf f k) (hp : Pl k d) (ha : E ⟨cf, wh⟩ a env (vR d)) (hb : ev ⟨cf, wh⟩ b env = some (.tm (vR d), env1)) : X ⟨cf, wh⟩ (.ite (.nt (.call f [a, b])) ss []) env .nx env1 := by
  unfold E at ha
  obtain ⟨outs, hc⟩ := hal d hp
  have h2 : ev ⟨cf, wh⟩ (.call f [a, b]) env = some (.tm (vR (.bool true)), env1) := by
    rw [q_ev_call, q_evs_ees, ha, Option.bind_some]
    simp only [q_evs_ees, hb, Option.bind_some, q_evs_nil, owns, own, hc]
    rw [show ([Opd.tm (vR d), Opd.tm (vR d)] : List Opd) = [vR d, vR d].map .tm from rfl, back_tm]
  unfold X
  rw [q_ex_ite, q_ev_nt, h2, Option.bind_some]
  simp only [view, fro, Option.bind_some, asB, Bool.not_true, Bool.false_eq_true, if_false, q_exs_nil]
theorem draw_six {i n k b : Nat} {a : Nat → Nat} {O : Orc} {ke v : ME} (hg : gt env i = L (cnts' n a)) (hv : E O v env (vR (nI b))) (hk : W O ke env (nI k)) (hkn : k < n) : X O (.six i ke v) env .nx (st env i (L (cnts' n fun p => if p = k then b else a p))) := X.sixc hg hv hk hkn
end
theorem pl_tp3 {k : Nat} (x : Nat × Nat × (Nat × Nat)) : Pl (k + 2) (tp3 x) := .tup (k + 1) _ (fun d hd => by
  simp only [List.mem_cons, List.not_mem_nil, or_false] at hd
  rcases hd with rfl | rfl | rfl
  · exact .int _ _
  · exact .int _ _
  · exact pl_cp k x.2.2) (by simp)
theorem cntP_app (l : List (Nat × Nat × (Nat × Nat))) (w : Web) (cs : List Nat) (k : Nat) : (fun p => if p = cs.getD k 0 then cntP l (cs.getD k 0) + (stepF w cs k).length else cntP l p) = cntP (l ++ madeK w cs k) := by
  funext p
  have e : cntP (l ++ madeK w cs k) p = cntP l p + List.countP (fun x => x.2.1 == p) (madeK w cs k) := by rw [cntP, List.countP_append]; rfl
  rw [e]
  have h : List.countP (fun x => x.2.1 == p) (madeK w cs k) = if cs.getD k 0 == p then (stepF w cs k).length else 0 := by
    rw [madeK, List.countP_map]
    have : ((fun x : Nat × Nat × (Nat × Nat) => x.2.1 == p) ∘ fun c => (k, cs.getD k 0, c)) = fun _ => cs.getD k 0 == p := rfl
    rw [this]
    cases cs.getD k 0 == p <;> simp [List.countP_eq_length_filter]
  rw [h]
  by_cases hp : p = cs.getD k 0
  · subst hp; simp
  · rw [if_neg hp]
    have : (cs.getD k 0 == p) = false := by rw [beq_eq_false_iff_ne]; exact fun e => hp e.symm
    rw [this]; simp [cntP]
theorem cnt_int (n : Nat) (c : Nat → Nat) : cnts' n c = (List.range n).map fun i => PyData.int (-(-(c i : Int))) := List.map_congr_left fun i _ => by simp [nI]
end Ev.Z
set_option autoImplicit true
set_option linter.all false
set_option maxRecDepth 100000
/-! Chains whose inner people are called; a row of calls tells what the set of its people tells. -/
namespace Ev.Z
open PySem
set_option inductive.autoPromoteIndices false in
/-- a chain from i to j, its inner people in S -/
inductive Ch (w : Web) (S : Nat → Prop) : Nat → Nat → Prop
  | one (i j : Nat) : i < w.n → j < w.n → w.adj i j = true → Ch w S i j
  | more (i k j : Nat) : Ch w S i k → S k → j < w.n → w.adj k j = true → Ch w S i j
theorem Ch.lt {w : Web} {S : Nat → Prop} {i j : Nat} (h : Ch w S i j) : i < w.n ∧ j < w.n := by
  induction h with
  | one i j h1 h2 _ => exact ⟨h1, h2⟩
  | more i k j _ _ hj _ ih => exact ⟨ih.1, hj⟩
theorem Ch.mono {w : Web} {S S' : Nat → Prop} (hs : ∀ k, S k → S' k) {i j : Nat} (h : Ch w S i j) : Ch w S' i j := by
  induction h with
  | one i j h1 h2 h3 => exact .one i j h1 h2 h3
  | more i k j _ hk hj ha ih => exact .more i k j ih (hs k hk) hj ha
theorem Ch.none {w : Web} {i j : Nat} (h : Ch w (fun _ => False) i j) : w.adj i j = true := by
  cases h with
  | one _ _ _ _ h => exact h
  | more _ _ _ _ h => exact h.elim
/-- two chains joined at a called person -/
theorem Ch.join {w : Web} {S : Nat → Prop} {i k j : Nat} (h1 : Ch w S i k) (hk : S k) (h2 : Ch w S k j) : Ch w S i j := by
  induction h2 with
  | one a b ha hb hab => exact .more i a b h1 hk hb hab
  | more a b c _ hb hc hbc ih => exact .more i b c (ih h1 hk) hb hc hbc
theorem Ch.symm {w : Web} {S : Nat → Prop} {i j : Nat} (h : Ch w S i j) : Ch w S j i := by
  induction h with
  | one i j h1 h2 h3 => exact .one j i h2 h1 (by rw [w.sym]; exact h3)
  | more i k j hik hk hj ha ih => exact (Ch.one j k hj hik.lt.2 (by rw [w.sym]; exact ha)).join hk ih
/-- a call makes its person an inner one -/
theorem ch_call {w : Web} {c : Nat} (hc : c < w.n) {S : Nat → Prop} {i j : Nat} : Ch (callW w c) S i j → Ch w (fun k => S k ∨ k = c) i j := fun h => by
  induction h with
  | one i j hi hj ha =>
    rcases (callW_adj (w := w) (p := c) hi hj).mp ha with h | ⟨_, h1, h2⟩
    · exact .one i j hi hj h
    · exact .more i c j (.one i c hi hc (by rw [w.sym]; exact h1)) (.inr rfl) hj h2
  | more i k j hik hk hj ha ih =>
    have hkn := hik.lt.2
    rcases (callW_adj (w := w) (p := c) hkn hj).mp ha with h | ⟨_, h1, h2⟩
    · exact .more i k j ih (.inl hk) hj h
    · exact .more i c j (.more i k c ih (.inl hk) hc (by rw [w.sym]; exact h1)) (.inr rfl) hj h2
theorem call_ch {w : Web} {c : Nat} (hc : c < w.n) {S : Nat → Prop} {i j : Nat} (h : Ch w (fun k => S k ∨ k = c) i j) : i = j ∨ Ch (callW w c) S i j := by
  have old : ∀ {a b : Nat}, a < w.n → b < w.n → w.adj a b = true → (callW w c).adj a b = true := fun ha hb h => (callW_adj ha hb).mpr (.inl h)
  have back : ∀ {a : Nat}, a < w.n → (callW w c).adj a c = true → w.adj c a = true := fun ha h => by
    rcases (callW_adj (w := w) (p := c) ha hc).mp h with h | ⟨_, _, h⟩
    · rw [w.sym]; exact h
    · rw [w.irr] at h; cases h
  induction h with
  | one i j hi hj ha => exact .inr (.one i j hi hj (old hi hj ha))
  | more i k j hik hk hj ha ih =>
    have hin := hik.lt.1
    have hkn := hik.lt.2
    by_cases hkc : k = c
    · subst hkc
      rcases ih with rfl | hc'
      · exact .inr (.one i j hin hj (old hin hj ha))
      · cases hc' with
        | one _ _ h1 h2 h3 =>
          have hb := back hin h3
          by_cases hij : i = j
          · exact .inl hij
          · exact .inr (.one i j hin hj ((callW_adj (w := w) (p := k) hin hj).mpr (.inr ⟨hij, hb, ha⟩)))
        | more _ m _ him hm _ h3 =>
          have hmn := him.lt.2
          have hb := back hmn h3
          by_cases hmj : m = j
          · subst hmj; exact .inr him
          · exact .inr (.more i m j him hm hj ((callW_adj (w := w) (p := k) hmn hj).mpr (.inr ⟨hmj, hb, ha⟩)))
    · have hs : S k := hk.resolve_right hkc
      rcases ih with rfl | hc'
      · exact .inr (.one i j hin hj (old hin hj ha))
      · exact .inr (.more i k j hc' hs hj (old hkn hj ha))
/-- a row of calls: friends are those with a chain by its people -/
theorem stw_adj : ∀ (cs : List Nat) (w : Web), (∀ c ∈ cs, c < w.n) → ∀ i j, i < w.n → j < w.n → ((stw w cs).adj i j = true ↔ i ≠ j ∧ Ch w (· ∈ cs) i j)
  | [], w, _, i, j, hi, hj => by
    constructor
    · intro h
      refine ⟨fun e => ?_, .one i j hi hj h⟩
      subst e
      have h : w.adj i i = true := h
      rw [w.irr] at h; cases h
    · rintro ⟨_, h⟩
      exact (h.mono (S' := fun _ => False) (fun k hk => by simp at hk)).none
  | c :: cs, w, hc, i, j, hi, hj => by
    have hcn := hc c List.mem_cons_self
    have ih := stw_adj cs (callW w c) (fun d hd => hc d (List.mem_cons_of_mem _ hd)) i j hi hj
    have e : (stw w (c :: cs)) = stw (callW w c) cs := rfl
    rw [e, ih]
    constructor
    · rintro ⟨h1, h2⟩
      exact ⟨h1, (ch_call hcn h2).mono fun k hk => hk.elim (List.mem_cons_of_mem _) fun h => by subst h; exact List.mem_cons_self⟩
    · rintro ⟨h1, h2⟩
      refine ⟨h1, (call_ch hcn (S := (· ∈ cs)) (h2.mono fun k hk => ?_)).resolve_left h1⟩
      rcases List.mem_cons.mp hk with h | h
      · exact .inr h
      · exact .inl h
theorem nb_eq {a b : Web} (hn : a.n = b.n) (h : ∀ i j, i < a.n → j < a.n → (a.adj i j = true ↔ b.adj i j = true)) {i : Nat} (hi : i < a.n) : nb a i = nb b i := by
  rw [nb, nb, hn]
  refine List.filter_congr fun j hj => ?_
  rw [Bool.eq_iff_iff]
  exact h i j hi (by rw [hn]; exact List.mem_range.mp hj)
theorem toD_eq {a b : Web} (hn : a.n = b.n) (h : ∀ i j, i < a.n → j < a.n → (a.adj i j = true ↔ b.adj i j = true)) : toD a = toD b := by
  rw [toD, toD, ← hn]
  congr 1
  exact List.map_congr_left fun i hi => by rw [rowD, rowD, nb_eq hn h (List.mem_range.mp hi)]
/-- what is told depends on who is called alone -/
theorem stw_same {w : Web} {cs ds : List Nat} (hc : ∀ c ∈ cs, c < w.n) (hd : ∀ c ∈ ds, c < w.n) (h : ∀ k, k ∈ cs ↔ k ∈ ds) : toD (stw w cs) = toD (stw w ds) := by
  refine toD_eq (by rw [stw_n, stw_n]) fun i j hi hj => ?_
  rw [stw_n] at hi hj
  rw [stw_adj cs w hc i j hi hj, stw_adj ds w hd i j hi hj]
  have e : ((· ∈ cs) : Nat → Prop) = (· ∈ ds) := funext fun k => propext (h k)
  rw [e]
end Ev.Z
set_option autoImplicit true
set_option linter.all false
set_option maxRecDepth 100000
/-! chain_ends, told_in, told; need_people. -/
namespace Ev.Z
open PySem
def bd_chain_ends : List MS := [(.par [3, 4] [(.lst [(.var 2)]), (.lst [(.var 2)])]), (.wh (.cmp .ne (.var 4) (.lst [])) [(.asg (.nm 5) (.pop 4)), (.for (.nm 6) (.seq (.ix (.var 0) (.var 5))) [(.ite (.cmp .notin (.var 6) (.var 3)) [(.app 3 (.var 6)), (.ite (.cmp .isin (.var 6) (.var 1)) [(.app 4 (.var 6))] [])] [])])]), (.ret (.var 3))]
/-- what holds between the turns of the search -/
structure Sea (w : Web) (S : Nat → Bool) (p : Nat) (found last : List Nat) : Prop where
  nd : found.Nodup
  me : p ∈ found
  fd : ∀ k ∈ found, k < w.n ∧ (k = p ∨ Ch w (fun x => S x = true) p k)
  ls : ∀ k ∈ last, k ∈ found ∧ (k = p ∨ S k = true)
  dn : ∀ k ∈ found, (k = p ∨ S k = true) → k ∈ last ∨ ∀ j, j < w.n → w.adj k j = true → j ∈ found
theorem Sea.fin {w : Web} {S : Nat → Bool} {p : Nat} {found : List Nat} (h : Sea w S p found []) (hp : p < w.n) (j : Nat) : j ∈ found ↔ j = p ∨ Ch w (fun x => S x = true) p j := by
  constructor
  · intro hj; exact (h.fd j hj).2
  · rintro (rfl | hc)
    · exact h.me
    · have key : ∀ {i j : Nat}, Ch w (fun x => S x = true) i j → i = p → j ∈ found := by
        intro i j hc
        induction hc with
        | one i j hi hj ha =>
          rintro rfl
          rcases h.dn i h.me (.inl rfl) with q | q
          · exact absurd q List.not_mem_nil
          · exact q j hj ha
        | more i k j _ hk hj ha ih =>
          intro hip
          rcases h.dn k (ih hip) (.inr hk) with q | q
          · exact absurd q List.not_mem_nil
          · exact q j hj ha
      exact key hc rfl
theorem nodup_len {n : Nat} {l : List Nat} (hn : l.Nodup) (h : ∀ k ∈ l, k < n) : l.length ≤ n := by
  have hp : l.Perm ((List.range n).filter fun k => decide (k ∈ l)) := (List.perm_ext_iff_of_nodup hn (List.Pairwise.filter _ List.nodup_range)).mpr fun k => by
    simp only [List.mem_filter, List.mem_range, decide_eq_true_eq]
    exact ⟨fun hk => ⟨h k hk, hk⟩, fun hk => hk.2⟩
  rw [hp.length_eq]
  exact len_filter_range n _
section
variable {cf : Nat → List R → Option (R × List (Option R))}
theorem pop_ok {O : Orc} {env : Env} {i k : Nat} {last : List Nat} (hg : gt env i = L ((last ++ [k]).map nI)) : ev O (.pop i) env = some (.tm (vR (nI k)), st env i (L (last.map nI))) := by
  rw [q_ev_pop, hg]
  have e : vals ((last ++ [k]).map nI) = .lst (last.map (fun x => vR (nI x)) ++ [vR (nI k)]) := by simp [vals]
  simp only [L, e, List.getLast?_append, List.getLast?_singleton, Option.some_or, List.dropLast_concat]
  have e2 : vals (last.map nI) = .lst (last.map fun x => vR (nI x)) := by simp [vals]
  rw [e2]
theorem E.popa {O : Orc} {env : Env} {i j k : Nat} {last : List Nat} (hg : gt env i = L ((last ++ [k]).map nI)) (hj : notLk (gt (st env i (L (last.map nI))) j) = true) : X O (.asg (.nm j) (.pop i)) env .nx (st (st env i (L (last.map nI))) j (V (nI k))) := asg_to (pop_ok hg) hj
abbrev e7 (w : Web) (ds : List Nat) (p : Nat) (F Lx : List Nat) (s5 s6 : Sl) : Env := [V (toD w), V (.tuple (ds.map nI)), V (nI p), L (F.map nI), L (Lx.map nI), s5, s6]
/-- what holds while the friends of k are looked at -/
structure Sub (w : Web) (ds : List Nat) (p k : Nat) (found last pre F Lx : List Nat) : Prop where
  nd : F.Nodup
  me : p ∈ F
  fd : ∀ x ∈ F, x < w.n ∧ (x = p ∨ Ch w (fun x => ds.contains x = true) p x)
  ls : ∀ x ∈ Lx, x ∈ F ∧ (x = p ∨ ds.contains x = true)
  dn : ∀ x ∈ F, x ≠ k → (x = p ∨ ds.contains x = true) → x ∈ Lx ∨ ∀ j, j < w.n → w.adj x j = true → j ∈ F
  pr : ∀ x ∈ pre, x ∈ F
  ms : 2 * (w.n - F.length) + Lx.length ≤ 2 * (w.n - found.length) + last.length
theorem sub_step {O : Orc} {w : Web} {ds : List Nat} {p k : Nat} {found last : List Nat} (hpn : p < w.n) (hk : k < w.n) (hkp : k = p ∨ Ch w (fun x => ds.contains x = true) p k) (hks : k = p ∨ ds.contains k = true) (h0 : Sub w ds p k found last [] found last) {s6 : Sl} (h6 : notLk s6 = true) (hll : last.length ≤ 1000) :
    ∃ (F Lx : List Nat) (u6 : Sl), X O (.for (.nm 6) (.seq (.ix (.var 0) (.var 5))) [(.ite (.cmp .notin (.var 6) (.var 3)) [(.app 3 (.var 6)), (.ite (.cmp .isin (.var 6) (.var 1)) [(.app 4 (.var 6))] [])] [])]) (e7 w ds p found last (V (nI k)) s6) .nx (e7 w ds p F Lx (V (nI k)) u6) ∧ Sub w ds p k found last (nb w k) F Lx ∧ notLk u6 = true := by
  obtain ⟨e1, g1, F, Lx, s6, rfl, h1, h2⟩ := X.forP (O := O) (tg := .nm 6) (it := .seq (.ix (.var 0) (.var 5))) (b := [(.ite (.cmp .notin (.var 6) (.var 3)) [(.app 3 (.var 6)), (.ite (.cmp .isin (.var 6) (.var 1)) [(.app 4 (.var 6))] [])] [])]) (env := e7 w ds p found last (V (nI k)) s6) (env1 := e7 w ds p found last (V (nI k)) s6) (xs := nb w k) (f := nI)
    (fun pre e => ∃ F Lx s6, e = e7 w ds p F Lx (V (nI k)) s6 ∧ Sub w ds p k found last pre F Lx ∧ notLk s6 = true) (I.seq (E.ixw (.var rfl) (.var rfl) hk) rfl) ⟨found, last, s6, rfl, h0, h6⟩ fun pre x e hx hpre hI => by
      obtain ⟨F, Lx, s6, rfl, h, h6⟩ := hI
      have hx' := mem_nb.mp hx
      have hFn := nodup_len h.nd fun y hy => (h.fd y hy).1
      have h8 := w.le
      have hLn : Lx.length ≤ 2 * w.n + last.length := by have := h.ms; omega
      have hcmp : W O (.cmp .notin (.var 6) (.var 3)) (e7 w ds p F Lx (V (nI k)) (V (nI x))) (.bool (!F.contains x)) := (E.cmp (.var rfl) (.vals rfl) (cmp_notin (in_natl _ _))).wv
      cases hFx : F.contains x
      · have hxF : x ∉ F := by rw [← List.contains_iff_mem, hFx]; exact Bool.false_ne_true
        have nd' : (F ++ [x]).Nodup := by
          rw [List.nodup_append]
          refine ⟨h.nd, by simp, fun a ha b hb e => ?_⟩
          rw [List.mem_singleton] at hb
          subst hb; subst e; exact hxF ha
        have chx : Ch w (fun x => ds.contains x = true) p x := by
          rcases hks with rfl | hs
          · exact .one k x hk hx'.1 hx'.2
          · rcases hkp with rfl | hc
            · exact .one k x hk hx'.1 hx'.2
            · exact .more p k x hc hs hx'.1 hx'.2
        have fd' : ∀ y ∈ F ++ [x], y < w.n ∧ (y = p ∨ Ch w (fun x => ds.contains x = true) p y) := fun y hy => by
          rcases List.mem_append.mp hy with hy | hy
          · exact h.fd y hy
          · rw [List.mem_singleton] at hy
            subst hy; exact ⟨hx'.1, .inr chx⟩
        have hFn' := nodup_len nd' fun y hy => (fd' y hy).1
        rw [List.length_append, List.length_singleton] at hFn'
        have hxp : x ≠ p := fun e => hxF (e ▸ h.me)
        have ap1 := X.appv (O := O) (env := e7 w ds p F Lx (V (nI k)) (V (nI x))) (i := 3) (e := .var 6) (d := nI x) rfl (.var rfl) (by rw [List.length_map]; omega)
        have em : F.map nI ++ [nI x] = (F ++ [x]).map nI := by rw [List.map_append]; rfl
        rw [em] at ap1
        have hcmp2 : W O (.cmp .isin (.var 6) (.var 1)) (e7 w ds p (F ++ [x]) Lx (V (nI k)) (V (nI x))) (.bool (ds.contains x)) := (E.cmp (.var rfl) (.var rfl) (in_nat _ _)).wv
        have clo : ∀ y, y ∈ F → (∀ j, j < w.n → w.adj y j = true → j ∈ F) → ∀ j, j < w.n → w.adj y j = true → j ∈ F ++ [x] := fun y _ hc j hj ha => List.mem_append_left _ (hc j hj ha)
        cases hdx : ds.contains x
        · refine ⟨_, e7 w ds p (F ++ [x]) Lx (V (nI k)) (V (nI x)), bindT_nm h6, .last (.iteT (hcmp.to (by rw [hFx]; rfl)) (.nx ap1 (.last (.skip (hcmp2.to (by rw [hdx])))))), F ++ [x], Lx, V (nI x), rfl, ⟨nd', List.mem_append_left _ h.me, fd', fun y hy => ⟨List.mem_append_left _ (h.ls y hy).1, (h.ls y hy).2⟩, fun y hy hyk hys => ?_, fun y hy => ?_, ?_⟩, rfl⟩
          · rcases List.mem_append.mp hy with hy | hy
            · exact (h.dn y hy hyk hys).imp id (clo y hy)
            · rw [List.mem_singleton] at hy
              subst hy
              rcases hys with e | e
              · exact absurd e hxp
              · rw [hdx] at e; cases e
          · rcases List.mem_append.mp hy with hy | hy
            · exact List.mem_append_left _ (h.pr y hy)
            · exact List.mem_append_right _ hy
          · have := h.ms
            rw [List.length_append, List.length_singleton]; omega
        · have ap2 := X.appv (O := O) (env := e7 w ds p (F ++ [x]) Lx (V (nI k)) (V (nI x))) (i := 4) (e := .var 6) (d := nI x) rfl (.var rfl) (by rw [List.length_map]; omega)
          have em2 : Lx.map nI ++ [nI x] = (Lx ++ [x]).map nI := by rw [List.map_append]; rfl
          rw [em2] at ap2
          refine ⟨_, e7 w ds p (F ++ [x]) (Lx ++ [x]) (V (nI k)) (V (nI x)), bindT_nm h6, .last (.iteT (hcmp.to (by rw [hFx]; rfl)) (.nx ap1 (.last (.iteT (hcmp2.to (by rw [hdx])) (.last ap2))))), F ++ [x], Lx ++ [x], V (nI x), rfl, ⟨nd', List.mem_append_left _ h.me, fd', fun y hy => ?_, fun y hy hyk hys => ?_, fun y hy => ?_, ?_⟩, rfl⟩
          · rcases List.mem_append.mp hy with hy | hy
            · exact ⟨List.mem_append_left _ (h.ls y hy).1, (h.ls y hy).2⟩
            · refine ⟨List.mem_append_right _ hy, .inr ?_⟩
              rw [List.mem_singleton] at hy
              subst hy; exact hdx
          · rcases List.mem_append.mp hy with hy | hy
            · exact (h.dn y hy hyk hys).imp (List.mem_append_left _) (clo y hy)
            · exact .inl (List.mem_append_right _ hy)
          · rcases List.mem_append.mp hy with hy | hy
            · exact List.mem_append_left _ (h.pr y hy)
            · exact List.mem_append_right _ hy
          · have := h.ms
            rw [List.length_append, List.length_append, List.length_singleton]; omega
      · have hxF : x ∈ F := by rw [← List.contains_iff_mem]; exact hFx
        refine ⟨_, e7 w ds p F Lx (V (nI k)) (V (nI x)), bindT_nm h6, .last (.skip (hcmp.to (by rw [hFx]; rfl))), F, Lx, V (nI x), rfl, ⟨h.nd, h.me, h.fd, h.ls, h.dn, fun y hy => ?_, h.ms⟩, rfl⟩
        rcases List.mem_append.mp hy with hy | hy
        · exact h.pr y hy
        · rw [List.mem_singleton] at hy
          subst hy; exact hxF
  exact ⟨F, Lx, s6, g1, h1, h2⟩
theorem ends_loop {w : Web} {ds : List Nat} {p : Nat} (hpn : p < w.n) : ∀ (m : Nat) (found last : List Nat) (s5 s6 : Sl), Sea w (fun x => ds.contains x) p found last → notLk s5 = true → notLk s6 = true → m ≤ 900 → 2 * (w.n - found.length) + last.length ≤ m →
    ∃ (F : List Nat) (v5 v6 : Sl), turns (fun e => (ev ⟨cf, Ev.loop⟩ (.cmp .ne (.var 4) (.lst [])) e).bind fun x => (view x.1 x.2).bind fun p => (asB p.1).bind fun k => some (k, p.2))
      (fun e => exs ⟨cf, Ev.loop⟩ [(.asg (.nm 5) (.pop 4)), (.for (.nm 6) (.seq (.ix (.var 0) (.var 5))) [(.ite (.cmp .notin (.var 6) (.var 3)) [(.app 3 (.var 6)), (.ite (.cmp .isin (.var 6) (.var 1)) [(.app 4 (.var 6))] [])] [])])] e) (m + 1) (e7 w ds p found last s5 s6) = some (.nx, e7 w ds p F [] v5 v6) ∧ Sea w (fun x => ds.contains x) p F []
  | m, found, last, s5, s6, h, h5, h6, hl, hm => by
    have hcmp : W ⟨cf, Ev.loop⟩ (.cmp .ne (.var 4) (.lst [])) (e7 w ds p found last s5 s6) (.bool (!last.isEmpty)) := (E.cmp (.vals rfl) nil_L.wl ne_nil).wv
    obtain ⟨o, q1, q2⟩ := hcmp
    rcases List.eq_nil_or_concat last with rfl | ⟨last', k, rfl⟩
    · refine ⟨found, s5, s6, ?_, h⟩
      simp only [turns, q1, Option.bind_some, q2, asB]
      rfl
    · rw [List.concat_eq_append] at *
      have hlen : (last' ++ [k]).length = last'.length + 1 := by rw [List.length_append, List.length_singleton]
      rw [hlen] at hm
      obtain ⟨m', rfl⟩ : ∃ m', m = m' + 1 := ⟨m - 1, by omega⟩
      have hk := h.ls k (List.mem_append_right _ List.mem_cons_self)
      have hkf := h.fd k hk.1
      have s0 : Sub w ds p k found last' [] found last' := ⟨h.nd, h.me, h.fd, fun x hx => h.ls x (List.mem_append_left _ hx), fun x hx hxk hxs => (h.dn x hx hxs).imp (fun q => (List.mem_append.mp q).resolve_right fun q => hxk (List.mem_singleton.mp q)) id, by simp, Nat.le_refl _⟩
      obtain ⟨F, Lx, u6, g1, g2, g3⟩ := sub_step (O := ⟨cf, Ev.loop⟩) hpn hkf.1 hkf.2 hk.2 s0 h6 (by omega)
      have hF : found.length ≤ F.length ∨ True := .inr trivial
      have sea : Sea w (fun x => ds.contains x) p F Lx := ⟨g2.nd, g2.me, g2.fd, g2.ls, fun x hx hxs => by
        by_cases hxk : x = k
        · subst hxk
          exact .inr fun j hj ha => g2.pr j (mem_nb.mpr ⟨hj, ha⟩)
        · exact g2.dn x hx hxk hxs⟩
      have hms := g2.ms
      obtain ⟨F2, v5, v6, t1, t2⟩ := ends_loop hpn m' F Lx (V (nI k)) u6 sea rfl g3 (by omega) (by omega)
      refine ⟨F2, v5, v6, ?_, t2⟩
      have hpop := E.popa (O := ⟨cf, Ev.loop⟩) (env := e7 w ds p found (last' ++ [k]) s5 s6) (i := 4) (j := 5) (k := k) (last := last') rfl h5
      have hx : Xs ⟨cf, Ev.loop⟩ [(.asg (.nm 5) (.pop 4)), (.for (.nm 6) (.seq (.ix (.var 0) (.var 5))) [(.ite (.cmp .notin (.var 6) (.var 3)) [(.app 3 (.var 6)), (.ite (.cmp .isin (.var 6) (.var 1)) [(.app 4 (.var 6))] [])] [])])] (e7 w ds p found (last' ++ [k]) s5 s6) .nx (e7 w ds p F Lx (V (nI k)) u6) := .nx hpop (.last g1)
      unfold Xs at hx
      have hne : (!(last' ++ [k]).isEmpty) = true := by cases last' <;> rfl
      rw [turns, q1, Option.bind_some, q2, Option.bind_some]
      simp only [hne, asB, Option.bind_some, if_true, hx]
      exact t1
abbrev HEnds (cf : Nat → List R → Option (R × List (Option R))) (f : Nat) : Prop := ∀ (w : Web) (ds : List Nat) (p : Nat), p < w.n → ∃ F : List Nat, F.Nodup ∧ (∀ j, j ∈ F ↔ j = p ∨ Ch w (· ∈ ds) p j) ∧ Cl cf f [vR (toD w), vR (.tuple (ds.map nI)), vR (nI p)] (vals (F.map nI))
theorem b_chain_ends (w : Web) (ds : List Nat) (p : Nat) (hp : p < w.n) : ∃ (F : List Nat) (e : Env), F.Nodup ∧ (∀ j, j ∈ F ↔ j = p ∨ Ch w (· ∈ ds) p j) ∧ Xs ⟨cf, Ev.loop⟩ bd_chain_ends [V (toD w), V (.tuple (ds.map nI)), V (nI p), .no, .no, .no, .no] (.ret (vals (F.map nI))) e := by
  have h0 : Sea w (fun x => ds.contains x) p [p] [p] := ⟨by simp, by simp, fun k hk => by
    rw [List.mem_singleton] at hk
    subst hk; exact ⟨hp, .inl rfl⟩, fun k hk => ⟨hk, .inl (List.mem_singleton.mp hk)⟩, fun k hk _ => .inl hk⟩
  obtain ⟨F, s5, s6, t1, t2⟩ := ends_loop (cf := cf) hp (2 * (w.n - 1) + 1) [p] [p] .no .no h0 rfl rfl (by have := w.le; omega) (by simp)
  refine ⟨F, _, t2.nd, fun j => ?_, .nx (.par2 (E.lst (.cons (.var rfl) .nil)) (E.lst (.cons (.var rfl) .nil)) rfl rfl) (.nx (X.wh t1) (.ret (.retl rfl)))⟩
  rw [t2.fin hp j]
  have e : (fun x => ds.contains x = true) = ((· ∈ ds) : Nat → Prop) := funext fun x => propext List.contains_iff_mem
  rw [e]
end
end Ev.Z
set_option autoImplicit true
set_option linter.all false
set_option maxRecDepth 100000
/-! told_in: the web behind a row of the called; need_people. -/
namespace Ev.Z
open PySem
def bd_told_in (f_chain_ends f_web_by : Nat) : List MS := [(.asg (.nm 2) (.lst [])), (.for (.nm 3) (.rng (.bi .len [(.var 0)])) [(.ext 2 (.lc (.tup [(.var 3), (.var 4)]) (.nm 4) (.seq (.call f_chain_ends [(.var 0), (.var 1), (.var 3)])) (some (.cmp .lt (.var 3) (.var 4))) [4]))]), (.ret (.call f_web_by [(.bi .len [(.var 0)]), (.var 2)]))]
def bd_told (f_need_web f_need_people f_told_in : Nat) : List MS := [(.exp (.call f_need_web [(.var 0)])), (.exp (.call f_need_people [(.var 0), (.var 1)])), (.ret (.call f_told_in [(.var 0), (.var 1)]))]
def bd_tell_same (f_need_web f_need_people f_told_in : Nat) : List MS := [(.exp (.call f_need_web [(.var 0)])), (.exp (.call f_need_people [(.var 0), (.var 1)])), (.exp (.call f_need_people [(.var 0), (.var 2)])), (.ret (.cmp .eq (.call f_told_in [(.var 0), (.var 1)]) (.call f_told_in [(.var 0), (.var 2)])))]
def bd_need_people (f_is_list f_is_in : Nat) : List MS := [(.asg (.nm 2) (.bi .len [(.var 0)])), (.ite (.or (.nt (.call f_is_list [(.var 1), (.cst (.int 0)), (.var 2)])) (.nt (.bi .all [(.lc (.call f_is_in [(.var 3), (.cst (.int 0)), (.bin .sub (.var 2) (.cst (.int 1)))]) (.nm 3) (.seq (.var 1)) none [3])]))) [.never] []), (.ite (.cmp .ne (.bi .list [(.var 1)]) (.bi .sset [(.var 1)])) [.never] [])]
/-- people of a web, ascending -/
structure Ppl (w : Web) (ds : List Nat) : Prop where
  lt : ∀ d ∈ ds, d < w.n
  up : ds.Pairwise (· < ·)
theorem Ppl.len {w : Web} {ds : List Nat} (h : Ppl w ds) : ds.length ≤ w.n := nodup_len (h.up.imp fun h => by omega) h.lt
abbrev HPpl (cf : Nat → List R → Option (R × List (Option R))) (f : Nat) : Prop := ∀ (w : Web) (ds : List Nat), Ppl w ds → Cl cf f [vR (toD w), vR (.tuple (ds.map nI))] (vR .none)
abbrev HTold (cf : Nat → List R → Option (R × List (Option R))) (f : Nat) : Prop := ∀ (w : Web) (ds : List Nat), (∀ d ∈ ds, d < w.n) → Cl cf f [vR (toD w), vR (.tuple (ds.map nI))] (vR (toD (stw w ds)))
section
variable {cf : Nat → List R → Option (R × List (Option R))} {wh : WhT}
theorem b_need_people {f g : Nat} (hl : HList cf f) (hi : HIn cf g) (w : Web) (ds : List Nat) (h : Ppl w ds) : Xs ⟨cf, wh⟩ (bd_need_people f g) [V (toD w), V (.tuple (ds.map nI)), .no, .no] .nx [V (toD w), V (.tuple (ds.map nI)), V (nI w.n), .no] := by
  have h8 := w.le
  have hlen := h.len
  refine .nx (.asg (E.lenw (.var rfl)) rfl) (.nx (.skip ((E.or (x := false) (y := false) ((E.nt (E.cl (.cons (.var rfl) (.cons .cst (.cons (.var rfl) .nil))) (hl _ 0 _)).wv).wv.to ?_) fun _ => (E.nt ((E.bi1 (E.lc (xs := ds) (f := nI) (h := fun x => vR (.bool true)) (I.seq (.var rfl) rfl) rfl (by omega) ?_).wm (all_map _ _)).wv)).to ?_).wv)) (.nx (.skip ((E.cmp (E.bi1 (.var rfl) rfl).wl (E.bi1 (.var rfl) (sset_nat h.up (by omega))).wl (cmp_ne (sh_lst (sh_ints (k := 0) _)) (sh_lst (sh_ints (k := 0) _)))).wv.to ?_)) .nil))
  · simp only [List.length_map]
    have h4 : (ds.length : Int) ≤ (w.n : Int) := by omega
    have h5 : (0 : Int) ≤ (ds.length : Int) := by omega
    simp only [h4, h5, decide_true, Bool.and_self, Bool.not_true]
  · intro x hx
    have h6 := h.lt x hx
    refine (E.cl (.cons (.var rfl) (.cons .cst (.cons (E.bin (.var rfl) .cst rfl) .nil))) (hi x 0 _)).to ?_
    have h4 : (x : Int) ≤ (w.n : Int) - 1 := by omega
    have h5 : (0 : Int) ≤ (x : Int) := by omega
    simp only [h4, h5, decide_true, Bool.and_self]
  · simp
  · rw [eqv_self _ (sh_lst (sh_ints (k := 0) _)).1]; rfl
theorem b_told_in {f g : Nat} (he : HEnds cf f) (hb : HBy6 cf g) (w : Web) (ds : List Nat) (hd : ∀ d ∈ ds, d < w.n) : ∃ e, Xs ⟨cf, wh⟩ (bd_told_in f g) [V (toD w), V (.tuple (ds.map nI)), .no, .no, .no] (.ret (vR (toD (stw w ds)))) e := by
  have h8 := w.le
  obtain ⟨e1, g1, cs, s3, rfl, hcs, hlen, _⟩ := X.for (O := ⟨cf, wh⟩) (tg := .nm 3) (it := .rng (.bi .len [(.var 0)])) (b := [(.ext 2 (.lc (.tup [(.var 3), (.var 4)]) (.nm 4) (.seq (.call f [(.var 0), (.var 1), (.var 3)])) (some (.cmp .lt (.var 3) (.var 4))) [4]))])
    (env := [V (toD w), V (.tuple (ds.map nI)), L [], .no, .no]) (env1 := [V (toD w), V (.tuple (ds.map nI)), L [], .no, .no]) (xs := List.range w.n) (f := nI)
    (fun k e => ∃ (cs : List (Nat × Nat)) (s3 : Sl), e = [V (toD w), V (.tuple (ds.map nI)), L (cs.map cp), s3, .no] ∧ (∀ a b, (a, b) ∈ cs ↔ a < k ∧ a < b ∧ Ch w (· ∈ ds) a b) ∧ cs.length ≤ ((List.range k).map fun i => w.n - 1 - i).sum ∧ notLk s3 = true)
    (I.rng (E.lenw (.var rfl)).wv (by omega)) ⟨[], .no, rfl, by simp, by simp, rfl⟩ fun i k e hk hI => by
      obtain ⟨cs, s3, rfl, hcs, hlen, h3⟩ := hI
      have hlt := (List.getElem?_eq_some_iff.mp hk).1
      rw [List.length_range] at hlt
      obtain rfl : i = k := by simpa [hlt] using hk
      obtain ⟨F, hnd, hF, hcl⟩ := he w ds i hlt
      have hFn : ∀ j ∈ F, j < w.n := fun j hj => by
        rcases (hF j).mp hj with rfl | h
        · exact hlt
        · exact h.lt.2
      have hFl := nodup_len hnd hFn
      have hlc := E.lcFv (O := ⟨cf, wh⟩) (env := [V (toD w), V (.tuple (ds.map nI)), L (cs.map cp), V (nI i), .no]) (i := 4) (elt := .tup [(.var 3), (.var 4)]) (it := .seq (.call f [(.var 0), (.var 1), (.var 3)])) (cnd := .cmp .lt (.var 3) (.var 4)) (xs := F) (f := nI) (g := fun j => cp (i, j)) (c := fun j => decide (i < j))
        (I.seql (E.cl (.cons (.var rfl) (.cons (.var rfl) (.cons (.var rfl) .nil))) hcl)) rfl (by omega) (fun j hj => (E.cmp (.var rfl) (.var rfl) (lt_nat i j)).wv) fun j hj hc => E.tup2 (.var rfl) (.var rfl)
      have e : (F.filter fun j => decide (i < j)).map (fun j => cp (i, j)) = ((F.filter fun j => decide (i < j)).map fun j => (i, j)).map cp := by rw [List.map_map]; rfl
      rw [e] at hlc
      have hnew : (F.filter fun j => decide (i < j)).length ≤ w.n - 1 - i := by
        have hp : (F.filter fun j => decide (i < j)).Perm (((List.range w.n).filter fun j => decide (j ∈ F)).filter fun j => decide (i < j)) := by
          refine (List.perm_ext_iff_of_nodup (List.Pairwise.filter _ hnd) (List.Pairwise.filter _ (List.Pairwise.filter _ List.nodup_range))).mpr fun j => ?_
          simp only [List.mem_filter, List.mem_range, decide_eq_true_eq]
          exact ⟨fun h => ⟨⟨hFn j h.1, h.1⟩, h.2⟩, fun h => ⟨h.1.2, h.2⟩⟩
        rw [hp.length_eq]
        exact above_len _ _ _
      have hsum : ((List.range (i + 1)).map fun i => w.n - 1 - i).sum = ((List.range i).map fun i => w.n - 1 - i).sum + (w.n - 1 - i) := by
        rw [List.range_succ, List.map_append, List.sum_append]; simp
      have hb28 : ((List.range i).map fun i => w.n - 1 - i).sum ≤ 64 := by
        have : ∀ l : List Nat, (l.map fun i => w.n - 1 - i).sum ≤ l.length * 8 := fun l => by
          induction l with
          | nil => simp
          | cons a l ih => simp only [List.map_cons, List.sum_cons, List.length_cons]; omega
        have := this (List.range i)
        rw [List.length_range] at this
        omega
      have hx := X.extv (O := ⟨cf, wh⟩) (env := [V (toD w), V (.tuple (ds.map nI)), L (cs.map cp), V (nI i), .no]) (i := 2) rfl hlc (by simp only [List.length_map]; omega)
      rw [← List.map_append] at hx
      refine ⟨_, _, bindT_nm h3, .last hx, _, V (nI i), rfl, fun a b => ?_, ?_, rfl⟩
      · rw [List.mem_append, hcs]
        simp only [List.mem_map, List.mem_filter, decide_eq_true_eq, Prod.mk.injEq]
        constructor
        · rintro (⟨h1, h2, h3⟩ | ⟨j, ⟨hj, hij⟩, rfl, rfl⟩)
          · exact ⟨by omega, h2, h3⟩
          · refine ⟨by omega, hij, ?_⟩
            rcases (hF j).mp hj with q | q
            · omega
            · exact q
        · rintro ⟨h1, h2, h3⟩
          by_cases ha : a < i
          · exact .inl ⟨ha, h2, h3⟩
          · obtain rfl : a = i := by omega
            exact .inr ⟨b, ⟨(hF b).mpr (.inr h3), h2⟩, rfl, rfl⟩
      · rw [List.length_append, List.length_map, hsum]
        omega
  rw [List.length_range] at hcs hlen
  have hl28 : cs.length ≤ 28 := Nat.le_trans hlen (sum28 h8)
  have good : ∀ c ∈ cs, c.1 ≠ c.2 ∧ c.1 < w.n ∧ c.2 < w.n := fun c hc => by
    obtain ⟨a, b⟩ := c
    obtain ⟨h1, h2, h3⟩ := (hcs a b).mp hc
    exact ⟨by simp only; omega, h1, h3.lt.2⟩
  obtain ⟨outs, hcall⟩ := hb w.n cs w.pos h8 good (by omega)
  have hweb : toD (webOf w.n cs w.pos h8 good) = toD (stw w ds) := by
    refine toD_eq (by rw [stw_n]; rfl) fun i j hi hj => ?_
    have hi : i < w.n := hi
    have hj : j < w.n := hj
    rw [stw_adj ds w hd i j hi hj]
    simp only [webOf, Bool.or_eq_true, List.contains_iff_mem, hcs]
    constructor
    · rintro (⟨_, h2, h3⟩ | ⟨_, h2, h3⟩)
      · exact ⟨by omega, h3⟩
      · exact ⟨by omega, h3.symm⟩
    · rintro ⟨h1, h2⟩
      rcases Nat.lt_or_gt_of_ne h1 with q | q
      · exact .inl ⟨hi, q, h2⟩
      · exact .inr ⟨hj, q, h2.symm⟩
  rw [hweb] at hcall
  have hv : ev ⟨cf, wh⟩ (.var 2) [V (toD w), V (.tuple (ds.map nI)), L (cs.map cp), s3, .no] = some (.vr 2, [V (toD w), V (.tuple (ds.map nI)), L (cs.map cp), s3, .no]) := by rw [q_ev_var]; rfl
  have hn : ev ⟨cf, wh⟩ (.bi .len [.var 0]) [V (toD w), V (.tuple (ds.map nI)), L (cs.map cp), s3, .no] = some (.tm (vR (nI w.n)), [V (toD w), V (.tuple (ds.map nI)), L (cs.map cp), s3, .no]) := E.lenw (.var rfl)
  have key : ∃ e, ev ⟨cf, wh⟩ (.call g [(.bi .len [.var 0]), (.var 2)]) [V (toD w), V (.tuple (ds.map nI)), L (cs.map cp), s3, .no] = some (.tm (vR (toD (stw w ds))), e) := by
    rw [q_ev_call, q_evs_ees, hn, Option.bind_some]
    simp only [q_evs_ees, hv, Option.bind_some, q_evs_nil, owns, own, gt, st, hcall]
    cases outs with
    | nil => exact ⟨_, rfl⟩
    | cons o1 outs => cases outs <;> exact ⟨_, rfl⟩
  obtain ⟨e, key⟩ := key
  exact ⟨e, .nx (.asg nil_L rfl) (.nx g1 (.ret (ret_to key)))⟩
theorem b_told {f g h : Nat} (hw : HWeb cf f) (hp : HPpl cf g) (ht : HTold cf h) (w : Web) (ds : List Nat) (hd : Ppl w ds) : Xs ⟨cf, wh⟩ (bd_told f g h) [V (toD w), V (.tuple (ds.map nI))] (.ret (vR (toD (stw w ds)))) [V (toD w), V (.tuple (ds.map nI))] :=
  .nx (.exp (E.cl (.cons (.var rfl) .nil) (hw w))) (.nx (.exp (E.cl (.cons (.var rfl) (.cons (.var rfl) .nil)) (hp w ds hd))) (.ret (.ret (E.cl (.cons (.var rfl) (.cons (.var rfl) .nil)) (ht w ds hd.lt)))))
theorem b_tell_same {f g h : Nat} (hw : HWeb cf f) (hp : HPpl cf g) (ht : HTold cf h) (w : Web) (ds es : List Nat) (hd : Ppl w ds) (he : Ppl w es) : Xs ⟨cf, wh⟩ (bd_tell_same f g h) [V (toD w), V (.tuple (ds.map nI)), V (.tuple (es.map nI))] (.ret (vR (.bool (rows (stw w ds) == rows (stw w es))))) [V (toD w), V (.tuple (ds.map nI)), V (.tuple (es.map nI))] :=
  .nx (.exp (E.cl (.cons (.var rfl) .nil) (hw w))) (.nx (.exp (E.cl (.cons (.var rfl) (.cons (.var rfl) .nil)) (hp w ds hd))) (.nx (.exp (E.cl (.cons (.var rfl) (.cons (.var rfl) .nil)) (hp w es he))) (.ret (.ret (E.cmp (E.cl (.cons (.var rfl) (.cons (.var rfl) .nil)) (ht w ds hd.lt)).wv (E.cl (.cons (.var rfl) (.cons (.var rfl) .nil)) (ht w es he.lt)).wv (cmp_web _ _))))))
end
end Ev.Z
set_option autoImplicit false
set_option linter.all false
set_option maxRecDepth 100000
/-! What a row of calls adds: every pair once, at its call. -/
namespace Ev.Z
open PySem Ev
theorem call_mono {w : Web} {p i j : Nat} (hi : i < w.n) (hj : j < w.n) (h : w.adj i j = true) : (callW w p).adj i j = true := (callW_adj hi hj).mpr (.inl h)
theorem stw_mono : ∀ (cs : List Nat) (w : Web) (i j : Nat), i < w.n → j < w.n → w.adj i j = true → (stw w cs).adj i j = true
  | [], _, _, _, _, _, h => h
  | c :: cs, w, i, j, hi, hj, h => stw_mono cs (callW w c) i j hi hj (call_mono hi hj h)
theorem stw_app (w : Web) (cs ds : List Nat) : stw w (cs ++ ds) = stw (stw w cs) ds := by simp [stw, List.foldl_append]
theorem take_mono {w : Web} {cs : List Nat} {k m i j : Nat} (hi : i < w.n) (hj : j < w.n) (hkm : k ≤ m) (h : (stw w (cs.take k)).adj i j = true) : (stw w (cs.take m)).adj i j = true := by
  have e : cs.take m = cs.take k ++ (cs.take m).drop k := by
    have := (List.take_append_drop k (cs.take m)).symm
    rwa [List.take_take, Nat.min_eq_left hkm] at this
  rw [e, stw_app]
  exact stw_mono _ _ i j (by rw [stw_n]; exact hi) (by rw [stw_n]; exact hj) h
theorem take_mono' {w : Web} {cs : List Nat} {k i j : Nat} (hi : i < w.n) (hj : j < w.n) (h : (stw w (cs.take k)).adj i j = true) : (stw w cs).adj i j = true := by
  by_cases hk : k ≤ cs.length
  · have := take_mono (m := cs.length) hi hj hk h
    rwa [List.take_length] at this
  · rwa [List.take_of_length_le (by omega)] at h
theorem adj_sym {w : Web} {i j : Nat} (h : w.adj i j = true) : w.adj j i = true := by rw [w.sym]; exact h
theorem prs_sub {a b : Web} (hn : a.n = b.n) (h : ∀ i j, i < a.n → j < a.n → a.adj i j = true → b.adj i j = true) : (prs b).filter (fun c => (nb a c.1).contains c.2) = prs a := by
  rw [prs, List.filter_flatMap, prs, ← hn]
  refine fm_congr fun i hi => ?_
  have hi := List.mem_range.mp hi
  rw [prs1, List.filter_map, List.filter_filter, nb, List.filter_filter, prs1, nb, List.filter_filter, ← hn]
  congr 1
  refine List.filter_congr fun j hj => ?_
  have hj := List.mem_range.mp hj
  have e : (nb a i).contains j = a.adj i j := by
    rw [Bool.eq_iff_iff, List.contains_iff_mem, mem_nb]
    exact ⟨fun h => h.2, fun h => ⟨hj, h⟩⟩
  have em : j ∈ nb a i ↔ a.adj i j = true := by rw [mem_nb]; exact ⟨fun h => h.2, fun h => ⟨hj, h⟩⟩
  simp only [Function.comp]
  cases ha : a.adj i j
  · simp [em, ha]
  · rw [h i j hi hj ha]; simp [em, ha]
theorem cnt_not {α : Type} (p : α → Bool) : ∀ l : List α, (l.filter p).length + (l.filter fun x => !p x).length = l.length
  | [] => rfl
  | x :: xs => by
    have := cnt_not p xs
    cases h : p x <;> simp [h] <;> omega
theorem fresh_len {a b : Web} (hn : a.n = b.n) (h : ∀ i j, i < a.n → j < a.n → a.adj i j = true → b.adj i j = true) : (prs a).length + (fresh a b).length = (prs b).length := by
  rw [← prs_sub hn h, fresh, cnt_not]
theorem step_len (w : Web) (cs : List Nat) (k : Nat) : (prs (stw w (cs.take k))).length + (stepF w cs k).length = (prs (stw w (cs.take (k + 1)))).length :=
  fresh_len (by rw [stw_n, stw_n]) fun i j hi hj h => by
    rw [stw_n] at hi hj
    exact take_mono hi hj (Nat.le_succ k) h
theorem madeN_prs (w : Web) (cs : List Nat) : ∀ k, (prs w).length + (madeN w cs k).length = (prs (stw w (cs.take k))).length
  | 0 => rfl
  | k + 1 => by
    have h1 := madeN_prs w cs k
    have h2 := step_len w cs k
    rw [madeN_succ, List.length_append, madeK, List.length_map]
    omega
theorem made_prs (w : Web) (cs : List Nat) : (prs w).length + (made w cs).length = (prs (stw w cs)).length := by
  have := madeN_prs w cs cs.length
  rwa [List.take_length] at this
theorem made_28 (w : Web) (cs : List Nat) : (made w cs).length ≤ 28 := by
  have := made_prs w cs
  have := prs_28 (stw w cs)
  omega
/-! ### each pair once -/
theorem prs_nodup (w : Web) : (prs w).Nodup := by
  rw [prs]
  have h : ∀ l : List Nat, l.Nodup → (l.flatMap (prs1 w)).Nodup := by
    intro l
    induction l with
    | nil => intro _; exact List.nodup_nil
    | cons i l ih =>
      intro hl
      rw [List.nodup_cons] at hl
      rw [List.flatMap_cons, List.nodup_append]
      refine ⟨?_, ih hl.2, ?_⟩
      · rw [prs1, List.Nodup, List.pairwise_map]
        refine (((nb_lt w i).filter _).imp fun {x y} h e => ?_)
        injection e with _ e
        omega
      · intro c hc d hd e
        subst e
        obtain ⟨k, hk, hk2⟩ := List.mem_flatMap.mp hd
        rw [prs1, List.mem_map] at hc hk2
        obtain ⟨x, _, rfl⟩ := hc
        obtain ⟨y, _, e⟩ := hk2
        injection e with e _
        exact hl.1 (e ▸ hk)
  exact h _ List.nodup_range
theorem mem_step {w : Web} {cs : List Nat} {k : Nat} {c : Nat × Nat} : c ∈ stepF w cs k ↔ (c.1 < w.n ∧ c.2 < w.n ∧ c.1 < c.2) ∧ (stw w (cs.take k)).adj c.1 c.2 = false ∧ (stw w (cs.take (k + 1))).adj c.1 c.2 = true := by
  obtain ⟨i, j⟩ := c
  rw [stepF, fresh, List.mem_filter, mem_prs, stw_n]
  simp only [Bool.not_eq_true', ← Bool.not_eq_true, List.contains_iff_mem, mem_nb, stw_n]
  constructor
  · rintro ⟨⟨h1, h2, h3, h4⟩, h5⟩
    exact ⟨⟨h1, h2, h4⟩, fun h => h5 ⟨h2, h⟩, h3⟩
  · rintro ⟨⟨h1, h2, h4⟩, h5, h3⟩
    exact ⟨⟨h1, h2, h3, h4⟩, fun h => h5 h.2⟩
theorem first_at {w : Web} {cs : List Nat} {k i j : Nat} (hk : k < cs.length) (hi : i < w.n) (hj : j < w.n) (h0 : (stw w (cs.take k)).adj i j = false) (h1 : (stw w (cs.take (k + 1))).adj i j = true) : fstAt w cs i j = some (k + 1) := by
  rw [fstAt, List.find?_range_eq_some]
  refine ⟨?_, List.mem_range.mpr (by omega), fun m hm => ?_⟩
  · rw [List.contains_iff_mem, mem_nb, stw_n]; exact ⟨hj, h1⟩
  · rw [Bool.not_eq_true', ← Bool.not_eq_true, List.contains_iff_mem, mem_nb]
    rintro ⟨_, h⟩
    have := take_mono (k := m) (m := k) hi hj (by omega) h
    rw [h0] at this
    cases this
theorem mem_madeN {w : Web} {cs : List Nat} {n : Nat} {x : Nat × Nat × (Nat × Nat)} : x ∈ madeN w cs n ↔ x.1 < n ∧ x.2.1 = cs.getD x.1 0 ∧ x.2.2 ∈ stepF w cs x.1 := by
  rw [madeN, List.mem_flatMap]
  constructor
  · rintro ⟨k, hk, h⟩
    rw [madeK, List.mem_map] at h
    obtain ⟨c, hc, rfl⟩ := h
    exact ⟨List.mem_range.mp hk, rfl, hc⟩
  · rintro ⟨h1, h2, h3⟩
    refine ⟨x.1, List.mem_range.mpr h1, ?_⟩
    rw [madeK, List.mem_map]
    refine ⟨x.2.2, h3, ?_⟩
    rw [← h2]
theorem step_nodup (w : Web) (cs : List Nat) (k : Nat) : (stepF w cs k).Nodup := by
  rw [stepF, fresh]
  exact (prs_nodup _).filter _
theorem step_apart {w : Web} {cs : List Nat} {k m : Nat} (hkm : k < m) {c : Nat × Nat} (h : c ∈ stepF w cs k) : c ∉ stepF w cs m := by
  rw [mem_step] at h
  rw [mem_step]
  rintro ⟨_, h2, _⟩
  have := take_mono (k := k + 1) (m := m) h.1.1 h.1.2.1 (by omega) h.2.2
  rw [h2] at this
  cases this
theorem pairs_nodup (w : Web) (cs : List Nat) : ∀ n, ((madeN w cs n).map fun x => x.2.2).Nodup
  | 0 => List.nodup_nil
  | n + 1 => by
    rw [madeN_succ, List.map_append, List.nodup_append]
    have e : (madeK w cs n).map (fun x => x.2.2) = stepF w cs n := by
      rw [madeK, List.map_map]
      have : ((fun x : Nat × Nat × (Nat × Nat) => x.2.2) ∘ fun c => (n, cs.getD n 0, c)) = id := rfl
      rw [this, List.map_id]
    rw [e]
    refine ⟨pairs_nodup w cs n, step_nodup w cs n, ?_⟩
    intro c hc d hd e
    subst e
    obtain ⟨x, hx, rfl⟩ := List.mem_map.mp hc
    rw [mem_madeN] at hx
    exact step_apart hx.1 hx.2.2 hd
/-- the first turn after which a thing holds -/
theorem first_turn (P : Nat → Bool) : ∀ n, P 0 = false → P n = true → ∃ k < n, P k = false ∧ P (k + 1) = true
  | 0, h0, h1 => by rw [h0] at h1; cases h1
  | n + 1, h0, h1 => by
    cases h : P n
    · exact ⟨n, Nat.lt_succ_self n, h, h1⟩
    · obtain ⟨k, hk, h2⟩ := first_turn P n h0 h
      exact ⟨k, by omega, h2⟩
theorem mem_pairs {w : Web} {cs : List Nat} {c : Nat × Nat} : c ∈ (made w cs).map (fun x => x.2.2) ↔ (c.1 < w.n ∧ c.2 < w.n ∧ c.1 < c.2) ∧ w.adj c.1 c.2 = false ∧ (stw w cs).adj c.1 c.2 = true := by
  rw [List.mem_map]
  constructor
  · rintro ⟨x, hx, rfl⟩
    rw [mem_madeN] at hx
    obtain ⟨h1, _, h3⟩ := hx
    rw [mem_step] at h3
    refine ⟨h3.1, ?_, take_mono' h3.1.1 h3.1.2.1 h3.2.2⟩
    cases h : w.adj x.2.2.1 x.2.2.2
    · rfl
    · have := take_mono (cs := cs) (k := 0) (m := x.1) h3.1.1 h3.1.2.1 (by omega) h
      rw [h3.2.1] at this
      cases this
  · rintro ⟨h1, h2, h3⟩
    obtain ⟨k, hk, q1, q2⟩ := first_turn (fun k => (stw w (cs.take k)).adj c.1 c.2) cs.length h2 (by rw [List.take_length]; exact h3)
    exact ⟨(k, cs.getD k 0, c), mem_madeN.mpr ⟨hk, rfl, mem_step.mpr ⟨h1, q1, q2⟩⟩, rfl⟩
/-! ### sums -/
theorem countP_sum {α : Type} (f : α → Nat) (n : Nat) : ∀ l : List α, (∀ x ∈ l, f x < n) → ((List.range n).map fun p => l.countP fun x => f x == p).sum = l.length
  | [], _ => by
    have h : ∀ l : List Nat, (l.map fun _ => 0).sum = 0 := by
      intro l
      induction l with
      | nil => rfl
      | cons _ _ ih => simpa using ih
    simpa using h (List.range n)
  | x :: xs, h => by
    have ih := countP_sum f n xs fun y hy => h y (List.mem_cons_of_mem _ hy)
    have hx := h x List.mem_cons_self
    have e : ((List.range n).map fun p => (x :: xs).countP fun x => f x == p) = (List.range n).map fun p => (xs.countP fun x => f x == p) + if f x = p then 1 else 0 := by
      refine List.map_congr_left fun p _ => ?_
      rw [List.countP_cons]
      by_cases hp : f x = p <;> simp [hp]
    have one : ∀ (m : Nat) (g : Nat → Nat), ((List.range m).map fun p => g p + if f x = p then 1 else 0).sum = ((List.range m).map g).sum + if f x < m then 1 else 0 := by
      intro m g
      induction m with
      | zero => simp
      | succ m ihm =>
        rw [List.range_succ, List.map_append, List.sum_append, ihm, List.map_append, List.sum_append]
        simp only [List.map_cons, List.map_nil, List.sum_cons, List.sum_nil]
        by_cases h1 : f x < m
        · rw [if_pos h1, if_neg (by omega), if_pos (by omega)]; omega
        · by_cases h2 : f x = m
          · rw [if_neg h1, if_pos h2, if_pos (by omega)]; omega
          · rw [if_neg h1, if_neg h2, if_neg (by omega)]; omega
    rw [e, one, ih, if_pos hx, List.length_cons]
theorem cnt_sum {w : Web} {cs : List Nat} (hc : ∀ c ∈ cs, c < w.n) : ((List.range w.n).map fun p => cntP (made w cs) p).sum = (made w cs).length :=
  countP_sum _ _ _ fun x hx => (mem_made hc (Nat.le_refl _) hx).1
theorem perm_mem {α : Type} [DecidableEq α] {a b : List α} (ha : a.Nodup) (hb : b.Nodup) (h : ∀ x, x ∈ a ↔ x ∈ b) : a.Perm b := (List.perm_ext_iff_of_nodup ha hb).mpr h
end Ev.Z
set_option autoImplicit false
set_option linter.all false
set_option maxRecDepth 100000
/-! Greatest and least of a tuple of numbers; how many pairs a set holds; the hosts. -/
namespace Ev.Z
open PySem Ev
theorem maxT_fold : ∀ (xs : List Nat) (d : Nat), (xs.map nI).foldl (fun a y => if PySem.W.dataLt a y then y else a) (nI d) = nI (xs.foldl max d)
  | [], _ => rfl
  | x :: xs, d => by
    simp only [List.map_cons, List.foldl_cons, PySem.W.dataLt_int]
    by_cases h : (d : Int) < (x : Int)
    · rw [decide_eq_true h, if_pos rfl, maxT_fold xs x, Nat.max_eq_right (by omega)]
    · rw [decide_eq_false h, if_neg (by simp), maxT_fold xs d, Nat.max_eq_left (by omega)]
theorem minT_fold : ∀ (xs : List Nat) (d : Nat), (xs.map nI).foldl (fun a y => if PySem.W.dataLt y a then y else a) (nI d) = nI (xs.foldl min d)
  | [], _ => rfl
  | x :: xs, d => by
    simp only [List.map_cons, List.foldl_cons, PySem.W.dataLt_int]
    by_cases h : (x : Int) < (d : Int)
    · rw [decide_eq_true h, if_pos rfl, minT_fold xs x, Nat.min_eq_right (by omega)]
    · rw [decide_eq_false h, if_neg (by simp), minT_fold xs d, Nat.min_eq_left (by omega)]
theorem fold_max : ∀ (xs : List Nat) (d m : Nat), (∀ x ∈ d :: xs, x ≤ m) → m ∈ d :: xs → xs.foldl max d = m
  | [], d, m, _, h => by
    rw [List.mem_singleton] at h
    exact h.symm
  | x :: xs, d, m, h, hm => by
    rw [List.foldl_cons]
    have hd := h d List.mem_cons_self
    have hx := h x (List.mem_cons_of_mem _ List.mem_cons_self)
    refine fold_max xs (max d x) m (fun y hy => ?_) ?_
    · rcases List.mem_cons.mp hy with rfl | hy
      · omega
      · exact h y (List.mem_cons_of_mem _ (List.mem_cons_of_mem _ hy))
    · rcases List.mem_cons.mp hm with rfl | hm
      · rw [Nat.max_eq_left hx]; exact List.mem_cons_self
      · rcases List.mem_cons.mp hm with rfl | hm
        · rw [Nat.max_eq_right hd]; exact List.mem_cons_self
        · exact List.mem_cons_of_mem _ hm
theorem fold_min : ∀ (xs : List Nat) (d m : Nat), (∀ x ∈ d :: xs, m ≤ x) → m ∈ d :: xs → xs.foldl min d = m
  | [], d, m, _, h => by
    rw [List.mem_singleton] at h
    exact h.symm
  | x :: xs, d, m, h, hm => by
    rw [List.foldl_cons]
    have hd := h d List.mem_cons_self
    have hx := h x (List.mem_cons_of_mem _ List.mem_cons_self)
    refine fold_min xs (min d x) m (fun y hy => ?_) ?_
    · rcases List.mem_cons.mp hy with rfl | hy
      · omega
      · exact h y (List.mem_cons_of_mem _ (List.mem_cons_of_mem _ hy))
    · rcases List.mem_cons.mp hm with rfl | hm
      · rw [Nat.min_eq_left hx]; exact List.mem_cons_self
      · rcases List.mem_cons.mp hm with rfl | hm
        · rw [Nat.min_eq_right hd]; exact List.mem_cons_self
        · exact List.mem_cons_of_mem _ hm
theorem alike_nats (xs : List Nat) : allAlike (xs.map nI) = true := by simp [allAlike, PySem.W.alike]
theorem notN_nats (xs : List Nat) : (xs.map nI).all (fun x => !isN x) = true := by simp [isN]
theorem shaped_nats (xs : List Nat) : (xs.map nI).all SeqAt.shaped = true := by
  rw [List.all_eq_true]
  exact fun d hd => (sh_ints (k := 0) xs d hd).ok
theorem maxT_nat {xs : List Nat} {m : Nat} (hm : m ∈ xs) (h : ∀ x ∈ xs, x ≤ m) : biop .max [.tuple (xs.map nI)] = some (.val (nI m)) := by
  cases xs with
  | nil => cases hm
  | cons d xs =>
    have h1 := alike_nats (d :: xs)
    have h2 := notN_nats (d :: xs)
    have h3 := shaped_nats (d :: xs)
    rw [List.map_cons] at h1 h2 h3
    simp only [biop, List.map_cons, bestD, h1, h2, h3, Bool.and_self, if_true, maxT_fold, fold_max xs d m h hm, Option.map_some]
theorem minT_nat {xs : List Nat} {m : Nat} (hm : m ∈ xs) (h : ∀ x ∈ xs, m ≤ x) : biop .min [.tuple (xs.map nI)] = some (.val (nI m)) := by
  cases xs with
  | nil => cases hm
  | cons d xs =>
    have h1 := alike_nats (d :: xs)
    have h2 := notN_nats (d :: xs)
    have h3 := shaped_nats (d :: xs)
    rw [List.map_cons] at h1 h2 h3
    simp only [biop, List.map_cons, bestD, h1, h2, h3, Bool.and_self, if_true, minT_fold, fold_min xs d m h hm, Option.map_some]
theorem maxT_cnt {n m : Nat} {c : Nat → Nat} (b : Best (fun p => -(c p : Int)) n m) : biop .max [.tuple (cnts' n c)] = some (.val (nI (c m))) := by
  have e : cnts' n c = ((List.range n).map c).map nI := by rw [List.map_map]; rfl
  rw [e]
  refine maxT_nat (List.mem_map.mpr ⟨m, List.mem_range.mpr b.lt, rfl⟩) fun x hx => ?_
  obtain ⟨i, hi, rfl⟩ := List.mem_map.mp hx
  have := b.le i (List.mem_range.mp hi)
  omega
theorem sumT_int (is : List Int) : biop .sum [.tuple (is.map .int)] = some (.val (.int is.sum)) := by simp only [biop, ints_map, Option.map_some, int]
theorem nI_map (xs : List Nat) : xs.map nI = (xs.map fun x : Nat => (x : Int)).map .int := by rw [List.map_map]; rfl
theorem sum_cast : ∀ xs : List Nat, (xs.map fun x : Nat => (x : Int)).sum = (xs.sum : Nat)
  | [] => rfl
  | x :: xs => by simp only [List.map_cons, List.sum_cons, sum_cast xs]; omega
theorem sumT_nat (xs : List Nat) : biop .sum [.tuple (xs.map nI)] = some (.val (nI xs.sum)) := by rw [nI_map, sumT_int, sum_cast]
theorem sumL_nat (xs : List Nat) : biop .sum [.list (xs.map nI)] = some (.val (nI xs.sum)) := by
  rw [nI_map]
  simp only [biop, ints_map, Option.map_some, int, sum_cast]
/-! ### sets of pairs -/
theorem mem_insT {a c : List Int} : ∀ {bs : List (List Int)}, c ∈ insT a bs ↔ c = a ∨ c ∈ bs
  | [] => by simp [insT]
  | b :: bs => by
    rw [insT]
    split
    · simp
    · split
      · rename_i h; subst h; simp
      · simp only [List.mem_cons, mem_insT (bs := bs)]
        constructor
        · rintro (h | h | h)
          · exact .inr (.inl h)
          · exact .inl h
          · exact .inr (.inr h)
        · rintro (h | h | h)
          · exact .inr (.inl h)
          · exact .inl h
          · exact .inr (.inr h)
theorem mem_setT {c : List Int} : ∀ {as : List (List Int)}, c ∈ setT as ↔ c ∈ as
  | [] => by simp [setT]
  | a :: as => by rw [setT, mem_insT, mem_setT, List.mem_cons]
theorem len_insT {a : List Int} : ∀ {bs : List (List Int)}, a ∉ bs → (insT a bs).length = bs.length + 1
  | [], _ => rfl
  | b :: bs, h => by
    rw [insT]
    split
    · rfl
    · split
      · rename_i q; subst q; exact absurd List.mem_cons_self h
      · rw [List.length_cons, len_insT fun q => h (List.mem_cons_of_mem _ q), List.length_cons]
theorem len_setT : ∀ {as : List (List Int)}, as.Nodup → (setT as).length = as.length
  | [], _ => rfl
  | a :: as, h => by
    rw [List.nodup_cons] at h
    rw [setT, len_insT fun q => h.1 (mem_setT.mp q), len_setT h.2, List.length_cons]
def pI (c : Nat × Nat) : List Int := [(c.1 : Int), (c.2 : Int)]
theorem tups_cps : ∀ l : List (Nat × Nat), tupsOf (l.map cp) = some (l.map pI)
  | [] => rfl
  | c :: l => by
    have := tups_cps l
    simp only [List.map_cons, cp, tupsOf, intsOf, this, Option.bind_some, Option.map_some]
    rfl
theorem lset_cps {l : List (Nat × Nat)} (h : l.Nodup) (hl : l.length < 64) : biop .lset [.list (l.map cp)] = some (.val (nI l.length)) := by
  cases l with
  | nil => rfl
  | cons c l =>
    have e : intsOf ((c :: l).map cp) = none := rfl
    have hn : ((c :: l).map pI).Nodup := by
      rw [List.Nodup, List.pairwise_map]
      refine h.imp fun {x y} hne e => hne ?_
      injection e with e1 e2
      injection e2 with e2 _
      exact Prod.ext (by omega) (by omega)
    simp only [biop, setp, e, tups_cps, Option.bind_some, List.length_map]
    rw [if_pos hl, Option.map_some, List.length_map, len_setT hn, List.length_map]
    rfl
/-! ### common friends -/
theorem mem_com {w : Web} {i j k : Nat} : k ∈ com w i j ↔ k < w.n ∧ w.adj i k = true ∧ w.adj j k = true := by
  rw [com, List.mem_filter, mem_nb, List.contains_iff_mem, mem_nb]
  exact ⟨fun h => ⟨h.1.1, h.1.2, h.2.2⟩, fun h => ⟨⟨h.1, h.2.1⟩, h.1, h.2.2⟩⟩
theorem mem_npr {w : Web} {p : Nat} (hp : p < w.n) {c : Nat × Nat} : c ∈ npr w p ↔ (c.1 < w.n ∧ c.2 < w.n ∧ c.1 < c.2) ∧ w.adj p c.1 = true ∧ w.adj p c.2 = true ∧ w.adj c.1 c.2 = false := by
  obtain ⟨i, j⟩ := c
  rw [npr, List.mem_flatMap]
  constructor
  · rintro ⟨k, hk, h⟩
    rw [npr1, List.mem_map] at h
    obtain ⟨m, hm, e⟩ := h
    injection e with e1 e2
    subst e1 e2
    rw [List.mem_filter, mem_nb] at hm
    rw [mem_nb] at hk
    obtain ⟨h1, h2⟩ := hm
    simp only [Bool.and_eq_true, decide_eq_true_eq, Bool.not_eq_true', ← Bool.not_eq_true, List.contains_iff_mem, mem_nb] at h2
    exact ⟨⟨hk.1, h1.1, h2.1⟩, hk.2, h1.2, by simpa using fun h => h2.2 ⟨h1.1, h⟩⟩
  · rintro ⟨⟨h1, h2, h3⟩, h4, h5, h6⟩
    refine ⟨i, mem_nb.mpr ⟨h1, h4⟩, ?_⟩
    rw [npr1, List.mem_map]
    refine ⟨j, List.mem_filter.mpr ⟨mem_nb.mpr ⟨h2, h5⟩, ?_⟩, rfl⟩
    simp only [Bool.and_eq_true, decide_eq_true_eq, Bool.not_eq_true', ← Bool.not_eq_true, List.contains_iff_mem, mem_nb]
    exact ⟨h3, fun h => by rw [h6] at h; exact absurd h.2 (by simp)⟩
theorem npr_len {w : Web} {p : Nat} (hp : p < w.n) : (prs w).length + (npr w p).length = (prs (callW w p)).length := by
  have h1 := fresh_len (a := w) (b := callW w p) rfl fun i j hi hj h => call_mono hi hj h
  have e : fresh w (callW w p) = (prs (callW w p)).filter fun c => !(prs w).contains c := by
    refine List.filter_congr fun c hc => ?_
    obtain ⟨i, j⟩ := c
    have := mem_prs.mp hc
    rw [prs_has (w := w) this.1 this.2.2.2]
  rw [e, npr_eq hp] at h1
  exact h1
theorem less_npr {w : Web} {p : Nat} (hp : p < w.n) : -(less w p) = ((npr w p).length : Int) := by
  have := npr_len hp
  rw [less]
  omega
/-- a pair that the call at turn k makes -/
theorem step_npr {w : Web} {cs : List Nat} {k : Nat} (hc : ∀ c ∈ cs, c < w.n) (hk : k < cs.length) {c : Nat × Nat} (h : c ∈ stepF w cs k) : c ∈ npr (stw w (cs.take k)) (cs.getD k 0) := by
  have hp := getD_lt hc hk
  have hst : callW (stw w (cs.take k)) (cs.getD k 0) = stw w (cs.take (k + 1)) := by
    rw [List.take_succ, ← stw_snoc]
    congr 1
    simp [hk]
  have h0 := mem_step.mp h
  rw [mem_step, ← hst, callW_adj (by rw [stw_n]; exact h0.1.1) (by rw [stw_n]; exact h0.1.2.1)] at h
  rw [mem_npr (by rw [stw_n]; exact hp), stw_n]
  obtain ⟨h1, h2, h3⟩ := h
  rw [h2] at h3
  rcases h3 with h3 | h3
  · cases h3
  · exact ⟨h1, h3.2.1, h3.2.2, h2⟩
/-! ### the new friends -/
theorem newF_count (w : Web) (cs : List Nat) (p : Nat) (hp : p < w.n) : (newF w (stw w cs) p).length = ((made w cs).filter fun x => x.2.2.1 == p || x.2.2.2 == p).length := by
  have e1 : ((made w cs).filter fun x => x.2.2.1 == p || x.2.2.2 == p).length = (((made w cs).map fun x => x.2.2).filter fun c => c.1 == p || c.2 == p).length := by
    rw [List.filter_map, List.length_map]
    rfl
  have e2 : ((newF w (stw w cs) p).map fun k => if k < p then (k, p) else (p, k)).Perm (((made w cs).map fun x => x.2.2).filter fun c => c.1 == p || c.2 == p) := by
    refine perm_mem ?_ ((pairs_nodup w cs cs.length).filter _) fun c => ?_
    · rw [List.Nodup, List.pairwise_map]
      refine ((List.Pairwise.filter _ (nb_lt (stw w cs) p)).imp fun {x y} h e => ?_)
      have : ∀ a b : Nat × Nat, a = b → a.1 = b.1 ∧ a.2 = b.2 := fun a b h => by rw [h]; exact ⟨rfl, rfl⟩
      by_cases h1 : x < p <;> by_cases h2 : y < p <;> simp only [h1, h2, if_true, if_false] at e <;> have := this _ _ e <;> simp only at this <;> omega
    · rw [List.mem_filter, mem_pairs, List.mem_map]
      have mf : ∀ k, k ∈ newF w (stw w cs) p ↔ k < w.n ∧ (stw w cs).adj p k = true ∧ w.adj p k = false := fun k => by
        rw [newF, List.mem_filter, mem_nb, stw_n]
        simp only [Bool.not_eq_true', ← Bool.not_eq_true, List.contains_iff_mem, mem_nb]
        exact ⟨fun h => ⟨h.1.1, h.1.2, fun q => h.2 ⟨h.1.1, q⟩⟩, fun h => ⟨⟨h.1, h.2.1⟩, fun q => h.2.2 q.2⟩⟩
      simp only [Bool.or_eq_true, beq_iff_eq]
      constructor
      · rintro ⟨k, hk, rfl⟩
        rw [mf] at hk
        have hne : k ≠ p := fun e => by
          subst e
          have := (stw w cs).irr k
          rw [this] at hk
          exact absurd hk.2.1 (by simp)
        by_cases h1 : k < p
        · rw [if_pos h1]
          exact ⟨⟨⟨hk.1, hp, h1⟩, by rw [w.sym]; exact hk.2.2, adj_sym hk.2.1⟩, .inr rfl⟩
        · rw [if_neg h1]
          exact ⟨⟨⟨hp, hk.1, by show p < k; omega⟩, hk.2.2, hk.2.1⟩, .inl rfl⟩
      · rintro ⟨⟨⟨h1, h2, h3⟩, h4, h5⟩, h6⟩
        rcases h6 with h6 | h6
        · refine ⟨c.2, (mf _).mpr ⟨h2, ?_, ?_⟩, ?_⟩
          · rw [← h6]; exact h5
          · rw [← h6]; exact h4
          · rw [if_neg (by omega), ← h6]
        · refine ⟨c.1, (mf _).mpr ⟨h1, ?_, ?_⟩, ?_⟩
          · rw [← h6]; exact adj_sym h5
          · rw [← h6, w.sym]; exact h4
          · rw [if_pos (by omega), ← h6]
  rw [e1, ← e2.length_eq, List.length_map]
theorem newF_sort (w : Web) (cs : List Nat) (p : Nat) (hp : p < w.n) : (nb w p ++ newF w (stw w cs) p).mergeSort (fun a b => decide (a ≤ b)) = nb (stw w cs) p := by
  have e : nb (stw w cs) p = (List.range w.n).filter ((stw w cs).adj p) := by rw [nb, stw_n]
  rw [e]
  refine sort_eq ?_ fun j => ?_
  · rw [List.nodup_append]
    refine ⟨(nb_lt w p).imp fun h => by omega, ((nb_lt (stw w cs) p).imp fun h => by omega : (nb (stw w cs) p).Nodup).filter _, fun a ha b hb e => ?_⟩
    subst e
    rw [newF, List.mem_filter] at hb
    have := List.contains_iff_mem.mpr ha
    rw [this] at hb
    exact absurd hb.2 (by simp)
  · rw [List.mem_append, newF, List.mem_filter, mem_nb, mem_nb, stw_n]
    simp only [Bool.not_eq_true', ← Bool.not_eq_true, List.contains_iff_mem, mem_nb]
    constructor
    · rintro (h | h)
      · exact ⟨h.1, stw_mono cs w p j hp h.1 h.2⟩
      · exact h.1
    · rintro ⟨h1, h2⟩
      by_cases h : w.adj p j = true
      · exact .inl ⟨h1, h⟩
      · exact .inr ⟨⟨h1, h2⟩, fun q => h q.2⟩
theorem gns_sum (w : Web) (cs : List Nat) : ∀ k, ((List.range k).map fun k => ((prs (stw w (cs.take (k + 1)))).length : Int) - ((prs (stw w (cs.take k))).length : Int)).sum = ((prs (stw w (cs.take k))).length : Int) - ((prs w).length : Int)
  | 0 => by simp [stw]
  | k + 1 => by
    rw [List.range_succ, List.map_append, List.sum_append, gns_sum w cs k]
    simp only [List.map_cons, List.map_nil, List.sum_cons, List.sum_nil]
    omega
theorem sum_gns (w : Web) (cs : List Nat) : biop .sum [.tuple (gns w cs)] = some (.val (nI (made w cs).length)) := by
  have e : gns w cs = ((List.range cs.length).map fun k => ((prs (stw w (cs.take (k + 1)))).length : Int) - ((prs (stw w (cs.take k))).length : Int)).map .int := by rw [gns, List.map_map]; rfl
  have h := made_prs w cs
  rw [e, sumT_int, gns_sum, List.take_length]
  congr 3
  omega
theorem sum_cnt {w : Web} {cs : List Nat} (hc : ∀ c ∈ cs, c < w.n) : biop .sum [.tuple (cnts' w.n (cntP (made w cs)))] = some (.val (nI (made w cs).length)) := by
  have e : cnts' w.n (cntP (made w cs)) = ((List.range w.n).map fun p => cntP (made w cs) p).map nI := by rw [List.map_map]; rfl
  rw [e, sumT_nat, cnt_sum hc]
end Ev.Z
set_option autoImplicit true
set_option linter.all false
set_option maxRecDepth 100000
/-! Steps of laws: what is as it should be is passed over. -/
namespace Ev.Z
open PySem
section
variable {O : Orc} {env : Env}
theorem E.neI {a b : ME} {i : Nat} (ha : W O a env (nI i)) (hb : W O b env (nI i)) : E O (.cmp .ne a b) env (vR (.bool false)) := (E.cmp ha hb (ne_nat i i)).to (by simp)
theorem E.eqI {a b : ME} {i : Nat} (ha : W O a env (nI i)) (hb : W O b env (nI i)) : E O (.cmp .eq a b) env (vR (.bool true)) := (E.cmp ha hb (eq_nat i i)).to (by simp)
theorem E.neS {a b : ME} {p : PyData} {k : Nat} (hs : sh k p) (ha : W O a env p) (hb : W O b env p) (hk : k ≤ 64 := by decide) : E O (.cmp .ne a b) env (vR (.bool false)) := (E.cmp ha hb (cmp_ne hs hs hk hk)).to (by rw [eqv_self _ hs.1]; rfl)
theorem E.eqS {a b : ME} {p : PyData} {k : Nat} (hs : sh k p) (ha : W O a env p) (hb : W O b env p) (hk : k ≤ 64 := by decide) : E O (.cmp .eq a b) env (vR (.bool true)) := (E.cmp ha hb (cmp_eq hs hs hk hk)).to (by rw [eqv_self _ hs.1])
theorem E.ninT {a b : ME} {α : Type} [BEq α] [LawfulBEq α] {f : α → PyData} {y : α} {xs : List α} (hf : ∀ a b, (f a).eqv (f b) = (a == b)) (hs : ∀ a, sh 60 (f a)) (ha : W O a env (f y)) (hb : W O b env (.tuple (xs.map f))) (hy : y ∈ xs) : E O (.cmp .notin a b) env (vR (.bool false)) :=
  (E.cmp ha hb (cmp_notin (in_tup hf hs y xs))).to (by rw [List.contains_iff_mem.mpr hy]; rfl)
theorem E.ninN {a b : ME} {y : Nat} {xs : List Nat} (ha : W O a env (nI y)) (hb : W O b env (.tuple (xs.map nI))) (hy : y ∈ xs) : E O (.cmp .notin a b) env (vR (.bool false)) := E.ninT eqN (fun _ => sh_int _) ha hb hy
theorem E.ninC {a b : ME} {y : Nat × Nat} {xs : List (Nat × Nat)} (ha : W O a env (cp y)) (hb : W O b env (.tuple (xs.map cp))) (hy : y ∈ xs) : E O (.cmp .notin a b) env (vR (.bool false)) := E.ninT eqC (fun _ => (sh_cp (k := 0) _).mono (by decide)) ha hb hy
theorem E.or2 {a b : ME} (ha : E O a env (vR (.bool false))) (hb : E O b env (vR (.bool false))) : E O (.or a b) env (vR (.bool false)) := E.or ha.wv fun _ => hb
theorem E.an2 {a b : ME} (ha : E O a env (vR (.bool true))) (hb : E O b env (vR (.bool true))) : E O (.an a b) env (vR (.bool true)) := E.an ha.wv fun _ => hb
theorem X.ifF {a : ME} {ss : List MS} (ha : E O a env (vR (.bool false))) : X O (.ite a ss []) env .nx env := X.skip ha.wv
/-- row[:k] -/
theorem E.cutT {a b : ME} {α : Type} {f : α → PyData} {xs : List α} {k : Nat} (ha : W O a env (.tuple (xs.map f))) (hb : W O b env (nI k)) : E O (.sl a none (some b)) env (vR (.tuple ((xs.take k).map f))) := by
  obtain ⟨o, h1, h2⟩ := ha
  obtain ⟨o', h3, h4⟩ := hb
  have e : cut (xs.map f) none (some (k : Int)) = (xs.take k).map f := by
    have h : cutAt (xs.map f).length (k : Int) = min k xs.length := by
      rw [cutAt, if_pos (by omega), List.length_map]
      rfl
    simp only [cut, h, List.drop_zero, Nat.sub_zero]
    rw [List.map_take]
    rcases Nat.le_total k xs.length with h | h
    · rw [Nat.min_eq_left h]
    · rw [Nat.min_eq_right h, List.take_of_length_le (by simp), List.take_of_length_le (by simpa using h)]
  unfold E
  rw [q_ev_sl, h1, Option.bind_some, q_evO_none, Option.bind_some, q_evO_somee, h3, Option.bind_some, h4, Option.bind_some]
  simp only [Option.bind_some, h2, slop, e, nI]
theorem E.subI {a b : ME} {i j k : Nat} (ha : W O a env (nI i)) (hb : W O b env (nI j)) (h : j + k = i) : E O (.bin .sub a b) env (vR (nI k)) := (E.bin ha hb (sub_nat (by omega))).to (by congr 3; omega)
theorem E.addI {a b : ME} {i j k : Nat} (ha : W O a env (nI i)) (hb : W O b env (nI j)) (h : i + j = k) : E O (.bin .add a b) env (vR (nI k)) := (E.bin ha hb (add_nat i j)).to (by rw [h])
theorem binT {xs ys : List PyData} (h : xs.length + ys.length ≤ 10000) : binop .add (.tuple xs) (.tuple ys) = some (.val (.tuple (xs ++ ys))) := by
  simp only [binop]
  rw [if_pos (by simp only [big]; omega)]
end
end Ev.Z
set_option autoImplicit true
set_option linter.all false
set_option maxRecDepth 100000
/-! A search from a person over friends of a kind: what is found is what can be come to. -/
namespace Ev.Z
open PySem
/-- what can be come to from p by friends of a kind -/
inductive Con (w : Web) (c : Nat → Bool) (p : Nat) : Nat → Prop
  | me : Con w c p p
  | go {j k : Nat} : Con w c p j → k < w.n → w.adj j k = true → c k = true → Con w c p k
theorem Con.lt {w : Web} {c : Nat → Bool} {p j : Nat} (hp : p < w.n) (h : Con w c p j) : j < w.n := by
  cases h with
  | me => exact hp
  | go _ h _ _ => exact h
theorem Con.ok {w : Web} {c : Nat → Bool} {p j : Nat} (h : Con w c p j) : j = p ∨ c j = true := by
  cases h with
  | me => exact .inl rfl
  | go _ _ _ h => exact .inr h
theorem Con.trans {w : Web} {c : Nat → Bool} {p j k : Nat} (h : Con w c p j) (h2 : Con w c j k) : Con w c p k := by
  induction h2 with
  | me => exact h
  | go _ a b d ih => exact .go ih a b d
theorem Con.symm {w : Web} {c : Nat → Bool} {p j : Nat} (hp : p < w.n) (hc : c p = true) (h : Con w c p j) : Con w c j p := by
  induction h with
  | me => exact .me
  | @go j k h1 hk ha hck ih =>
    have hj := h1.lt hp
    have hcj : c j = true := by
      rcases h1.ok with rfl | h
      · exact hc
      · exact h
    exact (Con.go .me hj (adj_sym ha) hcj).trans ih
/-- what holds between the turns -/
structure Sch (w : Web) (c : Nat → Bool) (p : Nat) (F Lx : List Nat) : Prop where
  nd : F.Nodup
  me : p ∈ F
  fd : ∀ k ∈ F, k < w.n ∧ Con w c p k
  ls : ∀ k ∈ Lx, k ∈ F
  dn : ∀ k ∈ F, k ∈ Lx ∨ ∀ j, j < w.n → w.adj k j = true → c j = true → j ∈ F
theorem Sch.fin {w : Web} {c : Nat → Bool} {p : Nat} {F : List Nat} (h : Sch w c p F []) (j : Nat) : j ∈ F ↔ Con w c p j := by
  constructor
  · intro hj; exact (h.fd j hj).2
  · intro hc
    induction hc with
    | me => exact h.me
    | go _ hk ha hck ih =>
      rcases h.dn _ ih with q | q
      · exact absurd q List.not_mem_nil
      · exact q _ hk ha hck
structure Sch1 (w : Web) (c : Nat → Bool) (p k : Nat) (found last pre F Lx : List Nat) : Prop where
  nd : F.Nodup
  me : p ∈ F
  fd : ∀ k ∈ F, k < w.n ∧ Con w c p k
  ls : ∀ k ∈ Lx, k ∈ F
  dn : ∀ x ∈ F, x ≠ k → x ∈ Lx ∨ ∀ j, j < w.n → w.adj x j = true → c j = true → j ∈ F
  pr : ∀ x ∈ pre, c x = true → x ∈ F
  ms : 2 * (w.n - F.length) + Lx.length ≤ 2 * (w.n - found.length) + last.length
section
variable {O : Orc} {w : Web} {c : Nat → Bool} {p : Nat} {EE : List Nat → List Nat → Sl → Sl → Env} {iF iL iH iO : Nat} {it : MI} {cnd : ME}
/-- how the search's slots lie -/
structure Lie (O : Orc) (w : Web) (c : Nat → Bool) (EE : List Nat → List Nat → Sl → Sl → Env) (iF iL iH iO : Nat) (it : MI) (cnd : ME) : Prop where
  gF : ∀ F Lx a b, gt (EE F Lx a b) iF = L (F.map nI)
  gL : ∀ F Lx a b, gt (EE F Lx a b) iL = L (Lx.map nI)
  gH : ∀ F Lx a b, gt (EE F Lx a b) iH = a
  gO : ∀ F Lx a b, gt (EE F Lx a b) iO = b
  sF : ∀ F Lx a b y, st (EE F Lx a b) iF (L (y.map nI)) = EE y Lx a b
  sL : ∀ F Lx a b y, st (EE F Lx a b) iL (L (y.map nI)) = EE F y a b
  sH : ∀ F Lx a b y, st (EE F Lx a b) iH y = EE F Lx y b
  sO : ∀ F Lx a b y, st (EE F Lx a b) iO y = EE F Lx a y
  row : ∀ F Lx k b, k < w.n → I O it (EE F Lx (V (nI k)) b) ((nb w k).map nI)
  cnd : ∀ F Lx k x, x < w.n → W O cnd (EE F Lx (V (nI k)) (V (nI x))) (.bool (c x && !F.contains x))
theorem sch_step (H : Lie O w c EE iF iL iH iO it cnd) {k : Nat} {found last : List Nat} (hpn : p < w.n) (hk : k < w.n) (hkp : Con w c p k) (h0 : Sch1 w c p k found last [] found last) {s6 : Sl} (h6 : notLk s6 = true) (hll : last.length ≤ 1000) :
    ∃ (F Lx : List Nat) (u6 : Sl), X O (.for (.nm iO) it [(.ite cnd [(.app iF (.var iO)), (.app iL (.var iO))] [])]) (EE found last (V (nI k)) s6) .nx (EE F Lx (V (nI k)) u6) ∧ Sch1 w c p k found last (nb w k) F Lx ∧ notLk u6 = true := by
  obtain ⟨e1, g1, F, Lx, s6, rfl, h1, h2⟩ := X.forP (O := O) (tg := .nm iO) (it := it) (b := [(.ite cnd [(.app iF (.var iO)), (.app iL (.var iO))] [])]) (env := EE found last (V (nI k)) s6) (env1 := EE found last (V (nI k)) s6) (xs := nb w k) (f := nI)
    (fun pre e => ∃ F Lx s6, e = EE F Lx (V (nI k)) s6 ∧ Sch1 w c p k found last pre F Lx ∧ notLk s6 = true) (H.row _ _ _ _ hk) ⟨found, last, s6, rfl, h0, h6⟩ fun pre x e hx hpre hI => by
      obtain ⟨F, Lx, s6, rfl, h, h6⟩ := hI
      have hx' := mem_nb.mp hx
      have hFn := nodup_len h.nd fun y hy => (h.fd y hy).1
      have h8 := w.le
      have hLn : Lx.length ≤ 2 * w.n + last.length := by have := h.ms; omega
      have hcmp := H.cnd F Lx k x hx'.1
      have hb : bindT (.nm iO) (nI x) (EE F Lx (V (nI k)) s6) = some (EE F Lx (V (nI k)) (V (nI x))) := by rw [bindT_nm (by rw [H.gO]; exact h6), H.sO]
      cases hcx : (c x && !F.contains x)
      · refine ⟨_, EE F Lx (V (nI k)) (V (nI x)), hb, .last (.skip (hcmp.to (by rw [hcx]))), F, Lx, V (nI x), rfl, ⟨h.nd, h.me, h.fd, h.ls, h.dn, fun y hy hcy => ?_, h.ms⟩, rfl⟩
        rcases List.mem_append.mp hy with hy | hy
        · exact h.pr y hy hcy
        · rw [List.mem_singleton] at hy
          subst hy
          rw [hcy, Bool.true_and, Bool.not_eq_false', List.contains_iff_mem] at hcx
          exact hcx
      · rw [Bool.and_eq_true, Bool.not_eq_true', ← Bool.not_eq_true, List.contains_iff_mem] at hcx
        obtain ⟨hcx, hxF⟩ := hcx
        have nd' : (F ++ [x]).Nodup := by
          rw [List.nodup_append]
          refine ⟨h.nd, by simp, fun a ha b hb e => ?_⟩
          rw [List.mem_singleton] at hb
          subst hb; subst e; exact hxF ha
        have fd' : ∀ y ∈ F ++ [x], y < w.n ∧ Con w c p y := fun y hy => by
          rcases List.mem_append.mp hy with hy | hy
          · exact h.fd y hy
          · rw [List.mem_singleton] at hy
            subst hy; exact ⟨hx'.1, .go hkp hx'.1 hx'.2 hcx⟩
        have hFn' := nodup_len nd' fun y hy => (fd' y hy).1
        rw [List.length_append, List.length_singleton] at hFn'
        have ap1 := X.appv (O := O) (env := EE F Lx (V (nI k)) (V (nI x))) (i := iF) (e := .var iO) (d := nI x) (H.gF _ _ _ _) (.var (H.gO _ _ _ _)) (by rw [List.length_map]; omega)
        have em : F.map nI ++ [nI x] = (F ++ [x]).map nI := by rw [List.map_append]; rfl
        rw [em, H.sF] at ap1
        have ap2 := X.appv (O := O) (env := EE (F ++ [x]) Lx (V (nI k)) (V (nI x))) (i := iL) (e := .var iO) (d := nI x) (H.gL _ _ _ _) (.var (H.gO _ _ _ _)) (by rw [List.length_map]; omega)
        have em2 : Lx.map nI ++ [nI x] = (Lx ++ [x]).map nI := by rw [List.map_append]; rfl
        rw [em2, H.sL] at ap2
        refine ⟨_, EE (F ++ [x]) (Lx ++ [x]) (V (nI k)) (V (nI x)), hb, .last (.iteT (hcmp.to (by simp [hcx, hxF])) (.nx ap1 (.last ap2))), F ++ [x], Lx ++ [x], V (nI x), rfl, ⟨nd', List.mem_append_left _ h.me, fd', fun y hy => ?_, fun y hy hyk => ?_, fun y hy hcy => ?_, ?_⟩, rfl⟩
        · rcases List.mem_append.mp hy with hy | hy
          · exact List.mem_append_left _ (h.ls y hy)
          · exact List.mem_append_right _ hy
        · rcases List.mem_append.mp hy with hy | hy
          · exact (h.dn y hy hyk).imp (List.mem_append_left _) fun q j hj ha hcj => List.mem_append_left _ (q j hj ha hcj)
          · exact .inl (List.mem_append_right _ hy)
        · rcases List.mem_append.mp hy with hy | hy
          · exact List.mem_append_left _ (h.pr y hy hcy)
          · exact List.mem_append_right _ hy
        · have := h.ms
          rw [List.length_append, List.length_append, List.length_singleton]; omega
  exact ⟨F, Lx, s6, g1, h1, h2⟩
end
section
variable {cf : Nat → List R → Option (R × List (Option R))} {w : Web} {c : Nat → Bool} {p : Nat} {EE : List Nat → List Nat → Sl → Sl → Env} {iF iL iH iO : Nat} {it : MI} {cnd : ME}
abbrev schB (iF iL iH iO : Nat) (it : MI) (cnd : ME) : List MS := [(.asg (.nm iH) (.pop iL)), (.for (.nm iO) it [(.ite cnd [(.app iF (.var iO)), (.app iL (.var iO))] [])])]
theorem sch_loop (H : Lie ⟨cf, Ev.loop⟩ w c EE iF iL iH iO it cnd) (hpn : p < w.n) : ∀ (m : Nat) (found last : List Nat) (s5 s6 : Sl), Sch w c p found last → notLk s5 = true → notLk s6 = true → m ≤ 900 → 2 * (w.n - found.length) + last.length ≤ m →
    ∃ (F : List Nat) (v5 v6 : Sl), turns (fun e => (ev ⟨cf, Ev.loop⟩ (.cmp .ne (.var iL) (.lst [])) e).bind fun x => (view x.1 x.2).bind fun p => (asB p.1).bind fun k => some (k, p.2))
      (fun e => exs ⟨cf, Ev.loop⟩ (schB iF iL iH iO it cnd) e) (m + 1) (EE found last s5 s6) = some (.nx, EE F [] v5 v6) ∧ Sch w c p F [] ∧ notLk v5 = true ∧ notLk v6 = true
  | m, found, last, s5, s6, h, h5, h6, hl, hm => by
    have hcmp : W ⟨cf, Ev.loop⟩ (.cmp .ne (.var iL) (.lst [])) (EE found last s5 s6) (.bool (!last.isEmpty)) := (E.cmp (.vals (H.gL _ _ _ _)) nil_L.wl ne_nil).wv
    obtain ⟨o, q1, q2⟩ := hcmp
    rcases List.eq_nil_or_concat last with rfl | ⟨last', k, rfl⟩
    · refine ⟨found, s5, s6, ?_, h, h5, h6⟩
      simp only [turns, q1, Option.bind_some, q2, asB]
      rfl
    · rw [List.concat_eq_append] at *
      have hlen : (last' ++ [k]).length = last'.length + 1 := by rw [List.length_append, List.length_singleton]
      rw [hlen] at hm
      obtain ⟨m', rfl⟩ : ∃ m', m = m' + 1 := ⟨m - 1, by omega⟩
      have hk := h.ls k (List.mem_append_right _ List.mem_cons_self)
      have hkf := h.fd k hk
      have s0 : Sch1 w c p k found last' [] found last' := ⟨h.nd, h.me, h.fd, fun x hx => h.ls x (List.mem_append_left _ hx), fun x hx hxk => (h.dn x hx).imp (fun q => (List.mem_append.mp q).resolve_right fun q => hxk (List.mem_singleton.mp q)) id, by simp, Nat.le_refl _⟩
      obtain ⟨F, Lx, u6, g1, g2, g3⟩ := sch_step H hpn hkf.1 hkf.2 s0 h6 (by omega)
      have sea : Sch w c p F Lx := ⟨g2.nd, g2.me, g2.fd, g2.ls, fun x hx => by
        by_cases hxk : x = k
        · subst hxk
          exact .inr fun j hj ha hcj => g2.pr j (mem_nb.mpr ⟨hj, ha⟩) hcj
        · exact g2.dn x hx hxk⟩
      have hms := g2.ms
      obtain ⟨F2, v5, v6, t1, t2⟩ := sch_loop H hpn m' F Lx (V (nI k)) u6 sea rfl g3 (by omega) (by omega)
      refine ⟨F2, v5, v6, ?_, t2⟩
      have hpop := E.popa (O := ⟨cf, Ev.loop⟩) (env := EE found (last' ++ [k]) s5 s6) (i := iL) (j := iH) (k := k) (last := last') (H.gL _ _ _ _) (by rw [H.sL, H.gH]; exact h5)
      rw [H.sL, H.sH] at hpop
      have hx : Xs ⟨cf, Ev.loop⟩ (schB iF iL iH iO it cnd) (EE found (last' ++ [k]) s5 s6) .nx (EE F Lx (V (nI k)) u6) := .nx hpop (.last g1)
      unfold Xs at hx
      have hne : (!(last' ++ [k]).isEmpty) = true := by cases last' <;> rfl
      rw [turns, q1, Option.bind_some, q2, Option.bind_some]
      simp only [hne, asB, Option.bind_some, if_true, hx]
      exact t1
/-- the whole search -/
theorem X.search (H : Lie ⟨cf, Ev.loop⟩ w c EE iF iL iH iO it cnd) (hpn : p < w.n) {s5 s6 : Sl} (h5 : notLk s5 = true) (h6 : notLk s6 = true) :
    ∃ (F : List Nat) (v5 v6 : Sl), X ⟨cf, Ev.loop⟩ (.wh (.cmp .ne (.var iL) (.lst [])) (schB iF iL iH iO it cnd)) (EE [p] [p] s5 s6) .nx (EE F [] v5 v6) ∧ F.Nodup ∧ (∀ j, j ∈ F ↔ Con w c p j) ∧ notLk v5 = true ∧ notLk v6 = true := by
  have h0 : Sch w c p [p] [p] := ⟨by simp, by simp, fun k hk => by
    rw [List.mem_singleton] at hk
    subst hk; exact ⟨hpn, .me⟩, fun k hk => hk, fun k hk => .inl hk⟩
  obtain ⟨F, v5, v6, t1, t2, t3, t4⟩ := sch_loop (cf := cf) H hpn (2 * (w.n - 1) + 1) [p] [p] s5 s6 h0 h5 h6 (by have := w.le; omega) (by simp)
  exact ⟨F, v5, v6, X.wh t1, t2.nd, t2.fin, t3, t4⟩
end
/-! ### groups -/
def bd_group_in : List MS := [(.par [2, 3] [(.lst [(.var 1)]), (.lst [(.var 1)])]), (.wh (.cmp .ne (.var 3) (.lst [])) [(.asg (.nm 4) (.pop 3)), (.for (.nm 5) (.seq (.ix (.var 0) (.var 4))) [(.ite (.cmp .notin (.var 5) (.var 2)) [(.app 2 (.var 5)), (.app 3 (.var 5))] [])])]), (.ret (.bi .tuple [(.bi .sorted [(.var 2)])]))]
open Classical in
/-- whom p is of one group with -/
noncomputable def grp (w : Web) (p : Nat) : List Nat := (List.range w.n).filter fun j => @decide (Con w (fun _ => true) p j) (Classical.propDecidable _)
theorem mem_grp {w : Web} {p j : Nat} (hp : p < w.n) : j ∈ grp w p ↔ Con w (fun _ => true) p j := by
  rw [grp, List.mem_filter, List.mem_range, @decide_eq_true_eq _ (Classical.propDecidable _)]
  exact ⟨fun h => h.2, fun h => ⟨h.lt hp, h⟩⟩
theorem grp_lt (w : Web) (p : Nat) : (grp w p).Pairwise (· < ·) := List.Pairwise.filter _ List.pairwise_lt_range
theorem grp_len (w : Web) (p : Nat) : (grp w p).length ≤ 8 := Nat.le_trans (len_filter_range _ _) w.le
theorem grp_below {w : Web} {p : Nat} : ∀ j ∈ grp w p, j < w.n := fun j hj => List.mem_range.mp (List.mem_filter.mp hj).1
theorem sort_found {xs : List Nat} {n : Nat} {l : List Nat} (hl : l.length ≤ 1000) (hn : l.Nodup) (hx : xs.Pairwise (· < ·)) (h : ∀ j, j ∈ l ↔ j ∈ xs) : biop .sorted [.list (l.map nI)] = some (vals (xs.map nI)) := by
  have e : l.mergeSort (fun a b => decide (a ≤ b)) = xs := by
    have hp : (l.mergeSort fun a b => decide (a ≤ b)).Perm xs := (List.mergeSort_perm _ _).trans ((List.perm_ext_iff_of_nodup hn (hx.imp fun h => by omega)).mpr h)
    have hs := List.pairwise_mergeSort (le := fun a b : Nat => decide (a ≤ b)) (by intro a b c; simp only [decide_eq_true_eq]; omega) (by intro a b; simp only [Bool.or_eq_true, decide_eq_true_eq]; omega) l
    exact List.Perm.eq_of_pairwise (le := fun a b => decide (a ≤ b) = true) (fun a b _ _ h1 h2 => by simp only [decide_eq_true_eq] at h1 h2; omega) hs (hx.imp fun h => by simp only [decide_eq_true_eq]; omega) hp
  simp only [biop, sortp_nat hl, Option.map_some, e]
section
variable {cf : Nat → List R → Option (R × List (Option R))}
theorem b_group_in (w : Web) (p : Nat) (hp : p < w.n) : ∃ e, Xs ⟨cf, Ev.loop⟩ bd_group_in [V (toD w), V (nI p), .no, .no, .no, .no] (.ret (vR (.tuple ((grp w p).map nI)))) e := by
  have H : Lie ⟨cf, Ev.loop⟩ w (fun _ => true) (fun F Lx a b => [V (toD w), V (nI p), L (F.map nI), L (Lx.map nI), a, b]) 2 3 4 5 (.seq (.ix (.var 0) (.var 4))) (.cmp .notin (.var 5) (.var 2)) :=
    ⟨fun _ _ _ _ => rfl, fun _ _ _ _ => rfl, fun _ _ _ _ => rfl, fun _ _ _ _ => rfl, fun _ _ _ _ _ => rfl, fun _ _ _ _ _ => rfl, fun _ _ _ _ _ => rfl, fun _ _ _ _ _ => rfl,
      fun _ _ _ _ hk => I.seq (E.ixw (.var rfl) (.var rfl) hk) rfl, fun F Lx k x _ => ((E.cmp (.var rfl) (.vals rfl) (cmp_notin (in_natl _ _))).wv).to (by simp)⟩
  obtain ⟨F, v5, v6, g, h1, h2, _, _⟩ := X.search H hp (s5 := .no) (s6 := .no) rfl rfl
  have hF : F.length ≤ 8 := Nat.le_trans (nodup_len h1 fun k hk => ((h2 k).mp hk).lt hp) w.le
  exact ⟨_, .nx (.par2 (E.lst (.cons (.var rfl) .nil)) (E.lst (.cons (.var rfl) .nil)) rfl rfl) (.nx g (.ret (.ret (.tupl (E.bi1 (.vals rfl) (sort_found (n := w.n) (by omega) h1 (grp_lt w p) fun j => (h2 j).trans (mem_grp hp).symm)).wl))))⟩
end
abbrev HGroup (cf : Nat → List R → Option (R × List (Option R))) (f : Nat) : Prop := ∀ (w : Web) (p : Nat), p < w.n → Cl cf f [vR (toD w), vR (nI p)] (vR (.tuple ((grp w p).map nI)))
end Ev.Z
set_option autoImplicit false
set_option linter.all false
set_option maxRecDepth 100000
/-! Rows of numbers in their order; groups. -/
namespace Ev.Z
open PySem
theorem ltT_total {a b : List Int} (h : ¬ a < b) (h' : ¬ b < a) : a = b := List.le_antisymm (List.not_lt.mp h') (List.not_lt.mp h)
theorem insT_pw {a : List Int} : ∀ {bs : List (List Int)}, bs.Pairwise (· < ·) → (insT a bs).Pairwise (· < ·)
  | [], _ => by simp [insT]
  | b :: bs, h => by
    rw [List.pairwise_cons] at h
    simp only [insT]
    split
    · rename_i hi
      rw [List.pairwise_cons, List.pairwise_cons]
      refine ⟨fun k hk => ?_, h⟩
      rcases List.mem_cons.mp hk with rfl | hk
      · exact hi
      · exact List.lt_trans hi (h.1 k hk)
    · split
      · rw [List.pairwise_cons]; exact h
      · rename_i h1 h2
        rw [List.pairwise_cons]
        refine ⟨fun k hk => ?_, insT_pw h.2⟩
        rcases mem_insT.mp hk with rfl | hk
        · exact Classical.byContradiction fun h3 => h2 (ltT_total h1 h3)
        · exact h.1 k hk
theorem setT_pw : ∀ ls : List (List Int), (setT ls).Pairwise (· < ·)
  | [] => by simp [setT]
  | a :: as => insT_pw (setT_pw as)
theorem rowsT_eq {l m : List (List Int)} (hl : l.Pairwise (· < ·)) (hm : m.Pairwise (· < ·)) (h : ∀ k, k ∈ l ↔ k ∈ m) : l = m := by
  have ne : ∀ a b : List Int, a < b → a ≠ b := fun a b h e => List.lt_irrefl b (e ▸ h)
  refine List.Perm.eq_of_pairwise (le := fun a b => a < b) (fun a b _ _ h1 h2 => absurd h2 (List.lt_asymm h1)) hl hm ?_
  exact (List.perm_ext_iff_of_nodup (hl.imp fun h => ne _ _ h) (hm.imp fun h => ne _ _ h)).mpr h
def castL (l : List Nat) : List Int := l.map fun x : Nat => (x : Int)
theorem castL_inj {a b : List Nat} (h : castL a = castL b) : a = b := by
  have e : ∀ l : List Nat, (castL l).map Int.toNat = l := fun l => by rw [castL, List.map_map]; exact List.map_id' l
  rw [← e a, h, e]
theorem tupD_cast (l : List Nat) : tupD (castL l) = rowT l := by rw [tupD, castL, rowT, List.map_map]; rfl
theorem tups_rows : ∀ ls : List (List Nat), tupsOf (ls.map rowT) = some (ls.map castL)
  | [] => rfl
  | l :: ls => by
    have := tups_rows ls
    have e : intsOf (l.map nI) = some (castL l) := by rw [nI_map, ints_map]; rfl
    simp only [List.map_cons, rowT, tupsOf, e, this, Option.bind_some, Option.map_some]
/-- rows of numbers, each once, in order -/
def srtT (ls : List (List Nat)) : List (List Nat) := (setT (ls.map castL)).map fun l => l.map Int.toNat
theorem cast_srtT (ls : List (List Nat)) : (srtT ls).map castL = setT (ls.map castL) := by
  rw [srtT, List.map_map]
  have h : ∀ l ∈ setT (ls.map castL), (castL ∘ fun l => l.map Int.toNat) l = l := fun l hl => by
    rw [mem_setT, List.mem_map] at hl
    obtain ⟨m, _, rfl⟩ := hl
    show castL ((castL m).map Int.toNat) = castL m
    have e : ∀ l : List Nat, (castL l).map Int.toNat = l := fun l => by rw [castL, List.map_map]; exact List.map_id' l
    rw [e]
  rw [List.map_congr_left h, List.map_id']
theorem mem_srtT {ls : List (List Nat)} {l : List Nat} : l ∈ srtT ls ↔ l ∈ ls := by
  have h1 : l ∈ srtT ls ↔ castL l ∈ (srtT ls).map castL := ⟨fun h => List.mem_map.mpr ⟨l, h, rfl⟩, fun h => by
    obtain ⟨m, hm, e⟩ := List.mem_map.mp h
    rw [← castL_inj e]; exact hm⟩
  rw [h1, cast_srtT, mem_setT, List.mem_map]
  constructor
  · rintro ⟨m, hm, e⟩
    rw [← castL_inj e]; exact hm
  · intro h; exact ⟨l, h, rfl⟩
theorem srtT_eq {ls ms : List (List Nat)} (h : ∀ l, l ∈ ls ↔ l ∈ ms) : srtT ls = srtT ms := by
  have e : setT (ls.map castL) = setT (ms.map castL) := rowsT_eq (setT_pw _) (setT_pw _) fun k => by
    rw [mem_setT, mem_setT, List.mem_map, List.mem_map]
    constructor
    · rintro ⟨l, hl, e⟩; exact ⟨l, (h l).mp hl, e⟩
    · rintro ⟨l, hl, e⟩; exact ⟨l, (h l).mpr hl, e⟩
  rw [srtT, srtT, e]
theorem srtT_nodup (ls : List (List Nat)) : (srtT ls).Nodup := by
  have h : ((srtT ls).map castL).Nodup := by
    rw [cast_srtT]
    exact (setT_pw _).imp fun {a b} h e => by subst e; exact List.lt_irrefl _ h
  rw [List.Nodup, List.pairwise_map] at h
  exact h.imp fun h e => h (congrArg castL e)
theorem srtT_len {ls : List (List Nat)} (h : ls.Nodup) : (srtT ls).length = ls.length := by
  have hp : (srtT ls).Perm ls := (List.perm_ext_iff_of_nodup (srtT_nodup ls) h).mpr fun l => mem_srtT
  exact hp.length_eq
theorem len_insT_le {a : List Int} : ∀ {bs : List (List Int)}, (insT a bs).length ≤ bs.length + 1
  | [] => by simp [insT]
  | b :: bs => by
    rw [insT]
    split
    · simp
    · split
      · simp
      · rw [List.length_cons, List.length_cons]
        have := len_insT_le (a := a) (bs := bs)
        omega
theorem len_setT_le : ∀ {as : List (List Int)}, (setT as).length ≤ as.length
  | [] => by simp [setT]
  | a :: as => by
    rw [setT, List.length_cons]
    have h1 := len_insT_le (a := a) (bs := setT as)
    have h2 := len_setT_le (as := as)
    omega
theorem srtT_le (ls : List (List Nat)) : (srtT ls).length ≤ ls.length := by
  have := len_setT_le (as := ls.map castL)
  rw [srtT, List.length_map]
  simpa using this
theorem sset_rows {ls : List (List Nat)} (hl : ls.length < 64) : biop .sset [.list (ls.map rowT)] = some (vals ((srtT ls).map rowT)) := by
  cases ls with
  | nil => rfl
  | cons l ls =>
    have e : intsOf ((l :: ls).map rowT) = none := rfl
    have e2 : (srtT (l :: ls)).map rowT = (setT ((l :: ls).map castL)).map tupD := by
      rw [← cast_srtT, List.map_map]
      exact List.map_congr_left fun l _ => (tupD_cast l).symm
    simp only [biop, setp, e, tups_rows, Option.bind_some, List.length_map]
    rw [if_pos hl, Option.map_some, ← e2]
theorem lset_rows {ls : List (List Nat)} (h : ls.Nodup) (hl : ls.length < 64) : biop .lset [.list (ls.map rowT)] = some (.val (nI ls.length)) := by
  have h1 := sset_rows hl
  simp only [biop] at h1 ⊢
  cases hs : setp (ls.map rowT) with
  | none => rw [hs] at h1; cases h1
  | some es =>
    rw [hs, Option.map_some] at h1
    have e : es = (srtT ls).map rowT := by
      have := congrArg (fun o => match o with | some (R.lst rs) => froAll rs | _ => []) h1
      simpa only [vals, froAll_val] using this
    rw [Option.map_some, e, List.length_map, srtT_len h]
    rfl
theorem le_rowT (a b : List Nat) : le (rowT a) (rowT b) = !decide (castL b < castL a) := by
  rw [le, ← tupD_cast, ← tupD_cast, tupD, tupD, PySem.W.dataLt_tuple]
  show (!PySem.W.rowLt ((castL b).map .int) ((castL a).map .int)) = _
  rw [PySem.W.dataLt_ints]
theorem sh_rowT {k : Nat} (l : List Nat) : sh (k + 1) (rowT l) := sh_tup (sh_ints l)
theorem alike_rows (ls : List (List Nat)) : allAlike (ls.map rowT) = true := by
  simp only [allAlike, List.all_eq_true, List.mem_map]
  rintro _ ⟨a, _, rfl⟩ _ ⟨b, _, rfl⟩
  rw [rowT, rowT, nI_map, nI_map, PySem.W.alike]
  exact PySem.W.alike_ints _ _
theorem sortp_rows {ls : List (List Nat)} (hn : ls.Nodup) (hl : ls.length ≤ 100000) : sortp (ls.map rowT) = some ((srtT ls).map rowT) := by
  have h2 : sortOk (ls.map rowT) = true := by
    rw [sortOk, Bool.or_eq_true]
    refine .inl ?_
    rw [List.all_eq_true]
    intro d hd
    obtain ⟨l, _, rfl⟩ := List.mem_map.mp hd
    rfl
  have h3 : (ls.map rowT).all SeqAt.shaped = true := by
    rw [List.all_eq_true]
    intro d hd
    obtain ⟨l, _, rfl⟩ := List.mem_map.mp hd
    exact (sh_rowT (k := 0) l).ok
  rw [sortp, if_pos (by rw [alike_rows, h2, h3]; simp [big]; omega)]
  congr 1
  have e1 : (ls.map rowT).mergeSort le = (ls.mergeSort fun a b => !decide (castL b < castL a)).map rowT := by
    symm
    rw [List.map_mergeSort]
    intro a _ b _
    rw [le_rowT]
  rw [e1]
  congr 1
  have hp : (ls.mergeSort fun a b => !decide (castL b < castL a)).Perm ls := List.mergeSort_perm _ _
  have h1 := List.pairwise_mergeSort (le := fun a b : List Nat => !decide (castL b < castL a)) (fun x y z h1 h2 => by
    simp only [Bool.not_eq_true', decide_eq_false_iff_not] at h1 h2 ⊢
    exact List.not_lt.mpr (List.le_trans (List.not_lt.mp h1) (List.not_lt.mp h2))) (fun x y => by
    simp only [Bool.or_eq_true, Bool.not_eq_true', decide_eq_false_iff_not]
    exact (List.le_total (castL x) (castL y)).imp List.not_lt.mpr List.not_lt.mpr) ls
  have hnd := hp.nodup_iff.mpr hn
  have pw : ((ls.mergeSort fun a b => !decide (castL b < castL a)).map castL).Pairwise (· < ·) := by
    rw [List.pairwise_map]
    refine (h1.and hnd).imp fun {x y} h => ?_
    have h3 := h.1
    simp only [Bool.not_eq_true', decide_eq_false_iff_not] at h3
    exact Classical.byContradiction fun h4 => h.2 (castL_inj (ltT_total h4 h3))
  have e2 := rowsT_eq pw (setT_pw (ls.map castL)) fun k => by rw [mem_setT, List.mem_map, List.mem_map]; exact ⟨fun ⟨l, h, e⟩ => ⟨l, hp.mem_iff.mp h, e⟩, fun ⟨l, h, e⟩ => ⟨l, hp.mem_iff.mpr h, e⟩⟩
  rw [← cast_srtT] at e2
  have := congrArg (List.map fun l : List Int => l.map Int.toNat) e2
  rw [List.map_map, List.map_map] at this
  have ei : ((fun l : List Int => l.map Int.toNat) ∘ castL) = id := by
    funext l
    show (castL l).map Int.toNat = l
    rw [castL, List.map_map]; exact List.map_id' l
  rwa [ei, List.map_id, List.map_id] at this
/-! ### groups -/
noncomputable def grps (w : Web) : List (List Nat) := srtT ((List.range w.n).map (grp w))
theorem mem_grps {w : Web} {l : List Nat} : l ∈ grps w ↔ ∃ p < w.n, l = grp w p := by
  rw [grps, mem_srtT, List.mem_map]
  constructor
  · rintro ⟨p, hp, rfl⟩; exact ⟨p, List.mem_range.mp hp, rfl⟩
  · rintro ⟨p, hp, rfl⟩; exact ⟨p, List.mem_range.mpr hp, rfl⟩
theorem grps_len (w : Web) : (grps w).length ≤ w.n := by
  have := srtT_le ((List.range w.n).map (grp w))
  rw [List.length_map, List.length_range] at this
  exact this
def bd_groups_in (f_group_in : Nat) : List MS := [(.ret (.bi .sset [(.lc (.call f_group_in [(.var 0), (.var 1)]) (.nm 1) (.rng (.bi .len [(.var 0)])) none [1])]))]
def bd_groups (f_need_web f_groups_in : Nat) : List MS := [(.exp (.call f_need_web [(.var 0)])), (.ret (.bi .tuple [(.call f_groups_in [(.var 0)])]))]
def bd_rest_in (f_is_table f_groups_in : Nat) : List MS := [(.ret (.bi .all [(.lc (.call f_is_table [(.var 0), (.var 1)]) (.nm 1) (.seq (.call f_groups_in [(.var 0)])) none [1])]))]
def bd_is_rest (f_need_web f_rest_in : Nat) : List MS := [(.exp (.call f_need_web [(.var 0)])), (.ret (.call f_rest_in [(.var 0)]))]
def bd_rest_of (f_groups_in f_web_by : Nat) : List MS := [(.asg (.nm 1) (.lst [])), (.for (.nm 2) (.seq (.call f_groups_in [(.var 0)])) [(.for (.nm 3) (.seq (.var 2)) [(.ext 1 (.lc (.tup [(.var 3), (.var 4)]) (.nm 4) (.seq (.var 2)) (some (.cmp .lt (.var 3) (.var 4))) [4]))])]), (.ret (.call f_web_by [(.bi .len [(.var 0)]), (.var 1)]))]
abbrev HGroups (cf : Nat → List R → Option (R × List (Option R))) (f : Nat) : Prop := ∀ w : Web, Cl cf f [vR (toD w)] (vals ((grps w).map rowT))
section
variable {cf : Nat → List R → Option (R × List (Option R))} {wh : WhT}
theorem b_groups_in {f : Nat} (hg : HGroup cf f) (w : Web) : ∃ e, Xs ⟨cf, wh⟩ (bd_groups_in f) [V (toD w), .no] (.ret (vals ((grps w).map rowT))) e := by
  have h8 := w.le
  have hlc := E.lcv (O := ⟨cf, wh⟩) (env := [V (toD w), .no]) (elt := .call f [(.var 0), (.var 1)]) (i := 1) (it := .rng (.bi .len [(.var 0)])) (xs := List.range w.n) (f := nI) (g := fun p => rowT (grp w p)) (I.rng (E.lenw (.var rfl)).wv (by omega)) rfl (by rw [List.length_range]; omega)
    fun p hp => E.cl (.cons (.var rfl) (.cons (.var rfl) .nil)) (hg w p (List.mem_range.mp hp))
  have e : (List.range w.n).map (fun p => rowT (grp w p)) = ((List.range w.n).map (grp w)).map rowT := by rw [List.map_map]; rfl
  rw [e] at hlc
  exact ⟨_, .ret (.ret (E.bi1 hlc.wl (sset_rows (by rw [List.length_map, List.length_range]; omega))))⟩
theorem b_groups {f g : Nat} (hw : HWeb cf f) (hg : HGroups cf g) (w : Web) : ∃ e, Xs ⟨cf, wh⟩ (bd_groups f g) [V (toD w)] (.ret (vR (.tuple ((grps w).map rowT)))) e :=
  ⟨_, .nx (.exp (E.cl (.cons (.var rfl) .nil) (hw w))) (.ret (.ret (.tupl (E.cl (.cons (.var rfl) .nil) (hg w)).wl)))⟩
/-- every group is a table -/
noncomputable def restB (w : Web) : Bool := (grps w).all fun g => tableB w g
theorem b_rest_in {f g : Nat} (ht : HTable cf f) (hg : HGroups cf g) (w : Web) : ∃ e, Xs ⟨cf, wh⟩ (bd_rest_in f g) [V (toD w), .no] (.ret (vR (.bool (restB w)))) e := by
  have h8 := w.le
  have hlen := grps_len w
  have hlc := E.lcv (O := ⟨cf, wh⟩) (env := [V (toD w), .no]) (elt := .call f [(.var 0), (.var 1)]) (i := 1) (it := .seq (.call g [(.var 0)])) (xs := grps w) (f := rowT) (g := fun l => .bool (tableB w l)) (I.seql (E.cl (.cons (.var rfl) .nil) (hg w))) rfl (by omega)
    fun l hl => by
      obtain ⟨p, hp, rfl⟩ := mem_grps.mp hl
      exact E.cl (.cons (.var rfl) (.cons (.var rfl) .nil)) (ht w (grp w p) grp_below (grp_len w p))
  exact ⟨_, .ret (.ret (E.bi1 hlc.wl (all_map _ _)))⟩
theorem b_is_rest {f g : Nat} (hw : HWeb cf f) (hr : ∀ w : Web, Cl cf g [vR (toD w)] (vR (.bool (restB w)))) (w : Web) : ∃ e, Xs ⟨cf, wh⟩ (bd_is_rest f g) [V (toD w)] (.ret (vR (.bool (restB w)))) e :=
  ⟨_, .nx (.exp (E.cl (.cons (.var rfl) .nil) (hw w))) (.ret (.ret (E.cl (.cons (.var rfl) .nil) (hr w))))⟩
end
end Ev.Z
set_option autoImplicit false
set_option linter.all false
set_option maxRecDepth 100000
/-! All sets; the rest; sets that join; cut people. -/
namespace Ev.Z
open PySem
/-! ### all sets -/
def chs : Nat → List (List Nat)
  | 0 => [[]]
  | k + 1 => chs k ++ (chs k).map fun l => l ++ [k]
theorem chs_len : ∀ k, (chs k).length = 2 ^ k
  | 0 => rfl
  | k + 1 => by rw [chs, List.length_append, List.length_map, chs_len k, Nat.pow_succ]; omega
theorem pw_snoc {l : List Nat} {k : Nat} (hp : l.Pairwise (· < ·)) (hl : ∀ x ∈ l, x < k) : (l ++ [k]).Pairwise (· < ·) := by
  rw [List.pairwise_append]
  refine ⟨hp, by simp, fun a ha b hb => ?_⟩
  rw [List.mem_singleton] at hb
  subst hb; exact hl a ha
theorem mem_chs : ∀ {k : Nat} {l : List Nat}, l ∈ chs k ↔ l.Pairwise (· < ·) ∧ ∀ x ∈ l, x < k
  | 0, l => by
    rw [chs, List.mem_singleton]
    constructor
    · rintro rfl; exact ⟨List.Pairwise.nil, fun x hx => by cases hx⟩
    · rintro ⟨_, h⟩
      cases l with
      | nil => rfl
      | cons x l => exact absurd (h x List.mem_cons_self) (by omega)
  | k + 1, l => by
    rw [chs, List.mem_append, mem_chs, List.mem_map]
    constructor
    · rintro (⟨h1, h2⟩ | ⟨m, hm, rfl⟩)
      · exact ⟨h1, fun x hx => by have := h2 x hx; omega⟩
      · obtain ⟨h1, h2⟩ := mem_chs.mp hm
        refine ⟨pw_snoc h1 h2, fun x hx => ?_⟩
        rcases List.mem_append.mp hx with hx | hx
        · have := h2 x hx; omega
        · rw [List.mem_singleton] at hx; omega
    · rintro ⟨h1, h2⟩
      by_cases hk : k ∈ l
      · refine .inr ⟨l.filter (fun x => decide (x < k)), mem_chs.mpr ⟨h1.filter _, fun x hx => ?_⟩, ?_⟩
        · have := (List.mem_filter.mp hx).2
          simpa using this
        · have hp : (l.filter (fun x => decide (x < k)) ++ [k]).Pairwise (· < ·) := pw_snoc (h1.filter _) fun x hx => by simpa using (List.mem_filter.mp hx).2
          refine List.Perm.eq_of_pairwise (le := (· < ·)) (fun a b _ _ h1 h2 => by omega) hp h1 ((List.perm_ext_iff_of_nodup (hp.imp fun h => by omega) (h1.imp fun h => by omega)).mpr fun x => ?_)
          rw [List.mem_append, List.mem_filter, List.mem_singleton, decide_eq_true_eq]
          constructor
          · rintro (h | rfl)
            · exact h.1
            · exact hk
          · intro hx
            have := h2 x hx
            by_cases e : x = k
            · exact .inr e
            · exact .inl ⟨hx, by omega⟩
      · refine .inl ⟨h1, fun x hx => ?_⟩
        have := h2 x hx
        have : x ≠ k := fun e => hk (e ▸ hx)
        omega
theorem chs_nodup : ∀ k, (chs k).Nodup
  | 0 => by simp [chs]
  | k + 1 => by
    rw [chs, List.nodup_append]
    refine ⟨chs_nodup k, ?_, ?_⟩
    · rw [List.Nodup, List.pairwise_map]
      exact (chs_nodup k).imp fun {a b} h e => h (List.append_cancel_right e)
    · rintro a ha b hb rfl
      obtain ⟨m, _, rfl⟩ := List.mem_map.mp hb
      have := (mem_chs.mp ha).2 k (List.mem_append_right _ List.mem_cons_self)
      omega
theorem chs_short {k : Nat} {l : List Nat} (h : l ∈ chs k) : l.length ≤ k := by
  obtain ⟨h1, h2⟩ := mem_chs.mp h
  exact nodup_len (h1.imp fun h => by omega) h2
theorem X.grow {O : Orc} {env : Env} {i x p k : Nat} {ls : List (List Nat)} (hi : gt env i = L (ls.map rowT)) (hp : gt env p = V (nI k)) (hx : plainSl (gt env x) = true) (hxl : x < env.length) (hn : (i != x && p != x && i != p) = true) (hl : ls.length ≤ 1000) (hs : ∀ l ∈ ls, l.length < 1000) :
    X O (.grow i x p) env .nx (st env i (L ((ls ++ ls.map fun l => l ++ [k]).map rowT))) := by
  have e : vals (ls.map rowT) = .lst (ls.map fun l => vR (rowT l)) := by rw [vals, List.map_map]; rfl
  have ha : ((ls.map fun l => vR (rowT l)).all fun r => match r with | .val (.tuple ts) => decide (ts.length < 1000) | _ => false) = true := by
    rw [List.all_map, List.all_eq_true]
    intro l hl'
    have := hs l hl'
    simpa [rowT, vR] using this
  have eg : growTo (nI k) (vals (ls.map rowT)) = some (vals ((ls ++ ls.map fun l => l ++ [k]).map rowT)) := by
    have ec : (ls.map fun l => vR (rowT l)) ++ (ls.map fun l => vR (rowT l)).map (fun r => match r with | .val (.tuple ts) => .val (.tuple (ts ++ [nI k])) | _ => r) = (ls ++ ls.map fun l => l ++ [k]).map fun l => vR (rowT l) := by
      rw [List.map_append, List.map_map, List.map_map]
      congr 1
      refine List.map_congr_left fun l _ => ?_
      simp [rowT, vR]
    have hb : ls.length + ls.length ≤ big := by simp only [big]; omega
    have e2 : ∀ ms : List (List Nat), vals (ms.map rowT) = .lst (ms.map fun l => vR (rowT l)) := fun ms => by rw [vals, List.map_map]; rfl
    rw [e, e2]
    simp only [growTo, List.length_map, hb, decide_true, Bool.true_and]
    exact (if_pos ha).trans (congrArg (fun l => some (R.lst l)) ec)
  unfold X
  rw [q_ex_grow, hp]
  simp only [hn, hx, hxl, decide_true, Bool.and_self, if_true]
  rw [chg, hi]
  simp only [L, eg, Option.bind_some]
def bd_choices : List MS := [(.asg (.nm 1) (.lst [(.tup [])])), (.for (.nm 2) (.rng (.var 0)) [(.grow 1 3 2)]), (.ret (.var 1))]
abbrev HChoices (cf : Nat → List R → Option (R × List (Option R))) (f : Nat) : Prop := ∀ n : Nat, n ≤ 8 → Cl cf f [vR (nI n)] (vals ((chs n).map rowT))
section
variable {cf : Nat → List R → Option (R × List (Option R))} {wh : WhT}
theorem b_choices (n : Nat) (hn : n ≤ 8) : ∃ e, Xs ⟨cf, wh⟩ bd_choices [V (nI n), .no, .no, .no] (.ret (vals ((chs n).map rowT))) e := by
  obtain ⟨e1, g1, s2, rfl, _⟩ := X.for (O := ⟨cf, wh⟩) (tg := .nm 2) (it := .rng (.var 0)) (b := [(.grow 1 3 2)]) (env := [V (nI n), L [rowT []], .no, .no]) (env1 := [V (nI n), L [rowT []], .no, .no]) (xs := List.range n) (f := nI)
    (fun k e => ∃ s2, e = [V (nI n), L ((chs k).map rowT), s2, .no] ∧ notLk s2 = true) (I.rng (.var rfl) (by omega)) ⟨.no, rfl, rfl⟩ fun i k e hk hI => by
      obtain ⟨s2, rfl, h2⟩ := hI
      have hlt := (List.getElem?_eq_some_iff.mp hk).1
      rw [List.length_range] at hlt
      obtain rfl : i = k := by simpa [hlt] using hk
      have hp : 2 ^ i ≤ 256 := Nat.pow_le_pow_right (n := 2) (by omega) (show i ≤ 8 by omega)
      have := X.grow (O := ⟨cf, wh⟩) (env := [V (nI n), L ((chs i).map rowT), V (nI i), .no]) (i := 1) (x := 3) (p := 2) (k := i) (ls := chs i) rfl rfl rfl (by simp) rfl (by rw [chs_len]; omega) fun l hl => by have := chs_short hl; omega
      exact ⟨_, _, bindT_nm h2, .last this, V (nI i), rfl, rfl⟩
  rw [List.length_range] at g1
  exact ⟨_, .nx (.asg (E.lst (.cons (E.tup .nil) .nil)) rfl) (.nx g1 (.ret (.retl rfl)))⟩
end
/-! ### the rest -/
def pr1 (g : List Nat) (i : Nat) : List (Nat × Nat) := (g.filter fun j => decide (i < j)).map fun j => (i, j)
def prsOf (g : List Nat) : List (Nat × Nat) := g.flatMap (pr1 g)
theorem mem_prsOf {g : List Nat} {c : Nat × Nat} : c ∈ prsOf g ↔ c.1 ∈ g ∧ c.2 ∈ g ∧ c.1 < c.2 := by
  rw [prsOf, List.mem_flatMap]
  constructor
  · rintro ⟨i, hi, h⟩
    rw [pr1, List.mem_map] at h
    obtain ⟨j, hj, rfl⟩ := h
    rw [List.mem_filter, decide_eq_true_eq] at hj
    exact ⟨hi, hj.1, hj.2⟩
  · rintro ⟨h1, h2, h3⟩
    refine ⟨c.1, h1, ?_⟩
    rw [pr1, List.mem_map]
    exact ⟨c.2, List.mem_filter.mpr ⟨h2, by simpa using h3⟩, rfl⟩
noncomputable def restC (w : Web) : List (Nat × Nat) := (grps w).flatMap prsOf
theorem grp_self {w : Web} {p : Nat} (hp : p < w.n) : p ∈ grp w p := (mem_grp hp).mpr .me
theorem grp_eq {w : Web} {p i : Nat} (hp : p < w.n) (h : i ∈ grp w p) : grp w i = grp w p := by
  have hc := (mem_grp hp).mp h
  have hi := hc.lt hp
  refine List.Perm.eq_of_pairwise (le := (· < ·)) (fun a b _ _ h1 h2 => by omega) (grp_lt w i) (grp_lt w p) ((List.perm_ext_iff_of_nodup ((grp_lt w i).imp fun h => by omega) ((grp_lt w p).imp fun h => by omega)).mpr fun j => ?_)
  rw [mem_grp hi, mem_grp hp]
  exact ⟨fun h => hc.trans h, fun h => (hc.symm hp rfl).trans h⟩
theorem mem_restC {w : Web} {c : Nat × Nat} : c ∈ restC w ↔ c.1 < w.n ∧ c.1 < c.2 ∧ Con w (fun _ => true) c.1 c.2 := by
  rw [restC, List.mem_flatMap]
  constructor
  · rintro ⟨g, hg, h⟩
    obtain ⟨p, hp, rfl⟩ := mem_grps.mp hg
    obtain ⟨h1, h2, h3⟩ := mem_prsOf.mp h
    have hc1 := (mem_grp hp).mp h1
    have hc2 := (mem_grp hp).mp h2
    exact ⟨hc1.lt hp, h3, (hc1.symm hp rfl).trans hc2⟩
  · rintro ⟨h1, h2, h3⟩
    exact ⟨grp w c.1, mem_grps.mpr ⟨c.1, h1, rfl⟩, mem_prsOf.mpr ⟨grp_self h1, (mem_grp h1).mpr h3, h2⟩⟩
theorem nodup_sub {α : Type} [DecidableEq α] {l m : List α} (hl : l.Nodup) (hm : m.Nodup) (h : ∀ x ∈ l, x ∈ m) : l.length ≤ m.length := by
  have hp : l.Perm (m.filter fun x => decide (x ∈ l)) := (List.perm_ext_iff_of_nodup hl (hm.filter _)).mpr fun x => by
    simp only [List.mem_filter, decide_eq_true_eq]
    exact ⟨fun hx => ⟨h x hx, hx⟩, fun hx => hx.2⟩
  rw [hp.length_eq]
  exact List.length_filter_le _ _
theorem fm_nodup {α β : Type} {f : α → List β} : ∀ {l : List α}, l.Nodup → (∀ x ∈ l, (f x).Nodup) → (∀ x ∈ l, ∀ y ∈ l, ∀ c, c ∈ f x → c ∈ f y → x = y) → (l.flatMap f).Nodup
  | [], _, _, _ => List.nodup_nil
  | x :: l, h, h1, h2 => by
    rw [List.nodup_cons] at h
    rw [List.flatMap_cons, List.nodup_append]
    refine ⟨h1 x List.mem_cons_self, fm_nodup h.2 (fun y hy => h1 y (List.mem_cons_of_mem _ hy)) fun y hy z hz => h2 y (List.mem_cons_of_mem _ hy) z (List.mem_cons_of_mem _ hz), ?_⟩
    rintro a ha b hb rfl
    obtain ⟨y, hy, hy2⟩ := List.mem_flatMap.mp hb
    exact h.1 (h2 x List.mem_cons_self y (List.mem_cons_of_mem _ hy) a ha hy2 ▸ hy)
theorem prsOf_nodup {g : List Nat} (h : g.Pairwise (· < ·)) : (prsOf g).Nodup := by
  refine fm_nodup (h.imp fun h => by omega) (fun i hi => ?_) fun i _ j _ c hc hd => ?_
  · rw [pr1, List.Nodup, List.pairwise_map]
    exact (h.filter _).imp fun {a b} h e => by
      injection e with _ e
      omega
  · rw [pr1, List.mem_map] at hc hd
    obtain ⟨a, _, rfl⟩ := hc
    obtain ⟨b, _, e⟩ := hd
    injection e with e _
    exact e.symm
def all28 : List (Nat × Nat) := (List.range 8).flatMap fun i => ((List.range 8).filter fun j => decide (i < j)).map fun j => (i, j)
theorem all28_nd : all28.Nodup := by decide
theorem in_all28 {c : Nat × Nat} (h1 : c.1 < c.2) (h2 : c.2 < 8) : c ∈ all28 := by
  rw [all28, List.mem_flatMap]
  exact ⟨c.1, List.mem_range.mpr (by omega), List.mem_map.mpr ⟨c.2, List.mem_filter.mpr ⟨List.mem_range.mpr h2, by simpa using h1⟩, rfl⟩⟩
theorem pairs_28 {l : List (Nat × Nat)} (h : l.Nodup) (hc : ∀ c ∈ l, c.1 < c.2 ∧ c.2 < 8) : l.length ≤ 28 :=
  nodup_sub h all28_nd fun c hcl => in_all28 (hc c hcl).1 (hc c hcl).2
theorem restC_28 (w : Web) : (restC w).length ≤ 28 := by
  refine pairs_28 (fm_nodup (srtT_nodup _) (fun g hg => ?_) fun g hg g' hg' c h1 h2 => ?_) fun c hc => ?_
  · obtain ⟨p, _, rfl⟩ := mem_grps.mp hg
    exact prsOf_nodup (grp_lt w p)
  · obtain ⟨p, hp, rfl⟩ := mem_grps.mp hg
    obtain ⟨q, hq, rfl⟩ := mem_grps.mp hg'
    rw [← grp_eq hp (mem_prsOf.mp h1).1, ← grp_eq hq (mem_prsOf.mp h2).1]
  · obtain ⟨h1, h2, h3⟩ := mem_restC.mp hc
    have := h3.lt h1
    have := w.le
    exact ⟨h2, by omega⟩
theorem restC_good (w : Web) : ∀ c ∈ restC w, c.1 ≠ c.2 ∧ c.1 < w.n ∧ c.2 < w.n := fun c hc => by
  obtain ⟨h1, h2, h3⟩ := mem_restC.mp hc
  exact ⟨by omega, h1, h3.lt h1⟩
noncomputable def restW (w : Web) : Web := webOf w.n (restC w) w.pos w.le (restC_good w)
theorem webOf_adj {n : Nat} {cs : List (Nat × Nat)} {h1 : 1 ≤ n} {h8 : n ≤ 8} {hc : ∀ c ∈ cs, c.1 ≠ c.2 ∧ c.1 < n ∧ c.2 < n} {i j : Nat} : (webOf n cs h1 h8 hc).adj i j = true ↔ (i, j) ∈ cs ∨ (j, i) ∈ cs := by
  simp [webOf]
theorem restW_adj {w : Web} {i j : Nat} (hi : i < w.n) (hj : j < w.n) : (restW w).adj i j = true ↔ i ≠ j ∧ Con w (fun _ => true) i j := by
  rw [restW, webOf_adj, mem_restC, mem_restC]
  constructor
  · rintro (⟨h1, h2, h3⟩ | ⟨h1, h2, h3⟩)
    · exact ⟨by simp only at h2; omega, h3⟩
    · exact ⟨by simp only at h2; omega, h3.symm h1 rfl⟩
  · rintro ⟨h1, h2⟩
    rcases Nat.lt_or_ge i j with h | h
    · exact .inl ⟨hi, h, h2⟩
    · exact .inr ⟨hj, by simp only; omega, h2.symm hi rfl⟩
theorem fm_len_mem {α β : Type} (f : α → List β) (K : Nat) : ∀ l : List α, (∀ x ∈ l, (f x).length ≤ K) → (l.flatMap f).length ≤ l.length * K
  | [], _ => by simp
  | x :: l, h => by
    have h1 := h x List.mem_cons_self
    have h2 := fm_len_mem f K l fun y hy => h y (List.mem_cons_of_mem _ hy)
    rw [List.flatMap_cons, List.length_append, List.length_cons, Nat.add_mul]
    omega
theorem prsOf_64 {g : List Nat} (h : g.length ≤ 8) : (prsOf g).length ≤ 64 := by
  have := fm_len_mem (pr1 g) 8 g fun i _ => by
    rw [pr1, List.length_map]
    exact Nat.le_trans (List.length_filter_le _ _) h
  have h2 : g.length * 8 ≤ 8 * 8 := Nat.mul_le_mul_right 8 h
  rw [prsOf]; omega
abbrev HRest (cf : Nat → List R → Option (R × List (Option R))) (f : Nat) : Prop := ∀ w : Web, Cl cf f [vR (toD w)] (vR (toD (restW w)))
section
variable {cf : Nat → List R → Option (R × List (Option R))} {wh : WhT}
theorem call2_own {O : Orc} {env : Env} {g i : Nat} {a : ME} {p : PyData} {ds : List PyData} {r : R} (ha : E O a env (vR p)) (hg : gt env i = L ds) (hc : Cl O.call g [vR p, vals ds] r) : ∃ e, ev O (.call g [a, .var i]) env = some (.tm r, e) := by
  obtain ⟨outs, hcall⟩ := hc
  have hv : ev O (.var i) env = some (.vr i, env) := by
    rw [q_ev_var, hg]; rfl
  unfold E at ha
  rw [q_ev_call, q_evs_ees, ha, Option.bind_some]
  simp only [q_evs_ees, hv, Option.bind_some, q_evs_nil, owns, own, hg, hcall]
  exact ⟨_, rfl⟩
theorem b_rest_of {f g : Nat} (hg : HGroups cf f) (hb : HBy6 cf g) (w : Web) : ∃ e, Xs ⟨cf, wh⟩ (bd_rest_of f g) [V (toD w), .no, .no, .no, .no] (.ret (vR (toD (restW w)))) e := by
  have h8 := w.le
  have hlen := grps_len w
  have hp1 : ∀ (gr : List Nat), gr.length ≤ 8 → ∀ i, (pr1 gr i).length ≤ 8 := fun gr hgr i => by
    rw [pr1, List.length_map]
    exact Nat.le_trans (List.length_filter_le _ _) hgr
  obtain ⟨e1, g1, s2, s3, rfl, _, _, _⟩ := X.forP (O := ⟨cf, wh⟩) (tg := .nm 2) (it := .seq (.call f [(.var 0)])) (b := [(.for (.nm 3) (.seq (.var 2)) [(.ext 1 (.lc (.tup [(.var 3), (.var 4)]) (.nm 4) (.seq (.var 2)) (some (.cmp .lt (.var 3) (.var 4))) [4]))])])
    (env := [V (toD w), L [], .no, .no, .no]) (env1 := [V (toD w), L [], .no, .no, .no]) (xs := grps w) (f := rowT)
    (fun pre e => ∃ s2 s3, e = [V (toD w), L ((pre.flatMap prsOf).map cp), s2, s3, .no] ∧ notLk s2 = true ∧ notLk s3 = true ∧ (pre.flatMap prsOf).length ≤ pre.length * 64) (I.seql (E.cl (.cons (.var rfl) .nil) (hg w))) ⟨.no, .no, rfl, rfl, rfl, by simp⟩ fun pre gr e hx hpre hI => by
      obtain ⟨s2, s3, rfl, h2, h3, hb⟩ := hI
      obtain ⟨p, hp, rfl⟩ := mem_grps.mp hx
      have hgl := grp_len w p
      obtain ⟨e2, g2, u3, rfl, hu⟩ := X.forP (O := ⟨cf, wh⟩) (tg := .nm 3) (it := .seq (.var 2)) (b := [(.ext 1 (.lc (.tup [(.var 3), (.var 4)]) (.nm 4) (.seq (.var 2)) (some (.cmp .lt (.var 3) (.var 4))) [4]))])
        (env := [V (toD w), L ((pre.flatMap prsOf).map cp), V (rowT (grp w p)), s3, .no]) (env1 := [V (toD w), L ((pre.flatMap prsOf).map cp), V (rowT (grp w p)), s3, .no]) (xs := grp w p) (f := nI)
        (fun pr e => ∃ s3, e = [V (toD w), L (((pre.flatMap prsOf) ++ pr.flatMap (pr1 (grp w p))).map cp), V (rowT (grp w p)), s3, .no] ∧ notLk s3 = true) (I.seq (.var rfl) rfl) ⟨s3, by simp, h3⟩ fun pr i e hxi hpri hI => by
          obtain ⟨s3, rfl, h3⟩ := hI
          have b2 := fm_len (pr1 (grp w p)) 8 (hp1 _ hgl) pr
          have hlc := E.lcFv (O := ⟨cf, wh⟩) (env := [V (toD w), L (((pre.flatMap prsOf) ++ pr.flatMap (pr1 (grp w p))).map cp), V (rowT (grp w p)), V (nI i), .no]) (elt := .tup [(.var 3), (.var 4)]) (i := 4) (it := .seq (.var 2)) (cnd := .cmp .lt (.var 3) (.var 4)) (xs := grp w p) (f := nI) (g := fun j => cp (i, j)) (c := fun j => decide (i < j)) (I.seq (.var rfl) rfl) rfl (by omega) (fun j hj => (E.cmp (.var rfl) (.var rfl) (lt_nat _ _)).wv) fun j hj hcj => E.tup2 (.var rfl) (.var rfl)
          have el : ((grp w p).filter fun j => decide (i < j)).map (fun j => cp (i, j)) = (pr1 (grp w p) i).map cp := by rw [pr1, List.map_map]; rfl
          rw [el] at hlc
          have b3 := hp1 _ hgl i
          have hx := X.extv (O := ⟨cf, wh⟩) (env := [V (toD w), L (((pre.flatMap prsOf) ++ pr.flatMap (pr1 (grp w p))).map cp), V (rowT (grp w p)), V (nI i), .no]) (i := 1) rfl hlc (by simp only [List.length_map, List.length_append]; omega)
          refine ⟨_, _, bindT_nm h3, .last hx, V (nI i), ?_, rfl⟩
          rw [← List.map_append, List.append_assoc, List.flatMap_append, List.flatMap_singleton]
          rfl
      refine ⟨_, _, bindT_nm h2, .last g2, V (rowT (grp w p)), u3, ?_, rfl, hu, ?_⟩
      · rw [List.flatMap_append, List.flatMap_singleton]
        rfl
      · have := prsOf_64 hgl
        rw [List.flatMap_append, List.flatMap_singleton, List.length_append, List.length_append, List.length_singleton]
        omega
  obtain ⟨e, he⟩ := call2_own (O := ⟨cf, wh⟩) (env := [V (toD w), L ((restC w).map cp), s2, s3, .no]) (g := g) (i := 1) (a := .bi .len [.var 0]) (r := vR (toD (restW w))) (E.lenw (.var rfl)) rfl (hb w.n (restC w) w.pos w.le (restC_good w) (by have := restC_28 w; omega))
  exact ⟨e, .nx (.asg nil_L rfl) (.nx g1 (.ret (ret_to he)))⟩
end
end Ev.Z
set_option autoImplicit false
set_option linter.all false
set_option maxRecDepth 100000
/-! Sets that join; cut people; what they are asked for. -/
namespace Ev.Z
open PySem
theorem rows_iff {a b : Web} (hn : a.n = b.n) : (rows a == rows b) = true ↔ ∀ i j, i < a.n → j < a.n → (a.adj i j = true ↔ b.adj i j = true) := by
  rw [beq_iff_eq]
  constructor
  · intro h i j hi hj
    have h1 := congrArg (fun l => l[i]?) h
    simp only [rows, List.getElem?_map, List.getElem?_range hi, List.getElem?_range (hn ▸ hi), Option.map_some, Option.some.injEq] at h1
    have h2 : j ∈ nb a i ↔ j ∈ nb b i := by rw [h1]
    rw [mem_nb, mem_nb] at h2
    exact ⟨fun q => (h2.mp ⟨hj, q⟩).2, fun q => (h2.mpr ⟨hn ▸ hj, q⟩).2⟩
  · intro h
    rw [rows, rows, ← hn]
    exact List.map_congr_left fun i hi => nb_eq hn h (List.mem_range.mp hi)
/-- S joins: all of a group come to know one another -/
def Joins (w : Web) (S : List Nat) : Prop := ∀ i j, i < w.n → j < w.n → i ≠ j → Con w (fun _ => true) i j → Ch w (· ∈ S) i j
theorem ch_con {w : Web} {P : Nat → Prop} {i j : Nat} (h : Ch w P i j) : Con w (fun _ => true) i j := by
  induction h with
  | one i j hi hj ha => exact .go .me hj ha rfl
  | more i k j _ _ hj ha ih => exact .go ih hj ha rfl
noncomputable def joinB (w : Web) (S : List Nat) : Bool := rows (stw w S) == rows (restW w)
theorem joinB_iff {w : Web} {S : List Nat} (hS : ∀ x ∈ S, x < w.n) : joinB w S = true ↔ Joins w S := by
  rw [joinB, rows_iff (by rw [stw_n]; rfl)]
  simp only [stw_n]
  constructor
  · intro h i j hi hj hij hc
    have := (h i j hi hj).mpr ((restW_adj hi hj).mpr ⟨hij, hc⟩)
    exact ((stw_adj S w hS i j hi hj).mp this).2
  · intro h i j hi hj
    rw [stw_adj S w hS i j hi hj, restW_adj hi hj]
    exact ⟨fun ⟨a, b⟩ => ⟨a, ch_con b⟩, fun ⟨a, b⟩ => ⟨a, h i j hi hj a b⟩⟩
noncomputable def jns (w : Web) : List (List Nat) := srtT ((chs w.n).filter (joinB w))
theorem mem_jns {w : Web} {S : List Nat} : S ∈ jns w ↔ S ∈ chs w.n ∧ Joins w S := by
  rw [jns, mem_srtT, List.mem_filter]
  constructor
  · rintro ⟨h1, h2⟩; exact ⟨h1, (joinB_iff (mem_chs.mp h1).2).mp h2⟩
  · rintro ⟨h1, h2⟩; exact ⟨h1, (joinB_iff (mem_chs.mp h1).2).mpr h2⟩
theorem chs_256 (w : Web) : (chs w.n).length ≤ 256 := by
  rw [chs_len]
  exact Nat.pow_le_pow_right (n := 2) (by omega) w.le
theorem jns_256 (w : Web) : (jns w).length ≤ 256 := by
  have h1 := srtT_le ((chs w.n).filter (joinB w))
  have h2 := List.length_filter_le (joinB w) (chs w.n)
  have h3 := chs_256 w
  rw [jns]; omega
theorem con_ch {w : Web} {S : List Nat} (hS : ∀ x, x < w.n → x ∈ S) {i j : Nat} (hi : i < w.n) (h : Con w (fun _ => true) i j) : i = j ∨ Ch w (· ∈ S) i j := by
  induction h with
  | me => exact .inl rfl
  | @go j k h1 hk ha _ ih =>
    have hj := h1.lt hi
    rcases ih with rfl | h
    · exact .inr (.one i k hi hk ha)
    · exact .inr (.more i j k h (hS j hj) hk ha)
theorem range_chs (n : Nat) : List.range n ∈ chs n := mem_chs.mpr ⟨List.pairwise_lt_range, fun x hx => List.mem_range.mp hx⟩
theorem all_joins (w : Web) : List.range w.n ∈ jns w := mem_jns.mpr ⟨range_chs _, fun i j hi hj hij hc => (con_ch (fun x hx => List.mem_range.mpr hx) hi hc).resolve_left hij⟩
theorem minL_nat {xs : List Nat} (h : xs ≠ []) : ∃ m, m ∈ xs ∧ (∀ x ∈ xs, m ≤ x) ∧ biop .min [.list (xs.map nI)] = some (.val (nI m)) := by
  cases xs with
  | nil => exact absurd rfl h
  | cons x xs =>
    have e1 : ∃ m : Nat, ((x :: xs).map fun x : Nat => (x : Int)).min? = some (m : Int) ∧ m ∈ x :: xs := by
      cases hm : ((x :: xs).map fun x : Nat => (x : Int)).min? with
      | none => simp at hm
      | some i =>
        have := (List.min?_eq_some_iff.mp hm).1
        obtain ⟨m, hm1, rfl⟩ := List.mem_map.mp this
        exact ⟨m, rfl, hm1⟩
    obtain ⟨m, hm, hmem⟩ := e1
    refine ⟨m, hmem, fun y hy => ?_, ?_⟩
    · have := (List.min?_eq_some_iff.mp hm).2 (y : Int) (List.mem_map.mpr ⟨y, hy, rfl⟩)
      omega
    · rw [nI_map]
      simp only [biop, ints_map, hm, Option.map_some, int]
def bd_joining_in (f_rest_of f_choices f_told_in : Nat) : List MS := [(.asg (.nm 1) (.call f_rest_of [(.var 0)])), (.asg (.nm 2) (.lst [])), (.for (.nm 3) (.seq (.call f_choices [(.bi .len [(.var 0)])])) [(.ite (.cmp .eq (.call f_told_in [(.var 0), (.var 3)]) (.var 1)) [(.app 2 (.var 3))] [])]), (.ret (.bi .sorted [(.var 2)]))]
def bd_joining_sets (f_need_web f_joining_in : Nat) : List MS := [(.exp (.call f_need_web [(.var 0)])), (.ret (.call f_joining_in [(.var 0)]))]
def bd_least_joining (f_need_web f_joining_in : Nat) : List MS := [(.exp (.call f_need_web [(.var 0)])), (.asg (.nm 1) (.call f_joining_in [(.var 0)])), (.asg (.nm 2) (.bi .min [(.lc (.bi .len [(.var 3)]) (.nm 3) (.seq (.var 1)) none [3])])), (.ret (.lc (.var 3) (.nm 3) (.seq (.var 1)) (some (.cmp .eq (.bi .len [(.var 3)]) (.var 2))) [3]))]
def bd_must_call (f_need_web f_joining_in : Nat) : List MS := [(.exp (.call f_need_web [(.var 0)])), (.asg (.nm 1) (.call f_joining_in [(.var 0)])), (.asg (.nm 2) (.lst [])), (.for (.nm 3) (.rng (.bi .len [(.var 0)])) [(.ite (.bi .all [(.lc (.cmp .isin (.var 3) (.var 4)) (.nm 4) (.seq (.var 1)) none [4])]) [(.app 2 (.var 3))] [])]), (.ret (.bi .tuple [(.var 2)]))]
def bd_can_be_locked (f_need_web f_joining_in : Nat) : List MS := [(.exp (.call f_need_web [(.var 0)])), (.asg (.nm 1) (.call f_joining_in [(.var 0)])), (.asg (.nm 2) (.lst [])), (.for (.nm 3) (.rng (.bi .len [(.var 0)])) [(.ite (.bi .any [(.lc (.cmp .notin (.var 3) (.var 4)) (.nm 4) (.seq (.var 1)) none [4])]) [(.app 2 (.var 3))] [])]), (.ret (.bi .tuple [(.var 2)]))]
def bd_useless (f_need_web f_idle_in f_told_in f_choices : Nat) : List MS := [(.exp (.call f_need_web [(.var 0)])), (.asg (.nm 1) (.lst [])), (.for (.nm 2) (.rng (.bi .len [(.var 0)])) [(.ite (.bi .all [(.lc (.cmp .isin (.var 2) (.call f_idle_in [(.call f_told_in [(.var 0), (.var 3)])])) (.nm 3) (.seq (.call f_choices [(.bi .len [(.var 0)])])) none [3])]) [(.app 1 (.var 2))] [])]), (.ret (.bi .tuple [(.var 1)]))]
def bd_without (f_web_by f_pairs_in : Nat) : List MS := [(.ret (.call f_web_by [(.bi .len [(.var 0)]), (.lc (.var 2) (.nm 2) (.seq (.call f_pairs_in [(.var 0)])) (some (.cmp .notin (.var 1) (.var 2))) [2])]))]
def bd_cut_in (f_groups_in f_without : Nat) : List MS := [(.par [2, 3] [(.bi .len [(.call f_groups_in [(.var 0)])]), (.lst [])]), (.for (.nm 1) (.rng (.bi .len [(.var 0)])) [(.ite (.an (.cmp .ne (.ix (.var 0) (.var 1)) (.tup [])) (.cmp .gt (.bi .len [(.call f_groups_in [(.call f_without [(.var 0), (.var 1)])])]) (.bin .add (.var 2) (.cst (.int 1))))) [(.app 3 (.var 1))] [])]), (.ret (.var 3))]
def bd_leaves (f_need_web : Nat) : List MS := [(.exp (.call f_need_web [(.var 0)])), (.asg (.nm 1) (.lst [])), (.for (.nm 2) (.rng (.bi .len [(.var 0)])) [(.ite (.cmp .eq (.bi .len [(.ix (.var 0) (.var 2))]) (.cst (.int 1))) [(.app 1 (.var 2))] [])]), (.ret (.bi .tuple [(.var 1)]))]
def bd_open_groups (f_need_web f_groups_in f_is_table : Nat) : List MS := [(.exp (.call f_need_web [(.var 0)])), (.asg (.nm 1) (.lst [])), (.for (.nm 2) (.seq (.call f_groups_in [(.var 0)])) [(.ite (.nt (.call f_is_table [(.var 0), (.var 2)])) [(.app 1 (.var 2))] [])]), (.ret (.bi .tuple [(.var 1)]))]
def bd_open_threes (f_need_web : Nat) : List MS := [(.exp (.call f_need_web [(.var 0)])), (.asg (.nm 1) (.cst (.int 0))), (.for (.nm 2) (.seq (.var 0)) [(.aug 1 .add (.bi .len [(.lc2 (.cst (.int 1)) (.nm 3) (.seq (.var 2)) (.nm 4) (.seq (.var 2)) (some (.an (.cmp .lt (.var 3) (.var 4)) (.cmp .notin (.var 4) (.ix (.var 0) (.var 3))))) [3, 4] [4])]))]), (.ret (.var 1))]
abbrev HJoin (cf : Nat → List R → Option (R × List (Option R))) (f : Nat) : Prop := ∀ w : Web, Cl cf f [vR (toD w)] (vals ((jns w).map rowT))
abbrev HIdl (cf : Nat → List R → Option (R × List (Option R))) (f : Nat) : Prop := ∀ w : Web, Cl cf f [vR (toD w)] (vals ((idl w).map nI))
noncomputable def ljn (w : Web) (m : Nat) : List (List Nat) := (jns w).filter fun S => S.length == m
noncomputable def must (w : Web) : List Nat := (List.range w.n).filter fun p => (jns w).all fun S => S.contains p
noncomputable def canL (w : Web) : List Nat := (List.range w.n).filter fun p => (jns w).any fun S => !S.contains p
def usel (w : Web) : List Nat := (List.range w.n).filter fun p => (chs w.n).all fun S => (idl (stw w S)).contains p
def woC (w : Web) (p : Nat) : List (Nat × Nat) := (prs w).filter fun c => !(c.1 == p || c.2 == p)
theorem woC_good (w : Web) (p : Nat) : ∀ c ∈ woC w p, c.1 ≠ c.2 ∧ c.1 < w.n ∧ c.2 < w.n := fun c hc => good_prs w c (List.mem_filter.mp hc).1
def woW (w : Web) (p : Nat) : Web := webOf w.n (woC w p) w.pos w.le (woC_good w p)
theorem woW_adj {w : Web} {p i j : Nat} (hi : i < w.n) (hj : j < w.n) : (woW w p).adj i j = true ↔ w.adj i j = true ∧ i ≠ p ∧ j ≠ p := by
  rw [woW, webOf_adj, woC, List.mem_filter, List.mem_filter, mem_prs, mem_prs]
  simp only [Bool.not_eq_true', Bool.or_eq_false_iff, beq_eq_false_iff_ne, ne_eq]
  constructor
  · rintro (⟨⟨_, _, h, _⟩, h2, h3⟩ | ⟨⟨_, _, h, _⟩, h2, h3⟩)
    · exact ⟨h, h2, h3⟩
    · exact ⟨adj_sym h, h3, h2⟩
  · rintro ⟨h1, h2, h3⟩
    have hne : i ≠ j := fun e => by subst e; rw [w.irr] at h1; cases h1
    rcases Nat.lt_or_ge i j with h | h
    · exact .inl ⟨⟨hi, hj, h1, h⟩, h2, h3⟩
    · exact .inr ⟨⟨hj, hi, adj_sym h1, by omega⟩, h3, h2⟩
noncomputable def cuts (w : Web) : List Nat := (List.range w.n).filter fun p => !(nb w p).isEmpty && decide ((grps w).length + 1 < (grps (woW w p)).length)
def lvs (w : Web) : List Nat := (List.range w.n).filter fun p => (nb w p).length == 1
noncomputable def opg (w : Web) : List (List Nat) := (grps w).filter fun g => !tableB w g
def threes (w : Web) : Nat := ((List.range w.n).map fun p => (npr w p).length).sum
theorem X.iteZ {O : Orc} {env env1 e : Env} {c : ME} {A B : List MS} {o : Opd} {b : Bool} {fl : Fl} (h : ev O c env = some (o, env1)) (hv : view o env1 = some (.bool b, env1)) (hx : Xs O (if b then A else B) env1 fl e) : X O (.ite c A B) env fl e := by
  unfold X
  unfold Xs at hx
  rw [q_ex_ite, h, Option.bind_some]
  simp only [hv, Option.bind_some, asB]
  cases b <;> simpa using hx
theorem npr_len8 (w : Web) (p : Nat) : (npr w p).length ≤ 64 := by
  have := fm_len (npr1 w p) 8 (npr1_len w p) (nb w p)
  have := nb_len w p
  rw [npr]; omega
section
variable {cf : Nat → List R → Option (R × List (Option R))} {wh : WhT}
theorem b_joining_in {f g h : Nat} (hr : HRest cf f) (hc : HChoices cf g) (ht : HTold cf h) (w : Web) : ∃ e, Xs ⟨cf, wh⟩ (bd_joining_in f g h) [V (toD w), .no, .no, .no] (.ret (vals ((jns w).map rowT))) e := by
  have h8 := w.le
  have h256 := chs_256 w
  obtain ⟨s, hs, g1⟩ := X.gatherF (O := ⟨cf, wh⟩) (i := 3) (k := 2) (it := .seq (.call g [(.bi .len [(.var 0)])])) (cnd := .cmp .eq (.call h [(.var 0), (.var 3)]) (.var 1)) (elt := .var 3) (env := [V (toD w), V (toD (restW w)), L [], .no]) (xs := chs w.n) (f := rowT) (g := rowT) (c := joinB w) (acc := [])
    (I.seql (E.cl (.cons (E.lenw (.var rfl)) .nil) (hc w.n h8))) rfl rfl (by simp; omega) (fun S hS ds => (E.cmp (E.cl (.cons (.var rfl) (.cons (.var rfl) .nil)) (ht w S (mem_chs.mp hS).2)).wv (.var rfl) (cmp_web _ _)).wv) fun S hS _ ds => .var rfl
  have hsort := sortp_rows (ls := (chs w.n).filter (joinB w)) ((chs_nodup _).filter _) (by have := List.length_filter_le (joinB w) (chs w.n); omega)
  refine ⟨_, .nx (.asg (E.cl (.cons (.var rfl) .nil) (hr w)) rfl) (.nx (.asg nil_L rfl) (.nx g1 (.ret (.ret (E.bi1 (.vals rfl) ?_)))))⟩
  rw [List.nil_append]
  simp only [biop, hsort, Option.map_some]
  rfl
theorem b_joining_sets {f g : Nat} (hw : HWeb cf f) (hj : HJoin cf g) (w : Web) : ∃ e, Xs ⟨cf, wh⟩ (bd_joining_sets f g) [V (toD w)] (.ret (vals ((jns w).map rowT))) e :=
  ⟨_, .nx (.exp (E.cl (.cons (.var rfl) .nil) (hw w))) (.ret (.ret (E.cl (.cons (.var rfl) .nil) (hj w))))⟩
theorem len_rowT (S : List Nat) : biop .len [rowT S] = some (.val (nI S.length)) := by rw [rowT, len_map]
theorem b_least_joining {f g : Nat} (hw : HWeb cf f) (hj : HJoin cf g) (w : Web) : ∃ m e, ((∃ S ∈ jns w, S.length = m) ∧ ∀ S ∈ jns w, m ≤ S.length) ∧ Xs ⟨cf, wh⟩ (bd_least_joining f g) [V (toD w), .no, .no, .no] (.ret (vals ((ljn w m).map rowT))) e := by
  have h256 := jns_256 w
  obtain ⟨m, hm, hle, hmin⟩ := minL_nat (xs := (jns w).map fun S => S.length) (by
    have := all_joins w
    intro e
    rw [List.map_eq_nil_iff] at e
    rw [e] at this; cases this)
  obtain ⟨S0, hS0, rfl⟩ := List.mem_map.mp hm
  have c1 := lc_own (O := ⟨cf, wh⟩) (env := [V (toD w), L ((jns w).map rowT), .no, .no]) (elt := .bi .len [(.var 3)]) (i := 3) (j := 1) (xs := jns w) (f := rowT) (g := fun S => nI S.length) rfl rfl (by omega) fun S hS => E.bi1 (.var rfl) (len_rowT S)
  have e1 : (jns w).map (fun S => nI S.length) = ((jns w).map fun S => S.length).map nI := by rw [List.map_map]; rfl
  rw [e1] at c1
  have c2 := bi1_to c1 (by rw [fro_vals]; exact hmin)
  have c3 := E.lcFv (O := ⟨cf, wh⟩) (env := [V (toD w), V (.list ((jns w).map rowT)), V (nI S0.length), .no]) (elt := .var 3) (i := 3) (it := .seq (.var 1)) (cnd := .cmp .eq (.bi .len [(.var 3)]) (.var 2)) (xs := jns w) (f := rowT) (g := rowT) (c := fun S => S.length == S0.length)
    (I.seq (.var rfl) rfl) rfl (by omega) (fun S hS => (E.cmp (E.bi1 (.var rfl) (len_rowT S)).wv (.var rfl) (eq_nat _ _)).wv) fun S hS _ => .var rfl
  exact ⟨S0.length, _, ⟨⟨S0, hS0, rfl⟩, fun S hS => hle _ (List.mem_map.mpr ⟨S, hS, rfl⟩)⟩, .nx (.exp (E.cl (.cons (.var rfl) .nil) (hw w))) (.nx (.asg (E.cl (.cons (.var rfl) .nil) (hj w)) rfl) (.nx (asg_to c2 rfl) (.ret (.ret c3))))⟩
theorem frz_lc {O : Orc} {w : Web} {elt : ME} {g : List Nat → Bool} {s1 : Sl} {p : Nat} {acc : List PyData} (hl : (jns w).length ≤ 1000) (h1 : s1 = L ((jns w).map rowT) ∨ s1 = V (.list ((jns w).map rowT)))
    (hf : ∀ S, E O elt [V (toD w), V (.list ((jns w).map rowT)), L acc, V (nI p), V (rowT S)] (vR (.bool (g S)))) :
    ev O (.lc elt (.nm 4) (.seq (.var 1)) none [4]) [V (toD w), s1, L acc, V (nI p), .no] = some (.tm (vals ((jns w).map fun S => .bool (g S))), [V (toD w), V (.list ((jns w).map rowT)), L acc, V (nI p), .no]) := by
  rcases h1 with rfl | rfl
  · exact lc_own (O := O) (env := [V (toD w), L ((jns w).map rowT), L acc, V (nI p), .no]) (i := 4) (j := 1) (f := rowT) rfl rfl hl fun S _ => hf S
  · exact E.lcv (O := O) (env := [V (toD w), V (.list ((jns w).map rowT)), L acc, V (nI p), .no]) (i := 4) (f := rowT) (I.seq (.var rfl) rfl) rfl hl fun S _ => hf S
theorem b_must_call {f g : Nat} (hw : HWeb cf f) (hj : HJoin cf g) (w : Web) : ∃ e, Xs ⟨cf, wh⟩ (bd_must_call f g) [V (toD w), .no, .no, .no, .no] (.ret (vR (.tuple ((must w).map nI)))) e := by
  have h256 := jns_256 w
  have h8 := w.le
  obtain ⟨e1, g1, s1, s3, rfl, _, _⟩ := X.forP (O := ⟨cf, wh⟩) (tg := .nm 3) (it := .rng (.bi .len [(.var 0)])) (b := [(.ite (.bi .all [(.lc (.cmp .isin (.var 3) (.var 4)) (.nm 4) (.seq (.var 1)) none [4])]) [(.app 2 (.var 3))] [])]) (env := [V (toD w), L ((jns w).map rowT), L [], .no, .no]) (env1 := [V (toD w), L ((jns w).map rowT), L [], .no, .no]) (xs := List.range w.n) (f := nI)
    (fun pre e => ∃ s1 s3, e = [V (toD w), s1, L ((pre.filter fun p => (jns w).all fun S => S.contains p).map nI), s3, .no] ∧ (s1 = L ((jns w).map rowT) ∨ s1 = V (.list ((jns w).map rowT))) ∧ notLk s3 = true) (I.rng (E.lenw (.var rfl)).wv (by omega)) ⟨_, _, rfl, .inl rfl, rfl⟩ fun pre p e hp hpre hI => by
      obtain ⟨s1, s3, rfl, h1, h3⟩ := hI
      have h0 := List.length_filter_le (fun p => (jns w).all fun S => S.contains p) pre
      rw [List.length_range] at hpre
      have c1 := frz_lc (O := ⟨cf, wh⟩) (w := w) (elt := .cmp .isin (.var 3) (.var 4)) (g := fun S => S.contains p) (p := p) (acc := (pre.filter fun p => (jns w).all fun S => S.contains p).map nI) (by omega) h1 fun S => E.cmp (.var rfl) (.var rfl) (in_nat p S)
      have c2 := bi1_to c1 (by rw [fro_vals]; exact all_map _ _)
      refine ⟨_, [V (toD w), V (.list ((jns w).map rowT)), L (((pre ++ [p]).filter fun p => (jns w).all fun S => S.contains p).map nI), V (nI p), .no], bindT_nm h3, .last (X.iteZ c2 rfl ?_), _, _, rfl, .inr rfl, rfl⟩
      cases hc : (jns w).all fun S => S.contains p
      · simp only [Bool.false_eq_true, if_false, List.filter_append, List.filter_cons, hc, List.filter_nil, List.append_nil]
        exact .nil
      · simp only [if_true, List.filter_append, List.filter_cons, hc, List.filter_nil, List.map_append, List.map_cons, List.map_nil]
        exact .last (X.appv rfl (.var rfl) (by simp only [List.length_map]; omega))
  exact ⟨_, .nx (.exp (E.cl (.cons (.var rfl) .nil) (hw w))) (.nx (.asg (E.cl (.cons (.var rfl) .nil) (hj w)) rfl) (.nx (.asg nil_L rfl) (.nx g1 (.ret (.ret (.tupl (.vals rfl)))))))⟩
theorem b_can_be_locked {f g : Nat} (hw : HWeb cf f) (hj : HJoin cf g) (w : Web) : ∃ e, Xs ⟨cf, wh⟩ (bd_can_be_locked f g) [V (toD w), .no, .no, .no, .no] (.ret (vR (.tuple ((canL w).map nI)))) e := by
  have h256 := jns_256 w
  have h8 := w.le
  obtain ⟨e1, g1, s1, s3, rfl, _, _⟩ := X.forP (O := ⟨cf, wh⟩) (tg := .nm 3) (it := .rng (.bi .len [(.var 0)])) (b := [(.ite (.bi .any [(.lc (.cmp .notin (.var 3) (.var 4)) (.nm 4) (.seq (.var 1)) none [4])]) [(.app 2 (.var 3))] [])]) (env := [V (toD w), L ((jns w).map rowT), L [], .no, .no]) (env1 := [V (toD w), L ((jns w).map rowT), L [], .no, .no]) (xs := List.range w.n) (f := nI)
    (fun pre e => ∃ s1 s3, e = [V (toD w), s1, L ((pre.filter fun p => (jns w).any fun S => !S.contains p).map nI), s3, .no] ∧ (s1 = L ((jns w).map rowT) ∨ s1 = V (.list ((jns w).map rowT))) ∧ notLk s3 = true) (I.rng (E.lenw (.var rfl)).wv (by omega)) ⟨_, _, rfl, .inl rfl, rfl⟩ fun pre p e hp hpre hI => by
      obtain ⟨s1, s3, rfl, h1, h3⟩ := hI
      have h0 := List.length_filter_le (fun p => (jns w).any fun S => !S.contains p) pre
      rw [List.length_range] at hpre
      have c1 := frz_lc (O := ⟨cf, wh⟩) (w := w) (elt := .cmp .notin (.var 3) (.var 4)) (g := fun S => !S.contains p) (p := p) (acc := (pre.filter fun p => (jns w).any fun S => !S.contains p).map nI) (by omega) h1 fun S => E.cmp (.var rfl) (.var rfl) (cmp_notin (in_nat p S))
      have c2 := bi1_to c1 (by rw [fro_vals]; exact any_map _ _)
      refine ⟨_, [V (toD w), V (.list ((jns w).map rowT)), L (((pre ++ [p]).filter fun p => (jns w).any fun S => !S.contains p).map nI), V (nI p), .no], bindT_nm h3, .last (X.iteZ c2 rfl ?_), _, _, rfl, .inr rfl, rfl⟩
      cases hc : (jns w).any fun S => !S.contains p
      · simp only [Bool.false_eq_true, if_false, List.filter_append, List.filter_cons, hc, List.filter_nil, List.append_nil]
        exact .nil
      · simp only [if_true, List.filter_append, List.filter_cons, hc, List.filter_nil, List.map_append, List.map_cons, List.map_nil]
        exact .last (X.appv rfl (.var rfl) (by simp only [List.length_map]; omega))
  exact ⟨_, .nx (.exp (E.cl (.cons (.var rfl) .nil) (hw w))) (.nx (.asg (E.cl (.cons (.var rfl) .nil) (hj w)) rfl) (.nx (.asg nil_L rfl) (.nx g1 (.ret (.ret (.tupl (.vals rfl)))))))⟩
theorem b_useless {f g h k : Nat} (hw : HWeb cf f) (hid : HIdl cf g) (ht : HTold cf h) (hc : HChoices cf k) (w : Web) : ∃ e, Xs ⟨cf, wh⟩ (bd_useless f g h k) [V (toD w), .no, .no, .no] (.ret (vR (.tuple ((usel w).map nI)))) e := by
  have h8 := w.le
  have h256 := chs_256 w
  obtain ⟨s, hs, g1⟩ := X.gatherF (O := ⟨cf, wh⟩) (i := 2) (k := 1) (it := .rng (.bi .len [(.var 0)])) (cnd := .bi .all [(.lc (.cmp .isin (.var 2) (.call g [(.call h [(.var 0), (.var 3)])])) (.nm 3) (.seq (.call k [(.bi .len [(.var 0)])])) none [3])]) (elt := .var 2) (env := [V (toD w), L [], .no, .no]) (xs := List.range w.n) (f := nI) (g := nI) (c := fun p => (chs w.n).all fun S => (idl (stw w S)).contains p) (acc := [])
    (I.rng (E.lenw (.var rfl)).wv (by omega)) rfl rfl (by simp; omega) (fun p hp ds => (E.bi1 (E.lcv (O := ⟨cf, wh⟩) (env := [V (toD w), L ds, V (nI p), .no]) (i := 3) (xs := chs w.n) (f := rowT) (g := fun S => .bool ((idl (stw w S)).contains p)) (I.seql (E.cl (.cons (E.lenw (.var rfl)) .nil) (hc w.n h8))) rfl (by omega) fun S hS => E.cmp (.var rfl) (E.cl (.cons (E.cl (.cons (.var rfl) (.cons (.var rfl) .nil)) (ht w S (mem_chs.mp hS).2)) .nil) (hid (stw w S))).wl (in_natl _ _)).wl (all_map _ _)).wv) fun x hx hcx ds => .var rfl
  exact ⟨_, .nx (.exp (E.cl (.cons (.var rfl) .nil) (hw w))) (.nx (.asg nil_L rfl) (.nx g1 (.ret (.ret (.tupl (.vals rfl))))))⟩
theorem hasP (p : Nat) (c : Nat × Nat) : cmpop .isin (nI p) (cp c) = some (c.1 == p || c.2 == p) := by
  have := in_nat p [c.1, c.2]
  have e : (PyData.tuple ([c.1, c.2].map nI)) = cp c := rfl
  rw [e] at this
  rw [this]
  congr 1
  rw [Bool.eq_iff_iff]
  simp only [List.contains_iff_mem, List.mem_cons, List.not_mem_nil, or_false, Bool.or_eq_true, beq_iff_eq]
  constructor
  · rintro (h | h)
    · exact .inl h.symm
    · exact .inr h.symm
  · rintro (h | h)
    · exact .inl h.symm
    · exact .inr h.symm
abbrev HWo (cf : Nat → List R → Option (R × List (Option R))) (f : Nat) : Prop := ∀ (w : Web) (p : Nat), Cl cf f [vR (toD w), vR (nI p)] (vR (toD (woW w p)))
theorem b_without {f g : Nat} (hb : HBy6 cf f) (hp : HPairsIn cf g) (w : Web) (p : Nat) : ∃ e, Xs ⟨cf, wh⟩ (bd_without f g) [V (toD w), V (nI p), .no] (.ret (vR (toD (woW w p)))) e := by
  have h28 := prs_28 w
  have hlc := E.lcFv (O := ⟨cf, wh⟩) (env := [V (toD w), V (nI p), .no]) (elt := .var 2) (i := 2) (it := .seq (.call g [(.var 0)])) (cnd := .cmp .notin (.var 1) (.var 2)) (xs := prs w) (f := cp) (g := cp) (c := fun c => !(c.1 == p || c.2 == p))
    (I.seql (E.cl (.cons (.var rfl) .nil) (hp w))) rfl (by omega) (fun c hc => (E.cmp (.var rfl) (.var rfl) (cmp_notin (hasP p c))).wv) fun c hc _ => .var rfl
  have hl : (woC w p).length ≤ 60 := by
    have := List.length_filter_le (fun c : Nat × Nat => !(c.1 == p || c.2 == p)) (prs w)
    rw [woC]; omega
  exact ⟨_, .ret (.ret (E.cl (.cons (E.lenw (.var rfl)) (.cons hlc .nil)) (hb w.n (woC w p) w.pos w.le (woC_good w p) hl)))⟩
theorem ne_tup (xs : List Nat) : cmpop .ne (.tuple (xs.map nI)) (.tuple []) = some (!xs.isEmpty) := by
  rw [cmp_ne (sh_tup (k := 0) (sh_ints _)) (sh_tup (k := 0) fun d hd => by cases hd), eqv_nil]
  cases xs <;> rfl
theorem b_cut_in {f g : Nat} (hg : HGroups cf f) (hwo : HWo cf g) (w : Web) : ∃ e, Xs ⟨cf, wh⟩ (bd_cut_in f g) [V (toD w), .no, .no, .no] (.ret (vals ((cuts w).map nI))) e := by
  have h8 := w.le
  obtain ⟨s, hs, g1⟩ := X.gatherF (O := ⟨cf, wh⟩) (i := 1) (k := 3) (it := .rng (.bi .len [(.var 0)])) (cnd := .an (.cmp .ne (.ix (.var 0) (.var 1)) (.tup [])) (.cmp .gt (.bi .len [(.call f [(.call g [(.var 0), (.var 1)])])]) (.bin .add (.var 2) (.cst (.int 1))))) (elt := .var 1) (env := [V (toD w), .no, V (nI (grps w).length), L []]) (xs := List.range w.n) (f := nI) (g := nI) (c := fun p => !(nb w p).isEmpty && decide ((grps w).length + 1 < (grps (woW w p)).length)) (acc := [])
    (I.rng (E.lenw (.var rfl)).wv (by omega)) rfl rfl (by simp; omega) (fun p hp ds => (E.an (E.cmp (E.ixw (.var rfl) (.var rfl) (List.mem_range.mp hp)).wv (E.tup .nil).wv (ne_tup _)).wv fun _ => E.cmp (E.lenl (E.cl (.cons (E.cl (.cons (.var rfl) (.cons (.var rfl) .nil)) (hwo w p)) .nil) (hg (woW w p))).wl).wv (E.bin (.var rfl) .cst (add_nat _ 1)).wv (by rw [List.length_map]; exact gt_nat _ _)).wv) fun x hx hcx ds => .var rfl
  have hl : E ⟨cf, wh⟩ (.bi .len [(.call f [(.var 0)])]) [V (toD w), .no, .no, .no] (vR (nI (grps w).length)) := (E.lenl (E.cl (.cons (.var rfl) .nil) (hg w)).wl).to (by rw [List.length_map])
  exact ⟨_, .nx (.par2 hl nil_L rfl rfl) (.nx g1 (.ret (.retl rfl)))⟩
theorem b_leaves {f : Nat} (hw : HWeb cf f) (w : Web) : ∃ e, Xs ⟨cf, wh⟩ (bd_leaves f) [V (toD w), .no, .no] (.ret (vR (.tuple ((lvs w).map nI)))) e := by
  have h8 := w.le
  obtain ⟨s, hs, g1⟩ := X.gatherF (O := ⟨cf, wh⟩) (i := 2) (k := 1) (it := .rng (.bi .len [(.var 0)])) (cnd := .cmp .eq (.bi .len [(.ix (.var 0) (.var 2))]) (.cst (.int 1))) (elt := .var 2) (env := [V (toD w), L [], .no]) (xs := List.range w.n) (f := nI) (g := nI) (c := fun p => (nb w p).length == 1) (acc := [])
    (I.rng (E.lenw (.var rfl)).wv (by omega)) rfl rfl (by simp; omega) (fun p hp ds => (E.cmp (E.bi1 (E.ixw (.var rfl) (.var rfl) (List.mem_range.mp hp)).wv (len_map _ _)).wv .cst (eq_nat _ 1)).wv) fun x hx hcx ds => .var rfl
  exact ⟨_, .nx (.exp (E.cl (.cons (.var rfl) .nil) (hw w))) (.nx (.asg nil_L rfl) (.nx g1 (.ret (.ret (.tupl (.vals rfl))))))⟩
theorem b_open_groups {f g h : Nat} (hw : HWeb cf f) (hg : HGroups cf g) (ht : HTable cf h) (w : Web) : ∃ e, Xs ⟨cf, wh⟩ (bd_open_groups f g h) [V (toD w), .no, .no] (.ret (vR (.tuple ((opg w).map rowT)))) e := by
  have h8 := w.le
  have hlen := grps_len w
  obtain ⟨s, hs, g1⟩ := X.gatherF (O := ⟨cf, wh⟩) (i := 2) (k := 1) (it := .seq (.call g [(.var 0)])) (cnd := .nt (.call h [(.var 0), (.var 2)])) (elt := .var 2) (env := [V (toD w), L [], .no]) (xs := grps w) (f := rowT) (g := rowT) (c := fun g => !tableB w g) (acc := [])
    (I.seql (E.cl (.cons (.var rfl) .nil) (hg w))) rfl rfl (by simp; omega) (fun gr hgr ds => by
      obtain ⟨p, hp, rfl⟩ := mem_grps.mp hgr
      exact (E.nt (E.cl (.cons (.var rfl) (.cons (.var rfl) .nil)) (ht w (grp w p) grp_below (grp_len w p))).wv).wv) fun x hx hcx ds => .var rfl
  exact ⟨_, .nx (.exp (E.cl (.cons (.var rfl) .nil) (hw w))) (.nx (.asg nil_L rfl) (.nx g1 (.ret (.ret (.tupl (.vals rfl))))))⟩
theorem X.augv {O : Orc} {env : Env} {i : Nat} {e : ME} {a b : Nat} (hg : gt env i = V (nI a)) (h : E O e env (vR (nI b))) : X O (.aug i .add e) env .nx (st env i (V (nI (a + b)))) := by
  unfold E at h
  unfold X
  rw [q_ex_aug, hg]
  dsimp only
  rw [h, Option.bind_some]
  have e2 : augop .add (nI a) (nI b) = some (.val (nI (a + b))) := by simp [augop, binop, int, nI]
  simp only [view, fro, Option.bind_some, e2]
  rw [bindR_nm (by rw [hg]; rfl), Option.bind_some]
theorem b_open_threes {f : Nat} (hw : HWeb cf f) (w : Web) : ∃ e, Xs ⟨cf, wh⟩ (bd_open_threes f) [V (toD w), .no, .no, .no, .no] (.ret (vR (nI (threes w)))) e := by
  obtain ⟨e1, g1, s2, rfl, _⟩ := X.forP (O := ⟨cf, wh⟩) (tg := .nm 2) (it := .seq (.var 0)) (b := [(.aug 1 .add (.bi .len [(.lc2 (.cst (.int 1)) (.nm 3) (.seq (.var 2)) (.nm 4) (.seq (.var 2)) (some (.an (.cmp .lt (.var 3) (.var 4)) (.cmp .notin (.var 4) (.ix (.var 0) (.var 3))))) [3, 4] [4])]))]) (env := [V (toD w), V (nI 0), .no, .no, .no]) (env1 := [V (toD w), V (nI 0), .no, .no, .no]) (xs := List.range w.n) (f := rowD w)
    (fun pre e => ∃ s2, e = [V (toD w), V (nI (pre.map fun p => (npr w p).length).sum), s2, .no, .no] ∧ notLk s2 = true) (I.seq (.var rfl) rfl) ⟨_, rfl, rfl⟩ fun pre p e hp hpre hI => by
      obtain ⟨s2, rfl, h2⟩ := hI
      have hc : ∀ i j : Nat, i < w.n → W ⟨cf, wh⟩ (.an (.cmp .lt (.var 3) (.var 4)) (.cmp .notin (.var 4) (.ix (.var 0) (.var 3)))) [V (toD w), V (nI (pre.map fun p => (npr w p).length).sum), V (rowD w p), V (nI i), V (nI j)] (.bool (decide (i < j) && !(nb w i).contains j)) := fun i j hi =>
        (E.an (E.cmp (.var rfl) (.var rfl) (lt_nat _ _)).wv fun _ => E.cmp (.var rfl) (E.ixw (.var rfl) (.var rfl) hi).wv (cmp_notin (in_nat _ _))).wv
      have hn64 := npr_len8 w p
      have e0 : ((nb w p).flatMap fun x => ((nb w p).filter fun y => decide (x < y) && !(nb w x).contains y).map fun _ => PyData.int 1).length = (npr w p).length := by
        rw [npr, List.length_flatMap, List.length_flatMap]
        congr 1
        refine List.map_congr_left fun x _ => ?_
        rw [npr1, List.length_map, List.length_map]
      have hlc := E.lc2 (O := ⟨cf, wh⟩) (env := [V (toD w), V (nI (pre.map fun p => (npr w p).length).sum), V (rowD w p), .no, .no]) (elt := .cst (.int 1)) (cnd := .an (.cmp .lt (.var 3) (.var 4)) (.cmp .notin (.var 4) (.ix (.var 0) (.var 3)))) (i := 3) (j := 4) (it := .seq (.var 2)) (it' := .seq (.var 2)) (xs := nb w p) (ys := fun _ => nb w p) (f := nI) (g := nI) (c := fun x y => decide (x < y) && !(nb w x).contains y) (h := fun _ _ => .int 1)
        (I.seq (.var rfl) rfl) rfl rfl (by rw [e0]; omega) (fun x hx => I.seq (.var rfl) rfl) (fun x hx y hy => hc x y (nb_below w p x hx)) fun x hx y hy hxy => .cst
      have h1 := E.lenl hlc.wl
      rw [e0] at h1
      refine ⟨_, _, bindT_nm h2, .last (X.augv rfl h1), V (rowD w p), ?_, rfl⟩
      simp only [List.map_append, List.map_cons, List.map_nil, List.sum_append, List.sum_cons, List.sum_nil, Nat.add_zero]
      rfl
  exact ⟨_, .nx (.exp (E.cl (.cons (.var rfl) .nil) (hw w))) (.nx (.asg .cst rfl) (.nx g1 (.ret (.ret (.var rfl)))))⟩
end
end Ev.Z
set_option autoImplicit false
set_option linter.all false
set_option maxRecDepth 100000
/-! Cut people must be called; idle people need not. -/
namespace Ev.Z
open PySem
abbrev tt : Nat → Bool := fun _ => true
theorem Con.last {w : Web} {c : Nat → Bool} {p j : Nat} (h : Con w c p j) : j = p ∨ ∃ k, Con w c p k ∧ w.adj k j = true ∧ c j = true ∧ j < w.n := by
  cases h with
  | me => exact .inl rfl
  | @go k _ h1 h2 h3 h4 => exact .inr ⟨k, h1, h3, h4, h2⟩
theorem wo_con {w : Web} {p i j : Nat} (hi : i < w.n) (h : Con (woW w p) tt i j) : Con w tt i j := by
  induction h with
  | me => exact .me
  | @go j k h1 hk ha _ ih => exact .go ih hk ((woW_adj (w := w) (h1.lt (w := woW w p) hi) hk).mp ha).1 rfl
theorem wo_ne {w : Web} {p i j : Nat} (hi : i < w.n) (hip : i ≠ p) (h : Con (woW w p) tt i j) : j ≠ p := by
  rcases h.last with rfl | ⟨k, hk, ha, _, hj⟩
  · exact hip
  · exact ((woW_adj (w := w) (hk.lt (w := woW w p) hi) hj).mp ha).2.2
theorem wo_me {w : Web} {p j : Nat} (hp : p < w.n) (h : Con (woW w p) tt p j) : j = p := by
  induction h with
  | me => rfl
  | @go j k h1 hk ha _ ih =>
    subst ih
    exact absurd rfl ((woW_adj (w := w) hp hk).mp ha).2.1
theorem nodup_sub' {α : Type} [DecidableEq α] : ∀ {l m : List α}, l.Nodup → (∀ x ∈ l, x ∈ m) → l.length ≤ m.length
  | [], _, _, _ => Nat.zero_le _
  | a :: l, m, h, hs => by
    rw [List.nodup_cons] at h
    have ha := hs a List.mem_cons_self
    have := nodup_sub' (m := m.erase a) h.2 fun x hx => (List.mem_erase_of_ne fun e => h.1 (by subst e; exact hx)).mpr (hs x (List.mem_cons_of_mem _ hx))
    rw [List.length_erase_of_mem ha] at this
    have := List.length_pos_of_mem ha
    rw [List.length_cons]
    omega
/-- p parts two people -/
def Parts (w : Web) (p : Nat) : Prop := ∃ i j, i < w.n ∧ j < w.n ∧ i ≠ p ∧ j ≠ p ∧ Con w tt i j ∧ ¬ Con (woW w p) tt i j
theorem grp_ext {w : Web} {p : Nat} {l : List Nat} (hp : p < w.n) (hl : l.Pairwise (· < ·)) (h : ∀ j, j ∈ l ↔ Con w tt p j) : l = grp w p :=
  List.Perm.eq_of_pairwise (le := (· < ·)) (fun a b _ _ h1 h2 => by omega) hl (grp_lt w p) ((List.perm_ext_iff_of_nodup (hl.imp fun h => by omega) ((grp_lt w p).imp fun h => by omega)).mpr fun j => (h j).trans (mem_grp hp).symm)
theorem parts_of_cut {w : Web} {p : Nat} (hp : p < w.n) (h : (grps w).length + 1 < (grps (woW w p)).length) : Parts w p := by
  refine Classical.byContradiction fun hn => ?_
  have hno : ∀ i j, i < w.n → j < w.n → i ≠ p → j ≠ p → Con w tt i j → Con (woW w p) tt i j := fun i j hi hj hip hjp hc => Classical.byContradiction fun q => hn ⟨i, j, hi, hj, hip, hjp, hc, q⟩
  have hsub : ∀ g ∈ grps (woW w p), g ∈ [p] :: (grps w).map (fun g => g.filter fun x => decide (x ≠ p)) := fun g hg => by
    obtain ⟨q, hq, rfl⟩ := mem_grps.mp hg
    have hq : q < w.n := hq
    by_cases hqp : q = p
    · subst hqp
      refine List.mem_cons.mpr (.inl ?_)
      refine (grp_ext (w := woW w q) hp (by simp) fun j => ?_).symm
      rw [List.mem_singleton]
      exact ⟨fun e => e ▸ .me, fun h => wo_me hp h⟩
    · refine List.mem_cons_of_mem _ (List.mem_map.mpr ⟨grp w q, mem_grps.mpr ⟨q, hq, rfl⟩, ?_⟩)
      refine grp_ext (w := woW w p) hq ((grp_lt w q).filter _) fun j => ?_
      rw [List.mem_filter, mem_grp hq, decide_eq_true_eq]
      exact ⟨fun h => hno q j hq (h.1.lt hq) hqp h.2 h.1, fun h => ⟨wo_con hq h, wo_ne hq hqp h⟩⟩
  have := nodup_sub' (srtT_nodup _) hsub
  rw [List.length_cons, List.length_map] at this
  have e : (srtT ((List.range (woW w p).n).map (grp (woW w p)))).length = (grps (woW w p)).length := rfl
  omega
theorem wo_apart {w : Web} {p q : Nat} (hp : p < w.n) (hq : q < w.n) (h : p ∉ grp w q) : grp (woW w p) q = grp w q := by
  refine (grp_ext (w := woW w p) hq (grp_lt w q) fun j => ?_).symm
  rw [mem_grp hq]
  constructor
  · intro hc
    induction hc with
    | me => exact .me
    | @go j k h1 hk ha _ ih =>
      have hj := h1.lt hq
      have hjp : j ≠ p := fun e => h ((mem_grp hq).mpr (e ▸ h1))
      have hkp : k ≠ p := fun e => h ((mem_grp hq).mpr (e ▸ Con.go h1 hk ha rfl))
      exact .go ih hk ((woW_adj (w := w) hj hk).mpr ⟨ha, hjp, hkp⟩) rfl
  · exact wo_con hq
theorem cut_of_parts {w : Web} {p : Nat} (hp : p < w.n) (h : Parts w p) : (nb w p).isEmpty = false ∧ (grps w).length + 1 < (grps (woW w p)).length := by
  obtain ⟨i, j, hi, hj, hip, hjp, hc, hnc⟩ := h
  have hpi : p ∈ grp w i := Classical.byContradiction fun q => by
    have := wo_apart hp hi q
    have h2 := (mem_grp hi).mpr hc
    rw [← this, mem_grp (w := woW w p) hi] at h2
    exact hnc h2
  have hcpi : Con w tt i p := (mem_grp hi).mp hpi
  have hnb : (nb w p).isEmpty = false := by
    rcases hcpi.last with e | ⟨k, hk, ha, _⟩
    · exact absurd e.symm hip
    · have : k ∈ nb w p := mem_nb.mpr ⟨hk.lt hi, adj_sym ha⟩
      cases hl : nb w p with
      | nil => rw [hl] at this; cases this
      | cons _ _ => rfl
  refine ⟨hnb, ?_⟩
  have hgi : ∀ g ∈ grps w, p ∉ g → ∀ x ∈ g, ∀ y, y < w.n → p ∈ grp w y → x ∈ grp (woW w p) y → False := fun g hg hpg x hx y hy hpy hxy => by
    obtain ⟨q, hq, rfl⟩ := mem_grps.mp hg
    have h1 := wo_con hy ((mem_grp (w := woW w p) hy).mp hxy)
    have h2 := (mem_grp hq).mp hx
    exact hpg ((mem_grp hq).mpr ((h2.trans (h1.symm hy rfl)).trans ((mem_grp hy).mp hpy)))
  have hpj : p ∈ grp w j := (mem_grp hj).mpr ((hc.symm hi rfl).trans hcpi)
  have self' : ∀ q, q < w.n → q ∈ grp (woW w p) q := fun q hq => grp_self (w := woW w p) hq
  have hsub : ∀ g ∈ [p] :: grp (woW w p) i :: grp (woW w p) j :: (grps w).filter (fun g => decide (p ∉ g)), g ∈ grps (woW w p) := fun g hg => by
    rcases List.mem_cons.mp hg with rfl | hg
    · refine mem_grps.mpr ⟨p, hp, grp_ext (w := woW w p) hp (by simp) fun j => ?_⟩
      rw [List.mem_singleton]
      exact ⟨fun e => e ▸ .me, fun h => wo_me hp h⟩
    rcases List.mem_cons.mp hg with rfl | hg
    · exact mem_grps.mpr ⟨i, hi, rfl⟩
    rcases List.mem_cons.mp hg with rfl | hg
    · exact mem_grps.mpr ⟨j, hj, rfl⟩
    rw [List.mem_filter, decide_eq_true_eq] at hg
    obtain ⟨q, hq, rfl⟩ := mem_grps.mp hg.1
    exact mem_grps.mpr ⟨q, hq, (wo_apart hp hq hg.2).symm⟩
  have nd : ([p] :: grp (woW w p) i :: grp (woW w p) j :: (grps w).filter (fun g => decide (p ∉ g))).Nodup := by
    have pn : ∀ q, q < w.n → q ≠ p → p ∉ grp (woW w p) q := fun q hq hqp h => wo_ne hq hqp ((mem_grp (w := woW w p) hq).mp h) rfl
    rw [List.nodup_cons, List.nodup_cons, List.nodup_cons]
    refine ⟨fun h => ?_, fun h => ?_, fun h => ?_, (srtT_nodup _).filter _⟩
    · have hm : p ∈ [p] := List.mem_singleton.mpr rfl
      rcases List.mem_cons.mp h with e | h
      · rw [e] at hm; exact pn i hi hip hm
      rcases List.mem_cons.mp h with e | h
      · rw [e] at hm; exact pn j hj hjp hm
      · rw [List.mem_filter, decide_eq_true_eq] at h
        exact h.2 hm
    · rcases List.mem_cons.mp h with e | h
      · have := self' j hj
        rw [← e] at this
        exact hnc ((mem_grp (w := woW w p) hi).mp this)
      · rw [List.mem_filter, decide_eq_true_eq] at h
        exact hgi _ h.1 h.2 i (self' i hi) i hi hpi (self' i hi)
    · rw [List.mem_filter, decide_eq_true_eq] at h
      exact hgi _ h.1 h.2 j (self' j hj) j hj hpj (self' j hj)
  have h1 := nodup_sub' nd hsub
  have h2 := cnt_not (fun g => decide (p ∈ g)) (grps w)
  have h3 : ((grps w).filter fun g => decide (p ∈ g)).length ≤ [grp w p].length := nodup_sub' ((srtT_nodup _).filter _) fun g hg => by
    rw [List.mem_filter, decide_eq_true_eq] at hg
    obtain ⟨q, hq, rfl⟩ := mem_grps.mp hg.1
    exact List.mem_singleton.mpr (grp_eq hq hg.2).symm
  have e : (grps w).filter (fun g => !decide (p ∈ g)) = (grps w).filter fun g => decide (p ∉ g) := List.filter_congr fun g _ => by simp
  rw [e] at h2
  simp only [List.length_cons, List.length_nil] at h1 h3
  omega
theorem mem_cuts {w : Web} {p : Nat} : p ∈ cuts w ↔ p < w.n ∧ Parts w p := by
  rw [cuts, List.mem_filter, List.mem_range, Bool.and_eq_true, Bool.not_eq_true', decide_eq_true_eq]
  exact ⟨fun h => ⟨h.1, parts_of_cut h.1 h.2.2⟩, fun h => ⟨h.1, cut_of_parts h.1 h.2⟩⟩
/-- who parts nobody need not be called -/
theorem joins_but {w : Web} {p : Nat} (hp : p < w.n) (h : ¬ Parts w p) : Joins w ((List.range w.n).filter fun x => decide (x ≠ p)) := by
  have hno : ∀ i j, i < w.n → j < w.n → i ≠ p → j ≠ p → Con w tt i j → Con (woW w p) tt i j := fun i j hi hj hip hjp hc => Classical.byContradiction fun q => h ⟨i, j, hi, hj, hip, hjp, hc, q⟩
  have hS : ∀ x, x < w.n → x ≠ p → x ∈ (List.range w.n).filter fun x => decide (x ≠ p) := fun x hx hxp => List.mem_filter.mpr ⟨List.mem_range.mpr hx, by simpa using hxp⟩
  have k1 : ∀ i j, i < w.n → i ≠ p → Con (woW w p) tt i j → i = j ∨ Ch w (· ∈ (List.range w.n).filter fun x => decide (x ≠ p)) i j := fun i j hi hip hc => by
    induction hc with
    | me => exact .inl rfl
    | @go j k h1 hk ha _ ih =>
      have hj : j < w.n := h1.lt (w := woW w p) hi
      have ha := (woW_adj (w := w) hj hk).mp ha
      rcases ih with rfl | ih
      · exact .inr (.one i k hi hk ha.1)
      · exact .inr (.more i j k ih (hS j hj ha.2.1) hk ha.1)
  have k2 : ∀ i, i < w.n → i ≠ p → Con w tt i p → Ch w (· ∈ (List.range w.n).filter fun x => decide (x ≠ p)) i p := fun i hi hip hc => by
    rcases hc.last with e | ⟨k, hk, ha, _, _⟩
    · exact absurd e.symm hip
    · have hkn := hk.lt hi
      have hkp : k ≠ p := fun e => by subst e; rw [w.irr] at ha; cases ha
      rcases k1 i k hi hip (hno i k hi hkn hip hkp hk) with rfl | q
      · exact .one i p hi hp ha
      · exact .more i k p q (hS k hkn hkp) hp ha
  intro i j hi hj hij hc
  by_cases hip : i = p
  · subst hip
    exact (k2 j hj (fun e => hij e.symm) (hc.symm hi rfl)).symm
  · by_cases hjp : j = p
    · subst hjp
      exact k2 i hi hip hc
    · exact (k1 i j hi hip (hno i j hi hj hip hjp hc)).resolve_left hij
theorem parts_in {w : Web} {p : Nat} {S : List Nat} (hp : p < w.n) (h : Parts w p) (hS : Joins w S) : p ∈ S := by
  obtain ⟨i, j, hi, hj, hip, hjp, hc, hnc⟩ := h
  refine Classical.byContradiction fun q => hnc ?_
  have hij : i ≠ j := fun e => hnc (e ▸ .me)
  have key : ∀ {i j : Nat}, Ch w (· ∈ S) i j → i ≠ p → j ≠ p → Con (woW w p) tt i j := fun hch => by
    induction hch with
    | one i j hi hj ha => exact fun hip hjp => .go .me hj ((woW_adj (w := w) hi hj).mpr ⟨ha, hip, hjp⟩) rfl
    | more i k j h1 hk hj ha ih =>
      intro hip hjp
      have hkp : k ≠ p := fun e => q (e ▸ hk)
      exact .go (ih hip hkp) hj ((woW_adj (w := w) h1.lt.2 hj).mpr ⟨ha, hkp, hjp⟩) rfl
  exact key (hS i j hi hj hij hc) hip hjp
theorem must_iff {w : Web} {p : Nat} (hp : p < w.n) : ((jns w).all fun S => S.contains p) = true ↔ Parts w p := by
  rw [List.all_eq_true]
  constructor
  · intro h
    refine Classical.byContradiction fun q => ?_
    have hm : (List.range w.n).filter (fun x => decide (x ≠ p)) ∈ jns w := mem_jns.mpr ⟨mem_chs.mpr ⟨List.pairwise_lt_range.filter _, fun x hx => List.mem_range.mp (List.mem_filter.mp hx).1⟩, joins_but hp q⟩
    have := h _ hm
    rw [List.contains_iff_mem, List.mem_filter] at this
    simp at this
  · intro h S hS
    rw [List.contains_iff_mem]
    exact parts_in hp h (mem_jns.mp hS).2
theorem cuts_range (w : Web) : cuts w = (List.range w.n).filter fun p => @decide (Parts w p) (Classical.propDecidable _) := by
  refine List.Perm.eq_of_pairwise (le := (· < ·)) (fun a b _ _ h1 h2 => by omega) (List.pairwise_lt_range.filter _) (List.pairwise_lt_range.filter _) ((List.perm_ext_iff_of_nodup (List.nodup_range.filter _) (List.nodup_range.filter _)).mpr fun p => ?_)
  have := mem_cuts (w := w) (p := p)
  rw [cuts] at this
  rw [this, List.mem_filter, List.mem_range, @decide_eq_true_eq _ (Classical.propDecidable _)]
theorem must_cuts (w : Web) : must w = cuts w := by
  rw [cuts_range, must]
  refine List.filter_congr fun p hp => ?_
  have := must_iff (List.mem_range.mp hp)
  rw [Bool.eq_iff_iff, this, @decide_eq_true_eq _ (Classical.propDecidable _)]
theorem canL_cuts (w : Web) : canL w = (List.range w.n).filter fun p => !(cuts w).contains p := by
  rw [canL]
  refine List.filter_congr fun p hp => ?_
  have h1 := must_iff (List.mem_range.mp hp)
  have h2 : (cuts w).contains p = (jns w).all fun S => S.contains p := by
    rw [Bool.eq_iff_iff, h1, List.contains_iff_mem, mem_cuts]
    exact ⟨fun h => h.2, fun h => ⟨List.mem_range.mp hp, h⟩⟩
  rw [h2, List.not_all_eq_any_not]
/-! ### idle people -/
theorem mem_idl {w : Web} {p : Nat} : p ∈ idl w ↔ p < w.n ∧ tableB w (nb w p) = true := by rw [idl, List.mem_filter, List.mem_range]
theorem mem_mvs {w : Web} {p : Nat} : p ∈ mvs w ↔ p < w.n ∧ tableB w (nb w p) = false := by rw [mvs, List.mem_filter, List.mem_range, Bool.not_eq_true']
theorem idle_stw : ∀ (cs : List Nat) (w : Web) (p : Nat), p < w.n → (∀ c ∈ cs, c < w.n) → tableB w (nb w p) = true → tableB (stw w cs) (nb (stw w cs) p) = true
  | [], _, _, _, _, h => h
  | c :: cs, w, p, hp, hc, h => idle_stw cs (callW w c) p hp (fun d hd => hc d (List.mem_cons_of_mem _ hd)) (idle_stays hp (hc c List.mem_cons_self) h)
theorem usel_idl (w : Web) : usel w = idl w := by
  rw [usel, idl]
  refine List.filter_congr fun p hp => ?_
  have hp := List.mem_range.mp hp
  rw [Bool.eq_iff_iff, List.all_eq_true]
  constructor
  · intro h
    have := h [] (mem_chs.mpr ⟨List.Pairwise.nil, fun x hx => by cases hx⟩)
    rw [List.contains_iff_mem, mem_idl] at this
    exact this.2
  · intro h S hS
    rw [List.contains_iff_mem, mem_idl, stw_n]
    exact ⟨hp, idle_stw S w p hp (mem_chs.mp hS).2 h⟩
theorem leaf_idle {w : Web} {p : Nat} (h : p ∈ lvs w) : p ∈ idl w := by
  rw [lvs, List.mem_filter, List.mem_range, beq_iff_eq] at h
  rw [mem_idl, idle_iff h.1]
  refine ⟨h.1, fun i j hi hj hij h1 h2 => ?_⟩
  have hi' := mem_nb.mpr ⟨hi, h1⟩
  have hj' := mem_nb.mpr ⟨hj, h2⟩
  have h0 := h.2
  cases hl : nb w p with
  | nil => rw [hl] at hi'; cases hi'
  | cons x l =>
    rw [hl] at h0 hi' hj'
    cases l with
    | cons _ _ => simp at h0
    | nil =>
      rw [List.mem_singleton] at hi' hj'
      exact absurd (hi'.trans hj'.symm) hij
theorem ch_less {w : Web} {P Q : Nat → Prop} (hPQ : ∀ x, x < w.n → P x → Q x ∨ tableB w (nb w x) = true) {i j : Nat} (h : Ch w P i j) : i = j ∨ Ch w Q i j := by
  induction h with
  | one i j hi hj ha => exact .inr (.one i j hi hj ha)
  | more i k j h1 hk hj ha ih =>
    have hi := h1.lt.1
    have hkn := h1.lt.2
    rcases ih with rfl | ih
    · exact .inr (.one i j hi hj ha)
    · rcases hPQ k hkn hk with hq | hq
      · exact .inr (.more i k j ih hq hj ha)
      · have hid := (idle_iff hkn).mp hq
        cases ih with
        | one _ _ _ _ h2 =>
          by_cases e : i = j
          · exact .inl e
          · exact .inr (.one i j hi hj (hid i j hi hj e (adj_sym h2) ha))
        | more _ m _ h2 hm _ h3 =>
          by_cases e : m = j
          · subst e; exact .inr h2
          · exact .inr (.more i m j h2 hm hj (hid m j h2.lt.2 hj e (adj_sym h3) ha))
theorem joins_less {w : Web} {S T : List Nat} (hST : ∀ x, x < w.n → x ∈ S → x ∈ T ∨ tableB w (nb w x) = true) (h : Joins w S) : Joins w T := fun i j hi hj hij hc => (ch_less hST (h i j hi hj hij hc)).resolve_left hij
theorem mvs_joins (w : Web) : mvs w ∈ jns w := by
  refine mem_jns.mpr ⟨mem_chs.mpr ⟨List.pairwise_lt_range.filter _, fun x hx => (mem_mvs.mp hx).1⟩, joins_less (S := List.range w.n) (fun x hx _ => ?_) (mem_jns.mp (all_joins w)).2⟩
  cases h : tableB w (nb w x)
  · exact .inl (mem_mvs.mpr ⟨hx, h⟩)
  · exact .inr rfl
theorem least_no_idle {w : Web} {m : Nat} {S : List Nat} (hle : ∀ S ∈ jns w, m ≤ S.length) (hS : S ∈ ljn w m) {p : Nat} (hpS : p ∈ S) : p ∉ idl w := fun hid => by
  rw [ljn, List.mem_filter, beq_iff_eq] at hS
  obtain ⟨h1, h2⟩ := mem_jns.mp hS.1
  have h1' := mem_chs.mp h1
  have hT : S.filter (fun x => decide (x ≠ p)) ∈ jns w := mem_jns.mpr ⟨mem_chs.mpr ⟨h1'.1.filter _, fun x hx => h1'.2 x (List.mem_filter.mp hx).1⟩, joins_less (fun x hx hxS => by
    by_cases e : x = p
    · subst e; exact .inr (mem_idl.mp hid).2
    · exact .inl (List.mem_filter.mpr ⟨hxS, by simpa using e⟩)) h2⟩
  have h3 := hle _ hT
  have h4 := cnt_not (fun x => decide (x ≠ p)) S
  have h5 : p ∈ S.filter fun x => !decide (x ≠ p) := List.mem_filter.mpr ⟨hpS, by simp⟩
  have h6 := List.length_pos_of_mem h5
  omega
theorem mvs_nil {w : Web} : mvs w = [] ↔ ∀ p, p < w.n → tableB w (nb w p) = true := by
  constructor
  · intro h p hp
    cases ht : tableB w (nb w p)
    · have := mem_mvs.mpr ⟨hp, ht⟩
      rw [h] at this; cases this
    · rfl
  · intro h
    rw [List.eq_nil_iff_forall_not_mem]
    intro p hp
    have := mem_mvs.mp hp
    rw [h p this.1] at this
    exact absurd this.2 (by simp)
theorem opg_nil {w : Web} : opg w = [] ↔ mvs w = [] := by
  rw [mvs_nil, opg, List.filter_eq_nil_iff]
  constructor
  · intro h p hp
    have := h (grp w p) (mem_grps.mpr ⟨p, hp, rfl⟩)
    rw [Bool.not_eq_true, Bool.not_eq_false', tableB_iff] at this
    rw [tableB_iff]
    have hin : ∀ i ∈ nb w p, i ∈ grp w p := fun i hi => (mem_grp hp).mpr (.go .me (mem_nb.mp hi).1 (mem_nb.mp hi).2 rfl)
    exact fun i hi j hj hij => this i (hin i hi) j (hin j hj) hij
  · intro h g hg
    obtain ⟨p, hp, rfl⟩ := mem_grps.mp hg
    rw [Bool.not_eq_true, Bool.not_eq_false', tableB_iff]
    intro i hi j hj hij
    have hci := (mem_grp hp).mp hi
    have hcj := (mem_grp hp).mp hj
    have hin := hci.lt hp
    have hjn := hcj.lt hp
    have hch := (mem_jns.mp (mvs_joins w)).2 i j hin hjn (by omega) ((hci.symm hp rfl).trans hcj)
    rw [mvs_nil.mpr h] at hch
    exact mem_nb.mpr ⟨hjn, (hch.mono (S' := fun _ => False) fun k hk => by cases hk).none⟩
theorem threes_zero {w : Web} : threes w = 0 ↔ mvs w = [] := by
  rw [mvs_nil, threes]
  have hz : ∀ l : List Nat, l.sum = 0 ↔ ∀ x ∈ l, x = 0 := fun l => by
    induction l with
    | nil => simp
    | cons x l ih => simp only [List.sum_cons, List.mem_cons, forall_eq_or_imp, ← ih]; omega
  rw [hz]
  have one : ∀ p, p < w.n → ((npr w p).length = 0 ↔ tableB w (nb w p) = true) := fun p hp => by
    rw [List.length_eq_zero_iff, idle_iff hp, List.eq_nil_iff_forall_not_mem]
    constructor
    · intro h i j hi hj hij h1 h2
      refine Classical.byContradiction fun q => ?_
      rw [Bool.not_eq_true] at q
      rcases Nat.lt_or_gt_of_ne hij with hl | hl
      · exact h (i, j) ((mem_npr hp).mpr ⟨⟨hi, hj, hl⟩, h1, h2, q⟩)
      · exact h (j, i) ((mem_npr hp).mpr ⟨⟨hj, hi, hl⟩, h2, h1, by rw [w.sym]; exact q⟩)
    · intro h c hc
      obtain ⟨⟨h1, h2, h3⟩, h4, h5, h6⟩ := (mem_npr hp).mp hc
      have := h c.1 c.2 h1 h2 (by omega) h4 h5
      rw [h6] at this; cases this
  constructor
  · intro h p hp
    exact (one p hp).mp (h _ (List.mem_map.mpr ⟨p, List.mem_range.mpr hp, rfl⟩))
  · intro h x hx
    obtain ⟨p, hp, rfl⟩ := List.mem_map.mp hx
    exact (one p (List.mem_range.mp hp)).mpr (h p (List.mem_range.mp hp))
end Ev.Z
set_option autoImplicit true
set_option linter.all false
set_option maxRecDepth 100000
/-! Steps of laws: empty rows. -/
namespace Ev.Z
open PySem
section
variable {O : Orc} {env : Env}
theorem E.neNil {a : ME} {xs : List Nat} (h : E O a env (vals (xs.map nI))) : E O (.cmp .ne a (.lst [])) env (vR (.bool (!xs.isEmpty))) := E.cmp h.wl nil_L.wl ne_nil
theorem E.neNil0 {a : ME} {xs : List Nat} (h : E O a env (vals (xs.map nI))) (hx : xs = []) : E O (.cmp .ne a (.lst [])) env (vR (.bool false)) := (E.neNil h).to (by rw [hx]; rfl)
theorem E.eqNilT {a : ME} {ds : List PyData} {k : Nat} (h : W O a env (.tuple ds)) (hs : sh k (.tuple ds)) (hk : k ≤ 64 := by decide) : E O (.cmp .eq a (.tup [])) env (vR (.bool ds.isEmpty)) :=
  (E.cmp h (E.tup .nil).wv (cmp_eq hs (sh_tup (k := 0) fun d hd => by cases hd) hk)).to (by
    show vR (.bool ((PyData.tuple ds).eqv (.tuple []))) = _
    rw [eqv_nil])
theorem E.neNilT {a : ME} {ds : List PyData} {k : Nat} (h : W O a env (.tuple ds)) (hs : sh k (.tuple ds)) (hk : k ≤ 64 := by decide) : E O (.cmp .ne a (.tup [])) env (vR (.bool (!ds.isEmpty))) :=
  (E.cmp h (E.tup .nil).wv (cmp_ne hs (sh_tup (k := 0) fun d hd => by cases hd) hk)).to (by
    show vR (.bool (!(PyData.tuple ds).eqv (.tuple []))) = _
    rw [eqv_nil])
theorem sh_nats {k : Nat} (xs : List Nat) : sh (k + 1) (.tuple (xs.map nI)) := sh_tup (sh_ints _)
theorem sh_rows {k : Nat} (xs : List (List Nat)) : sh (k + 2) (.tuple (xs.map rowT)) := sh_tup fun d hd => by
  obtain ⟨l, _, rfl⟩ := List.mem_map.mp hd
  exact sh_rowT l
theorem in_rows (y : List Nat) (xs : List (List Nat)) : cmpop .isin (rowT y) (.list (xs.map rowT)) = some (xs.contains y) := in_lst eqR (fun _ => (sh_rowT (k := 0) _).mono (by decide)) y xs
theorem in_rowsT (y : List Nat) (xs : List (List Nat)) : cmpop .isin (rowT y) (.tuple (xs.map rowT)) = some (xs.contains y) := in_tup eqR (fun _ => (sh_rowT (k := 0) _).mono (by decide)) y xs
theorem filter_nil {α : Type} {c : α → Bool} {l : List α} (h : ∀ x ∈ l, c x = false) : l.filter c = [] := by
  rw [List.filter_eq_nil_iff]
  intro x hx
  rw [h x hx]; simp
end
end Ev.Z
set_option autoImplicit false
set_option linter.all false
set_option maxRecDepth 100000
namespace WK36
open PySem L2 PyProof.Rows Ev
noncomputable abbrev wh : WhT := Ev.loop
abbrev topS (i : Nat) : Stmt := PySem.Challenge.pw_introducers_k36_whole_must_call.main.body.getD i (.Pass ⟨0, 0, 0, 0⟩)
abbrev st_0 : Stmt := topS 1
abbrev N_0 : List Str := ["value"]
abbrev P_0 : List Str := ["value"]
theorem sc_0 : FnScope N_0 P_0 (defScope st_0) := ⟨rfl, rfl, rfl, by decide +kernel, rfl, by decide +kernel, by decide +kernel⟩
def b0 : List MS := [(.ret (.an (.isi (.var 0) [.int]) (.nt (.isi (.var 0) [.bool]))))]
abbrev st_1 : Stmt := topS 2
abbrev N_1 : List Str := ["value", "least", "most"]
abbrev P_1 : List Str := ["value", "least", "most"]
theorem sc_1 : FnScope N_1 P_1 (defScope st_1) := ⟨rfl, rfl, rfl, by decide +kernel, rfl, by decide +kernel, by decide +kernel⟩
def b1 : List MS := [(.ret (.an (.call 0 [(.var 0)]) (.cmp2 .le .le (.var 1) (.var 0) (.var 2))))]
abbrev st_2 : Stmt := topS 3
abbrev N_2 : List Str := ["value", "least", "most"]
abbrev P_2 : List Str := ["value", "least", "most"]
theorem sc_2 : FnScope N_2 P_2 (defScope st_2) := ⟨rfl, rfl, rfl, by decide +kernel, rfl, by decide +kernel, by decide +kernel⟩
def b2 : List MS := [(.ret (.an (.isi (.var 0) [.tuple]) (.cmp2 .le .le (.var 1) (.bi .len [(.var 0)]) (.var 2))))]
abbrev st_3 : Stmt := topS 9
abbrev N_3 : List Str := ["web", "people", "index", "friends", "other"]
abbrev P_3 : List Str := ["web"]
theorem sc_3 : FnScope N_3 P_3 (defScope st_3) := ⟨rfl, rfl, rfl, by decide +kernel, rfl, by decide +kernel, by decide +kernel⟩
def b3 : List MS := [(.ite (.nt (.call 2 [(.var 0), (.cst (.int 1)), (.cst (.int 8))])) [.never] []), (.asg (.nm 1) (.bi .len [(.var 0)])), (.for (.tp [(.nm 2), (.nm 3)]) (.enum (.var 0)) [(.ite (.or (.nt (.call 2 [(.var 3), (.cst (.int 0)), (.bin .sub (.var 1) (.cst (.int 1)))])) (.nt (.bi .all [(.lc (.call 1 [(.var 4), (.cst (.int 0)), (.bin .sub (.var 1) (.cst (.int 1)))]) (.nm 4) (.seq (.var 3)) none [4])]))) [.never] []), (.ite (.or (.cmp .ne (.bi .list [(.var 3)]) (.bi .sset [(.var 3)])) (.cmp .isin (.var 2) (.var 3))) [.never] [])]), (.for (.tp [(.nm 2), (.nm 3)]) (.enum (.var 0)) [(.ite (.bi .any [(.lc (.cmp .notin (.var 2) (.ix (.var 0) (.var 4))) (.nm 4) (.seq (.var 3)) none [4])]) [.never] [])])]
abbrev st_4 : Stmt := topS 10
abbrev N_4 : List Str := ["web", "found", "one", "other"]
abbrev P_4 : List Str := ["web"]
theorem sc_4 : FnScope N_4 P_4 (defScope st_4) := ⟨rfl, rfl, rfl, by decide +kernel, rfl, by decide +kernel, by decide +kernel⟩
def b4 : List MS := [(.asg (.nm 1) (.lst [])), (.for (.nm 2) (.rng (.bi .len [(.var 0)])) [(.for (.nm 3) (.seq (.ix (.var 0) (.var 2))) [(.ite (.cmp .lt (.var 2) (.var 3)) [(.app 1 (.tup [(.var 2), (.var 3)]))] [])])]), (.ret (.var 1))]
abbrev st_5 : Stmt := topS 11
abbrev N_5 : List Str := ["people", "some", "found", "one", "other", "person", "row"]
abbrev P_5 : List Str := ["people", "some"]
theorem sc_5 : FnScope N_5 P_5 (defScope st_5) := ⟨rfl, rfl, rfl, by decide +kernel, rfl, by decide +kernel, by decide +kernel⟩
def b5 : List MS := [(.asg (.nm 2) (.lc (.lst []) (.nm 5) (.rng (.var 0)) none [5])), (.for (.tp [(.nm 3), (.nm 4)]) (.seq (.var 1)) [(.app2 2 (.var 3) (.var 4)), (.app2 2 (.var 4) (.var 3))]), (.ret (.bi .tuple [(.lc (.bi .tuple [(.bi .sset [(.var 6)])]) (.nm 6) (.seq (.var 2)) none [6])]))]
abbrev st_6 : Stmt := topS 12
abbrev N_6 : List Str := ["web", "person", "found", "last", "here", "other"]
abbrev P_6 : List Str := ["web", "person"]
theorem sc_6 : FnScope N_6 P_6 (defScope st_6) := ⟨rfl, rfl, rfl, by decide +kernel, rfl, by decide +kernel, by decide +kernel⟩
def b6 : List MS := [(.par [2, 3] [(.lst [(.var 1)]), (.lst [(.var 1)])]), (.wh (.cmp .ne (.var 3) (.lst [])) [(.asg (.nm 4) (.pop 3)), (.for (.nm 5) (.seq (.ix (.var 0) (.var 4))) [(.ite (.cmp .notin (.var 5) (.var 2)) [(.app 2 (.var 5)), (.app 3 (.var 5))] [])])]), (.ret (.bi .tuple [(.bi .sorted [(.var 2)])]))]
abbrev st_7 : Stmt := topS 13
abbrev N_7 : List Str := ["web", "person"]
abbrev P_7 : List Str := ["web"]
theorem sc_7 : FnScope N_7 P_7 (defScope st_7) := ⟨rfl, rfl, rfl, by decide +kernel, rfl, by decide +kernel, by decide +kernel⟩
def b7 : List MS := [(.ret (.bi .sset [(.lc (.call 6 [(.var 0), (.var 1)]) (.nm 1) (.rng (.bi .len [(.var 0)])) none [1])]))]
abbrev st_8 : Stmt := topS 14
abbrev N_8 : List Str := ["web", "people", "one", "other"]
abbrev P_8 : List Str := ["web", "people"]
theorem sc_8 : FnScope N_8 P_8 (defScope st_8) := ⟨rfl, rfl, rfl, by decide +kernel, rfl, by decide +kernel, by decide +kernel⟩
def b8 : List MS := [(.ret (.bi .all [(.lc2 (.cmp .isin (.var 3) (.ix (.var 0) (.var 2))) (.nm 2) (.seq (.var 1)) (.nm 3) (.seq (.var 1)) (some (.cmp .lt (.var 2) (.var 3))) [2, 3] [3])]))]
abbrev st_9 : Stmt := topS 15
abbrev N_9 : List Str := ["web", "found", "group", "one", "other"]
abbrev P_9 : List Str := ["web"]
theorem sc_9 : FnScope N_9 P_9 (defScope st_9) := ⟨rfl, rfl, rfl, by decide +kernel, rfl, by decide +kernel, by decide +kernel⟩
def b9 : List MS := [(.asg (.nm 1) (.lst [])), (.for (.nm 2) (.seq (.call 7 [(.var 0)])) [(.for (.nm 3) (.seq (.var 2)) [(.ext 1 (.lc (.tup [(.var 3), (.var 4)]) (.nm 4) (.seq (.var 2)) (some (.cmp .lt (.var 3) (.var 4))) [4]))])]), (.ret (.call 5 [(.bi .len [(.var 0)]), (.var 1)]))]
abbrev st_10 : Stmt := topS 17
abbrev N_10 : List Str := ["web", "found", "person"]
abbrev P_10 : List Str := ["web"]
theorem sc_10 : FnScope N_10 P_10 (defScope st_10) := ⟨rfl, rfl, rfl, by decide +kernel, rfl, by decide +kernel, by decide +kernel⟩
def b10 : List MS := [(.asg (.nm 1) (.lst [])), (.for (.nm 2) (.rng (.bi .len [(.var 0)])) [(.ite (.nt (.call 8 [(.var 0), (.ix (.var 0) (.var 2))])) [(.app 1 (.var 2))] [])]), (.ret (.var 1))]
abbrev st_11 : Stmt := topS 18
abbrev N_11 : List Str := ["web"]
abbrev P_11 : List Str := ["web"]
theorem sc_11 : FnScope N_11 P_11 (defScope st_11) := ⟨rfl, rfl, rfl, by decide +kernel, rfl, by decide +kernel, by decide +kernel⟩
def b11 : List MS := [(.exp (.call 3 [(.var 0)])), (.ret (.bi .tuple [(.call 10 [(.var 0)])]))]
abbrev st_12 : Stmt := topS 19
abbrev N_12 : List Str := ["web", "found", "person"]
abbrev P_12 : List Str := ["web"]
theorem sc_12 : FnScope N_12 P_12 (defScope st_12) := ⟨rfl, rfl, rfl, by decide +kernel, rfl, by decide +kernel, by decide +kernel⟩
def b12 : List MS := [(.asg (.nm 1) (.lst [])), (.for (.nm 2) (.rng (.bi .len [(.var 0)])) [(.ite (.call 8 [(.var 0), (.ix (.var 0) (.var 2))]) [(.app 1 (.var 2))] [])]), (.ret (.var 1))]
abbrev st_13 : Stmt := topS 20
abbrev N_13 : List Str := ["web"]
abbrev P_13 : List Str := ["web"]
theorem sc_13 : FnScope N_13 P_13 (defScope st_13) := ⟨rfl, rfl, rfl, by decide +kernel, rfl, by decide +kernel, by decide +kernel⟩
def b13 : List MS := [(.exp (.call 3 [(.var 0)])), (.ret (.bi .tuple [(.call 12 [(.var 0)])]))]
abbrev st_14 : Stmt := topS 22
abbrev N_14 : List Str := ["many", "found", "person", "row"]
abbrev P_14 : List Str := ["many"]
theorem sc_14 : FnScope N_14 P_14 (defScope st_14) := ⟨rfl, rfl, rfl, by decide +kernel, rfl, by decide +kernel, by decide +kernel⟩
def b14 : List MS := [(.asg (.nm 1) (.lst [(.tup [])])), (.for (.nm 2) (.rng (.var 0)) [(.grow 1 3 2)]), (.ret (.var 1))]
abbrev st_15 : Stmt := topS 23
abbrev N_15 : List Str := ["web", "called", "person", "found", "last", "here", "other"]
abbrev P_15 : List Str := ["web", "called", "person"]
theorem sc_15 : FnScope N_15 P_15 (defScope st_15) := ⟨rfl, rfl, rfl, by decide +kernel, rfl, by decide +kernel, by decide +kernel⟩
def b15 : List MS := [(.par [3, 4] [(.lst [(.var 2)]), (.lst [(.var 2)])]), (.wh (.cmp .ne (.var 4) (.lst [])) [(.asg (.nm 5) (.pop 4)), (.for (.nm 6) (.seq (.ix (.var 0) (.var 5))) [(.ite (.cmp .notin (.var 6) (.var 3)) [(.app 3 (.var 6)), (.ite (.cmp .isin (.var 6) (.var 1)) [(.app 4 (.var 6))] [])] [])])]), (.ret (.var 3))]
abbrev st_16 : Stmt := topS 24
abbrev N_16 : List Str := ["web", "called", "found", "person", "other"]
abbrev P_16 : List Str := ["web", "called"]
theorem sc_16 : FnScope N_16 P_16 (defScope st_16) := ⟨rfl, rfl, rfl, by decide +kernel, rfl, by decide +kernel, by decide +kernel⟩
def b16 : List MS := [(.asg (.nm 2) (.lst [])), (.for (.nm 3) (.rng (.bi .len [(.var 0)])) [(.ext 2 (.lc (.tup [(.var 3), (.var 4)]) (.nm 4) (.seq (.call 15 [(.var 0), (.var 1), (.var 3)])) (some (.cmp .lt (.var 3) (.var 4))) [4]))]), (.ret (.call 5 [(.bi .len [(.var 0)]), (.var 2)]))]
abbrev st_17 : Stmt := topS 25
abbrev N_17 : List Str := ["web", "found", "person", "row"]
abbrev P_17 : List Str := ["web"]
theorem sc_17 : FnScope N_17 P_17 (defScope st_17) := ⟨rfl, rfl, rfl, by decide +kernel, rfl, by decide +kernel, by decide +kernel⟩
def b17 : List MS := [(.exp (.call 3 [(.var 0)])), (.asg (.nm 1) (.lst [])), (.for (.nm 2) (.rng (.bi .len [(.var 0)])) [(.ite (.bi .all [(.lc (.cmp .isin (.var 2) (.call 12 [(.call 16 [(.var 0), (.var 3)])])) (.nm 3) (.seq (.call 14 [(.bi .len [(.var 0)])])) none [3])]) [(.app 1 (.var 2))] [])]), (.ret (.bi .tuple [(.var 1)]))]
abbrev st_18 : Stmt := topS 27
abbrev N_18 : List Str := ["web", "goal", "found", "called"]
abbrev P_18 : List Str := ["web"]
theorem sc_18 : FnScope N_18 P_18 (defScope st_18) := ⟨rfl, rfl, rfl, by decide +kernel, rfl, by decide +kernel, by decide +kernel⟩
def b18 : List MS := [(.asg (.nm 1) (.call 9 [(.var 0)])), (.asg (.nm 2) (.lst [])), (.for (.nm 3) (.seq (.call 14 [(.bi .len [(.var 0)])])) [(.ite (.cmp .eq (.call 16 [(.var 0), (.var 3)]) (.var 1)) [(.app 2 (.var 3))] [])]), (.ret (.bi .sorted [(.var 2)]))]
abbrev st_19 : Stmt := topS 28
abbrev N_19 : List Str := ["web"]
abbrev P_19 : List Str := ["web"]
theorem sc_19 : FnScope N_19 P_19 (defScope st_19) := ⟨rfl, rfl, rfl, by decide +kernel, rfl, by decide +kernel, by decide +kernel⟩
def b19 : List MS := [(.exp (.call 3 [(.var 0)])), (.ret (.call 18 [(.var 0)]))]
abbrev st_20 : Stmt := topS 29
abbrev N_20 : List Str := ["web", "some", "few", "called"]
abbrev P_20 : List Str := ["web"]
theorem sc_20 : FnScope N_20 P_20 (defScope st_20) := ⟨rfl, rfl, rfl, by decide +kernel, rfl, by decide +kernel, by decide +kernel⟩
def b20 : List MS := [(.exp (.call 3 [(.var 0)])), (.asg (.nm 1) (.call 18 [(.var 0)])), (.asg (.nm 2) (.bi .min [(.lc (.bi .len [(.var 3)]) (.nm 3) (.seq (.var 1)) none [3])])), (.ret (.lc (.var 3) (.nm 3) (.seq (.var 1)) (some (.cmp .eq (.bi .len [(.var 3)]) (.var 2))) [3]))]
abbrev st_21 : Stmt := topS 30
abbrev N_21 : List Str := ["web", "some", "found", "person", "called"]
abbrev P_21 : List Str := ["web"]
theorem sc_21 : FnScope N_21 P_21 (defScope st_21) := ⟨rfl, rfl, rfl, by decide +kernel, rfl, by decide +kernel, by decide +kernel⟩
def b21 : List MS := [(.exp (.call 3 [(.var 0)])), (.asg (.nm 1) (.call 18 [(.var 0)])), (.asg (.nm 2) (.lst [])), (.for (.nm 3) (.rng (.bi .len [(.var 0)])) [(.ite (.bi .all [(.lc (.cmp .isin (.var 3) (.var 4)) (.nm 4) (.seq (.var 1)) none [4])]) [(.app 2 (.var 3))] [])]), (.ret (.bi .tuple [(.var 2)]))]
abbrev st_22 : Stmt := topS 31
abbrev N_22 : List Str := ["web", "person", "pair"]
abbrev P_22 : List Str := ["web", "person"]
theorem sc_22 : FnScope N_22 P_22 (defScope st_22) := ⟨rfl, rfl, rfl, by decide +kernel, rfl, by decide +kernel, by decide +kernel⟩
def b22 : List MS := [(.ret (.call 5 [(.bi .len [(.var 0)]), (.lc (.var 2) (.nm 2) (.seq (.call 4 [(.var 0)])) (some (.cmp .notin (.var 1) (.var 2))) [2])]))]
abbrev st_23 : Stmt := topS 32
abbrev N_23 : List Str := ["web", "person", "many", "found"]
abbrev P_23 : List Str := ["web"]
theorem sc_23 : FnScope N_23 P_23 (defScope st_23) := ⟨rfl, rfl, rfl, by decide +kernel, rfl, by decide +kernel, by decide +kernel⟩
def b23 : List MS := [(.par [2, 3] [(.bi .len [(.call 7 [(.var 0)])]), (.lst [])]), (.for (.nm 1) (.rng (.bi .len [(.var 0)])) [(.ite (.an (.cmp .ne (.ix (.var 0) (.var 1)) (.tup [])) (.cmp .gt (.bi .len [(.call 7 [(.call 22 [(.var 0), (.var 1)])])]) (.bin .add (.var 2) (.cst (.int 1))))) [(.app 3 (.var 1))] [])]), (.ret (.var 3))]
abbrev st_24 : Stmt := topS 33
abbrev N_24 : List Str := ["web"]
abbrev P_24 : List Str := ["web"]
theorem sc_24 : FnScope N_24 P_24 (defScope st_24) := ⟨rfl, rfl, rfl, by decide +kernel, rfl, by decide +kernel, by decide +kernel⟩
def b24 : List MS := [(.exp (.call 3 [(.var 0)])), (.ret (.bi .tuple [(.call 23 [(.var 0)])]))]
abbrev st_25 : Stmt := topS 34
abbrev N_25 : List Str := ["web", "found", "person"]
abbrev P_25 : List Str := ["web"]
theorem sc_25 : FnScope N_25 P_25 (defScope st_25) := ⟨rfl, rfl, rfl, by decide +kernel, rfl, by decide +kernel, by decide +kernel⟩
def b25 : List MS := [(.exp (.call 3 [(.var 0)])), (.asg (.nm 1) (.lst [])), (.for (.nm 2) (.rng (.bi .len [(.var 0)])) [(.ite (.cmp .eq (.bi .len [(.ix (.var 0) (.var 2))]) (.cst (.int 1))) [(.app 1 (.var 2))] [])]), (.ret (.bi .tuple [(.var 1)]))]
abbrev st_26 : Stmt := topS 35
abbrev N_26 : List Str := ["web", "found", "group"]
abbrev P_26 : List Str := ["web"]
theorem sc_26 : FnScope N_26 P_26 (defScope st_26) := ⟨rfl, rfl, rfl, by decide +kernel, rfl, by decide +kernel, by decide +kernel⟩
def b26 : List MS := [(.exp (.call 3 [(.var 0)])), (.asg (.nm 1) (.lst [])), (.for (.nm 2) (.seq (.call 7 [(.var 0)])) [(.ite (.nt (.call 8 [(.var 0), (.var 2)])) [(.app 1 (.var 2))] [])]), (.ret (.bi .tuple [(.var 1)]))]
abbrev st_27 : Stmt := topS 37
abbrev N_27 : List Str := ["web", "some", "found", "person", "called"]
abbrev P_27 : List Str := ["web"]
theorem sc_27 : FnScope N_27 P_27 (defScope st_27) := ⟨rfl, rfl, rfl, by decide +kernel, rfl, by decide +kernel, by decide +kernel⟩
def b27 : List MS := [(.exp (.call 3 [(.var 0)])), (.asg (.nm 1) (.call 18 [(.var 0)])), (.asg (.nm 2) (.lst [])), (.for (.nm 3) (.rng (.bi .len [(.var 0)])) [(.ite (.bi .any [(.lc (.cmp .notin (.var 3) (.var 4)) (.nm 4) (.seq (.var 1)) none [4])]) [(.app 2 (.var 3))] [])]), (.ret (.bi .tuple [(.var 2)]))]
abbrev st_28 : Stmt := topS 39
abbrev N_28 : List Str := ["web", "found", "some", "one", "other"]
abbrev P_28 : List Str := ["web"]
theorem sc_28 : FnScope N_28 P_28 (defScope st_28) := ⟨rfl, rfl, rfl, by decide +kernel, rfl, by decide +kernel, by decide +kernel⟩
def b28 : List MS := [(.exp (.call 3 [(.var 0)])), (.asg (.nm 1) (.cst (.int 0))), (.for (.nm 2) (.seq (.var 0)) [(.aug 1 .add (.bi .len [(.lc2 (.cst (.int 1)) (.nm 3) (.seq (.var 2)) (.nm 4) (.seq (.var 2)) (some (.an (.cmp .lt (.var 3) (.var 4)) (.cmp .notin (.var 4) (.ix (.var 0) (.var 3))))) [3, 4] [4])]))]), (.ret (.var 1))]
abbrev st_29 : Stmt := topS 41
abbrev N_29 : List Str := ["_law_row", "_law_many", "_law_cell", "_law_found"]
abbrev P_29 : List Str := ["_law_row", "_law_many"]
theorem sc_29 : FnScope N_29 P_29 (defScope st_29) := ⟨rfl, rfl, rfl, by decide +kernel, rfl, by decide +kernel, by decide +kernel⟩
def b29 : List MS := [(.ite (.cmp .gt (.ix (.var 0) (.cst (.int 3))) (.cst (.int 0))) [(.asg (.nm 3) (.bin .mod (.bi .int [(.ix (.var 0) (.cst (.int 3)))]) (.var 1))), (.six 0 (.cst (.int 3)) (.bin .fdiv (.ix (.var 0) (.cst (.int 3))) (.var 1))), (.ret (.var 3))] []), (.six 0 (.cst (.int 1)) (.bin .add (.ix (.var 0) (.cst (.int 1))) (.cst (.int 1)))), (.ite (.cmp .gt (.ix (.var 0) (.cst (.int 1))) (.bi .len [(.ix (.var 0) (.cst (.int 0)))])) [(.six 0 (.cst (.int 2)) (.bin .mod (.bi .int [(.bin .add (.bin .mul (.ix (.var 0) (.cst (.int 2))) (.cst (.int 48271))) (.cst (.int 11)))]) (.cst (.int 2147483647)))), (.ret (.bin .mod (.bi .int [(.bin .fdiv (.ix (.var 0) (.cst (.int 2))) (.cst (.int 7)))]) (.var 1)))] []), (.asg (.nm 2) (.ix (.ix (.var 0) (.cst (.int 0))) (.bin .sub (.ix (.var 0) (.cst (.int 1))) (.cst (.int 1))))), (.six 0 (.cst (.int 2)) (.bin .mod (.bi .int [(.bin .add (.bin .add (.bin .mul (.ix (.var 0) (.cst (.int 2))) (.cst (.int 48271))) (.var 2)) (.cst (.int 11)))]) (.cst (.int 2147483647)))), (.ite (.cmp .ge (.var 2) (.bin .pow (.cst (.int 10)) (.cst (.int 18)))) [(.six 0 (.cst (.int 3)) (.bin .fdiv (.var 2) (.var 1)))] []), (.ret (.bin .mod (.bi .int [(.var 2)]) (.var 1)))]
abbrev st_30 : Stmt := topS 42
abbrev N_30 : List Str := ["_law_many", "_law_couples", "_law_found", "_law_one", "_law_other", "_law_person", "_law_own"]
abbrev P_30 : List Str := ["_law_many", "_law_couples"]
theorem sc_30 : FnScope N_30 P_30 (defScope st_30) := ⟨rfl, rfl, rfl, by decide +kernel, rfl, by decide +kernel, by decide +kernel⟩
def b30 : List MS := [(.asg (.nm 2) (.lc (.dct []) (.nm 5) (.rng (.var 0)) none [5])), (.for (.tp [(.nm 3), (.nm 4)]) (.seq (.var 1)) [(.six2 2 (.var 3) (.var 4) (.cst (.bool true))), (.six2 2 (.var 4) (.var 3) (.cst (.bool true)))]), (.ret (.bi .tuple [(.lc (.bi .tuple [(.bi .sorted [(.bi .list [(.var 6)])])]) (.nm 6) (.seq (.var 2)) none [6])]))]
abbrev st_31 : Stmt := topS 43
abbrev N_31 : List Str := ["_law_row", "_law_most", "_law_rare", "_law_one", "_law_many", "_law_couples", "_law_other"]
abbrev P_31 : List Str := ["_law_row", "_law_most"]
theorem sc_31 : FnScope N_31 P_31 (defScope st_31) := ⟨rfl, rfl, rfl, by decide +kernel, rfl, by decide +kernel, by decide +kernel⟩
def b31 : List MS := [(.par [4, 5] [(.bin .add (.cst (.int 1)) (.call 29 [(.var 0), (.var 1)])), (.lst [])]), (.asg (.nm 2) (.bin .add (.cst (.int 2)) (.call 29 [(.var 0), (.cst (.int 3))]))), (.for (.nm 3) (.rng (.var 4)) [(.asg (.nm 5) (.bin .add (.var 5) (.lc (.tup [(.var 3), (.var 6)]) (.nm 6) (.rng2 (.bin .add (.var 3) (.cst (.int 1))) (.var 4)) (some (.cmp .eq (.call 29 [(.var 0), (.var 2)]) (.cst (.int 0)))) [6])))]), (.ret (.call 30 [(.var 4), (.var 5)]))]
abbrev st_32 : Stmt := topS 44
abbrev N_32 : List Str := ["_law_script", "_law_row", "_law_web_here", "_law_people", "_law_person"]
abbrev P_32 : List Str := ["_law_script"]
theorem sc_32 : FnScope N_32 P_32 (defScope st_32) := ⟨rfl, rfl, rfl, by decide +kernel, rfl, by decide +kernel, by decide +kernel⟩
def b32 : List MS := [(.asg (.nm 1) (.lst [(.var 0), (.cst (.int 0)), (.cst (.int 9836)), (.cst (.int 0))])), (.asg (.nm 2) (.call 31 [(.var 1), (.cst (.int 6))])), (.ite (.cmp .ne (.call 21 [(.var 2)]) (.call 24 [(.var 2)])) [(.ret (.cst (.bool false)))] []), (.ite (.cmp .ne (.call 27 [(.var 2)]) (.bi .tuple [(.lc (.var 4) (.nm 4) (.rng (.bi .len [(.var 2)])) (some (.cmp .notin (.var 4) (.call 24 [(.var 2)]))) [4])])) [(.ret (.cst (.bool false)))] []), (.ite (.cmp .ne (.call 17 [(.var 2)]) (.call 13 [(.var 2)])) [(.ret (.cst (.bool false)))] []), (.ite (.cmp .ne (.lc (.var 4) (.nm 4) (.seq (.call 25 [(.var 2)])) (some (.cmp .notin (.var 4) (.call 17 [(.var 2)]))) [4]) (.lst [])) [(.ret (.cst (.bool false)))] []), (.for (.nm 3) (.seq (.call 20 [(.var 2)])) [(.ite (.cmp .ne (.lc (.var 4) (.nm 4) (.seq (.call 24 [(.var 2)])) (some (.cmp .notin (.var 4) (.var 3))) [4]) (.lst [])) [(.ret (.cst (.bool false)))] []), (.ite (.cmp .ne (.lc (.var 4) (.nm 4) (.seq (.var 3)) (some (.cmp .isin (.var 4) (.call 13 [(.var 2)]))) [4]) (.lst [])) [(.ret (.cst (.bool false)))] [])]), (.ite (.cmp .ne (.lc (.var 4) (.nm 4) (.seq (.call 24 [(.var 2)])) (some (.cmp .notin (.var 4) (.call 11 [(.var 2)]))) [4]) (.lst [])) [(.ret (.cst (.bool false)))] []), (.ite (.cmp .ne (.cmp .eq (.call 26 [(.var 2)]) (.tup [])) (.cmp .eq (.call 11 [(.var 2)]) (.tup []))) [(.ret (.cst (.bool false)))] []), (.ite (.cmp .ne (.cmp .eq (.call 28 [(.var 2)]) (.cst (.int 0))) (.cmp .eq (.call 11 [(.var 2)]) (.tup []))) [(.ret (.cst (.bool false)))] []), (.ite (.nt (.cmp .isin (.call 11 [(.var 2)]) (.call 19 [(.var 2)]))) [(.ret (.cst (.bool false)))] []), (.ret (.cmp .eq (.lc (.var 3) (.nm 3) (.seq (.call 19 [(.var 2)])) (some (.cmp .ne (.lc (.var 4) (.nm 4) (.seq (.call 24 [(.var 2)])) (some (.cmp .notin (.var 4) (.var 3))) [4]) (.lst []))) [3]) (.lst [])))]
def T : List Dfn := [⟨1, 1, b0⟩, ⟨3, 3, b1⟩, ⟨3, 3, b2⟩, ⟨1, 5, b3⟩, ⟨1, 4, b4⟩, ⟨2, 7, b5⟩, ⟨2, 6, b6⟩, ⟨1, 2, b7⟩, ⟨2, 4, b8⟩, ⟨1, 5, b9⟩, ⟨1, 3, b10⟩, ⟨1, 1, b11⟩, ⟨1, 3, b12⟩, ⟨1, 1, b13⟩, ⟨1, 4, b14⟩, ⟨3, 7, b15⟩, ⟨2, 5, b16⟩, ⟨1, 4, b17⟩, ⟨1, 4, b18⟩, ⟨1, 1, b19⟩, ⟨1, 4, b20⟩, ⟨1, 5, b21⟩, ⟨2, 3, b22⟩, ⟨1, 4, b23⟩, ⟨1, 1, b24⟩, ⟨1, 3, b25⟩, ⟨1, 3, b26⟩, ⟨1, 5, b27⟩, ⟨1, 5, b28⟩, ⟨2, 4, b29⟩, ⟨2, 7, b30⟩, ⟨2, 7, b31⟩, ⟨1, 5, b32⟩]
structure Fx (K : PySem.W.Frag) (mg : Str → Option Value) (fa : Nat → Addr) (fd : Nat → FuncData) (t_MOST_PEOPLE : Tok) : Prop where
  F_0 : FunD K "is_integer" "is_integer" (defArgs st_0) (defBody st_0) (defScope st_0) [] [] (fa 0) (fd 0)
  g_0 : mg "is_integer" = some (.ref (fa 0))
  B_0 : Binds K (fd 0) P_0 []
  F_1 : FunD K "is_in" "is_in" (defArgs st_1) (defBody st_1) (defScope st_1) [] [] (fa 1) (fd 1)
  g_1 : mg "is_in" = some (.ref (fa 1))
  B_1 : Binds K (fd 1) P_1 []
  F_2 : FunD K "is_list" "is_list" (defArgs st_2) (defBody st_2) (defScope st_2) [] [] (fa 2) (fd 2)
  g_2 : mg "is_list" = some (.ref (fa 2))
  B_2 : Binds K (fd 2) P_2 []
  F_3 : FunD K "need_web" "need_web" (defArgs st_3) (defBody st_3) (defScope st_3) [] [] (fa 3) (fd 3)
  g_3 : mg "need_web" = some (.ref (fa 3))
  B_3 : Binds K (fd 3) P_3 []
  F_4 : FunD K "pairs_in" "pairs_in" (defArgs st_4) (defBody st_4) (defScope st_4) [] [] (fa 4) (fd 4)
  g_4 : mg "pairs_in" = some (.ref (fa 4))
  B_4 : Binds K (fd 4) P_4 []
  F_5 : FunD K "web_by" "web_by" (defArgs st_5) (defBody st_5) (defScope st_5) [] [] (fa 5) (fd 5)
  g_5 : mg "web_by" = some (.ref (fa 5))
  B_5 : Binds K (fd 5) P_5 []
  F_6 : FunD K "group_in" "group_in" (defArgs st_6) (defBody st_6) (defScope st_6) [] [] (fa 6) (fd 6)
  g_6 : mg "group_in" = some (.ref (fa 6))
  B_6 : Binds K (fd 6) P_6 []
  F_7 : FunD K "groups_in" "groups_in" (defArgs st_7) (defBody st_7) (defScope st_7) [] [] (fa 7) (fd 7)
  g_7 : mg "groups_in" = some (.ref (fa 7))
  B_7 : Binds K (fd 7) P_7 []
  F_8 : FunD K "is_table" "is_table" (defArgs st_8) (defBody st_8) (defScope st_8) [] [] (fa 8) (fd 8)
  g_8 : mg "is_table" = some (.ref (fa 8))
  B_8 : Binds K (fd 8) P_8 []
  F_9 : FunD K "rest_of" "rest_of" (defArgs st_9) (defBody st_9) (defScope st_9) [] [] (fa 9) (fd 9)
  g_9 : mg "rest_of" = some (.ref (fa 9))
  B_9 : Binds K (fd 9) P_9 []
  F_10 : FunD K "movers_in" "movers_in" (defArgs st_10) (defBody st_10) (defScope st_10) [] [] (fa 10) (fd 10)
  g_10 : mg "movers_in" = some (.ref (fa 10))
  B_10 : Binds K (fd 10) P_10 []
  F_11 : FunD K "movers" "movers" (defArgs st_11) (defBody st_11) (defScope st_11) [] [] (fa 11) (fd 11)
  g_11 : mg "movers" = some (.ref (fa 11))
  B_11 : Binds K (fd 11) P_11 []
  F_12 : FunD K "idle_in" "idle_in" (defArgs st_12) (defBody st_12) (defScope st_12) [] [] (fa 12) (fd 12)
  g_12 : mg "idle_in" = some (.ref (fa 12))
  B_12 : Binds K (fd 12) P_12 []
  F_13 : FunD K "idle" "idle" (defArgs st_13) (defBody st_13) (defScope st_13) [] [] (fa 13) (fd 13)
  g_13 : mg "idle" = some (.ref (fa 13))
  B_13 : Binds K (fd 13) P_13 []
  F_14 : FunD K "choices" "choices" (defArgs st_14) (defBody st_14) (defScope st_14) [] [] (fa 14) (fd 14)
  g_14 : mg "choices" = some (.ref (fa 14))
  B_14 : Binds K (fd 14) P_14 []
  F_15 : FunD K "chain_ends" "chain_ends" (defArgs st_15) (defBody st_15) (defScope st_15) [] [] (fa 15) (fd 15)
  g_15 : mg "chain_ends" = some (.ref (fa 15))
  B_15 : Binds K (fd 15) P_15 []
  F_16 : FunD K "told_in" "told_in" (defArgs st_16) (defBody st_16) (defScope st_16) [] [] (fa 16) (fd 16)
  g_16 : mg "told_in" = some (.ref (fa 16))
  B_16 : Binds K (fd 16) P_16 []
  F_17 : FunD K "useless" "useless" (defArgs st_17) (defBody st_17) (defScope st_17) [] [] (fa 17) (fd 17)
  g_17 : mg "useless" = some (.ref (fa 17))
  B_17 : Binds K (fd 17) P_17 []
  F_18 : FunD K "joining_in" "joining_in" (defArgs st_18) (defBody st_18) (defScope st_18) [] [] (fa 18) (fd 18)
  g_18 : mg "joining_in" = some (.ref (fa 18))
  B_18 : Binds K (fd 18) P_18 []
  F_19 : FunD K "joining_sets" "joining_sets" (defArgs st_19) (defBody st_19) (defScope st_19) [] [] (fa 19) (fd 19)
  g_19 : mg "joining_sets" = some (.ref (fa 19))
  B_19 : Binds K (fd 19) P_19 []
  F_20 : FunD K "least_joining" "least_joining" (defArgs st_20) (defBody st_20) (defScope st_20) [] [] (fa 20) (fd 20)
  g_20 : mg "least_joining" = some (.ref (fa 20))
  B_20 : Binds K (fd 20) P_20 []
  F_21 : FunD K "must_call" "must_call" (defArgs st_21) (defBody st_21) (defScope st_21) [] [] (fa 21) (fd 21)
  g_21 : mg "must_call" = some (.ref (fa 21))
  B_21 : Binds K (fd 21) P_21 []
  F_22 : FunD K "without" "without" (defArgs st_22) (defBody st_22) (defScope st_22) [] [] (fa 22) (fd 22)
  g_22 : mg "without" = some (.ref (fa 22))
  B_22 : Binds K (fd 22) P_22 []
  F_23 : FunD K "cut_in" "cut_in" (defArgs st_23) (defBody st_23) (defScope st_23) [] [] (fa 23) (fd 23)
  g_23 : mg "cut_in" = some (.ref (fa 23))
  B_23 : Binds K (fd 23) P_23 []
  F_24 : FunD K "cut_people" "cut_people" (defArgs st_24) (defBody st_24) (defScope st_24) [] [] (fa 24) (fd 24)
  g_24 : mg "cut_people" = some (.ref (fa 24))
  B_24 : Binds K (fd 24) P_24 []
  F_25 : FunD K "leaves" "leaves" (defArgs st_25) (defBody st_25) (defScope st_25) [] [] (fa 25) (fd 25)
  g_25 : mg "leaves" = some (.ref (fa 25))
  B_25 : Binds K (fd 25) P_25 []
  F_26 : FunD K "open_groups" "open_groups" (defArgs st_26) (defBody st_26) (defScope st_26) [] [] (fa 26) (fd 26)
  g_26 : mg "open_groups" = some (.ref (fa 26))
  B_26 : Binds K (fd 26) P_26 []
  F_27 : FunD K "can_be_locked" "can_be_locked" (defArgs st_27) (defBody st_27) (defScope st_27) [] [] (fa 27) (fd 27)
  g_27 : mg "can_be_locked" = some (.ref (fa 27))
  B_27 : Binds K (fd 27) P_27 []
  F_28 : FunD K "open_threes" "open_threes" (defArgs st_28) (defBody st_28) (defScope st_28) [] [] (fa 28) (fd 28)
  g_28 : mg "open_threes" = some (.ref (fa 28))
  B_28 : Binds K (fd 28) P_28 []
  F_29 : FunD K "_law_taken" "_law_taken" (defArgs st_29) (defBody st_29) (defScope st_29) [] [] (fa 29) (fd 29)
  g_29 : mg "_law_taken" = some (.ref (fa 29))
  B_29 : Binds K (fd 29) P_29 []
  F_30 : FunD K "_law_by" "_law_by" (defArgs st_30) (defBody st_30) (defScope st_30) [] [] (fa 30) (fd 30)
  g_30 : mg "_law_by" = some (.ref (fa 30))
  B_30 : Binds K (fd 30) P_30 []
  F_31 : FunD K "_law_web" "_law_web" (defArgs st_31) (defBody st_31) (defScope st_31) [] [] (fa 31) (fd 31)
  g_31 : mg "_law_web" = some (.ref (fa 31))
  B_31 : Binds K (fd 31) P_31 []
  F_32 : FunD K "law" "law" (defArgs st_32) (defBody st_32) (defScope st_32) [] [] (fa 32) (fd 32)
  g_32 : mg "law" = some (.ref (fa 32))
  B_32 : Binds K (fd 32) P_32 []
  z_all : mg "all" = none
  z_any : mg "any" = none
  z_bool : mg "bool" = none
  z_enumerate : mg "enumerate" = none
  z_int : mg "int" = none
  z_isinstance : mg "isinstance" = none
  z_len : mg "len" = none
  z_list : mg "list" = none
  z_min : mg "min" = none
  z_range : mg "range" = none
  z_set : mg "set" = none
  z_sorted : mg "sorted" = none
  z_tuple : mg "tuple" = none
  m_MOST_PEOPLE : mg "MOST_PEOPLE" = some (.int 8 t_MOST_PEOPLE)
section
variable {Pg : Program} {w : World} {K : PySem.W.Frag} {mg : Str → Option Value} {base : Heap} {fa : Nat → Addr} {fd : Nat → FuncData} {t_MOST_PEOPLE : Tok} {n : Nat}
abbrev C (Pg : Program) (w : World) (K : PySem.W.Frag) (mg : Str → Option Value) (base : Heap) (fa : Nat → Addr) (fd : Nat → FuncData) (wh : WhT) (n j : Nat) (ps : List Str) : Prop := FnOk Pg w K mg base CX0 n (fa j) (fd j) ps (spF K ⟨callN T wh n, wh⟩ j ps.length)
set_option maxHeartbeats 4000000 in
theorem ok_0 (X : Fx K mg fa fd t_MOST_PEOPLE) : C Pg w K mg base fa fd wh (n + 1) 0 P_0 := by
  refine def_ok X.F_0 sc_0 (d := ⟨1, 1, b0⟩) rfl rfl rfl (by decide) fun cdv A outer s H E hr => ?_
  have U := room_u hr
  have U65 : (A.deeper (envOfC "is_integer" (defScope st_0) s.heap.objs.size (fa 0) cdv)).units + 65 < cLine := by omega
  have U1 : (A.deeper (envOfC "is_integer" (defScope st_0) s.heap.objs.size (fa 0) cdv)).units + 1 < cLine := by omega
  have U70 := U
  exact (s_seq (s_ret (s_and (s_isi .int rfl X.z_isinstance rfl X.z_int rfl (by decide) rfl rfl (s_var (i := 0) rfl (vis_by rfl) rfl rfl)) (pe_one (s_not (s_isi .bool rfl X.z_isinstance rfl X.z_bool rfl (by decide) rfl rfl (s_var (i := 0) rfl (vis_by rfl) rfl rfl))))))
  s_stNil)
set_option maxHeartbeats 4000000 in
theorem ok_1 (X : Fx K mg fa fd t_MOST_PEOPLE) (c_0 : C Pg w K mg base fa fd wh n 0 P_0) : C Pg w K mg base fa fd wh (n + 1) 1 P_1 := by
  refine def_ok X.F_1 sc_1 (d := ⟨3, 3, b1⟩) rfl rfl rfl (by decide) fun cdv A outer s H E hr => ?_
  have U := room_u hr
  have U65 : (A.deeper (envOfC "is_in" (defScope st_1) s.heap.objs.size (fa 1) cdv)).units + 65 < cLine := by omega
  have U1 : (A.deeper (envOfC "is_in" (defScope st_1) s.heap.objs.size (fa 1) cdv)).units + 1 < cLine := by omega
  have U70 := U
  exact (s_seq (s_ret (s_and (s_call 0 c_0 hr rfl X.g_0 X.F_0.kp X.B_0 rfl rfl rfl rfl (s_cons rfl (s_var (i := 0) rfl (vis_by rfl) rfl rfl) s_nil)) (pe_one (s_cmp2 .le .le U65 rfl (s_var (i := 1) rfl (vis_by rfl) rfl rfl) (s_var (i := 0) rfl (vis_by rfl) rfl rfl) (s_var (i := 2) rfl (vis_by rfl) rfl rfl)))))
  s_stNil)
set_option maxHeartbeats 4000000 in
theorem ok_2 (X : Fx K mg fa fd t_MOST_PEOPLE) : C Pg w K mg base fa fd wh (n + 1) 2 P_2 := by
  refine def_ok X.F_2 sc_2 (d := ⟨3, 3, b2⟩) rfl rfl rfl (by decide) fun cdv A outer s H E hr => ?_
  have U := room_u hr
  have U65 : (A.deeper (envOfC "is_list" (defScope st_2) s.heap.objs.size (fa 2) cdv)).units + 65 < cLine := by omega
  have U1 : (A.deeper (envOfC "is_list" (defScope st_2) s.heap.objs.size (fa 2) cdv)).units + 1 < cLine := by omega
  have U70 := U
  exact (s_seq (s_ret (s_and (s_isi .tuple rfl X.z_isinstance rfl X.z_tuple rfl (by decide) rfl rfl (s_var (i := 0) rfl (vis_by rfl) rfl rfl)) (pe_one (s_cmp2 .le .le U65 rfl (s_var (i := 1) rfl (vis_by rfl) rfl rfl) (s_biB cb_len rfl X.z_len rfl (by decide) rfl rfl rfl (s_cons rfl (s_var (i := 0) rfl (vis_by rfl) rfl rfl) s_nil)) (s_var (i := 2) rfl (vis_by rfl) rfl rfl)))))
  s_stNil)
set_option maxHeartbeats 4000000 in
theorem ok_3 (X : Fx K mg fa fd t_MOST_PEOPLE) (c_2 : C Pg w K mg base fa fd wh n 2 P_2) (c_1 : C Pg w K mg base fa fd wh n 1 P_1) : C Pg w K mg base fa fd wh (n + 1) 3 P_3 := by
  refine def_ok X.F_3 sc_3 (d := ⟨1, 5, b3⟩) rfl rfl rfl (by decide) fun cdv A outer s H E hr => ?_
  have U := room_u hr
  have U65 : (A.deeper (envOfC "need_web" (defScope st_3) s.heap.objs.size (fa 3) cdv)).units + 65 < cLine := by omega
  have U1 : (A.deeper (envOfC "need_web" (defScope st_3) s.heap.objs.size (fa 3) cdv)).units + 1 < cLine := by omega
  have U70 := U
  exact (s_seq (s_ite (t_not (t_val (fun _ => rfl) (s_call 2 c_2 hr rfl X.g_2 X.F_2.kp X.B_2 rfl rfl rfl rfl (s_cons rfl (s_var (i := 0) rfl (vis_by rfl) rfl rfl) (s_cons rfl (s_cst pe_int (fun _ _ => rfl)) (s_cons rfl (s_cst (pe_glob (v := .int 8) rfl X.m_MOST_PEOPLE ⟨_, rfl⟩) (fun _ _ => rfl)) s_nil)))))) (s_seq s_never
  s_stNil) s_stNil)
  (s_seq (s_set sc_3.nd (i := 1) rfl (loc_by rfl) (.inl rfl) rfl (s_biB cb_len rfl X.z_len rfl (by decide) rfl rfl rfl (s_cons rfl (s_var (i := 0) rfl (vis_by rfl) rfl rfl) s_nil)))
  (s_seq (s_for PassesOwn.never rfl (i_enum rfl X.z_enumerate rfl (s_var (i := 0) rfl (vis_by rfl) rfl rfl)) (g_tup rfl (g_cons (g_nm sc_3.nd (i := 2) rfl (loc_by rfl) (by first | exact .inl rfl | exact .inr rfl)) (g_cons (g_nm sc_3.nd (i := 3) rfl (loc_by rfl) (by first | exact .inl rfl | exact .inr rfl)) g_nil rfl) rfl) rfl rfl) (s_seq (s_ite (PW.pt (w_or (t_not (t_val (fun _ => rfl) (s_call 2 c_2 hr rfl X.g_2 X.F_2.kp X.B_2 rfl rfl rfl rfl (s_cons rfl (s_var (i := 3) rfl (vis_by rfl) rfl rfl) (s_cons rfl (s_cst pe_int (fun _ _ => rfl)) (s_cons rfl (s_bin .sub (s_var (i := 1) rfl (vis_by rfl) rfl rfl) (s_cst pe_int (fun _ _ => rfl))) s_nil)))))) (pw_or1 (t_not (t_val (fun _ => rfl) (s_biB (cb_all rfl) rfl X.z_all rfl (by decide) rfl rfl rfl (s_cons rfl (s_lc (own := [("other", 4)]) rfl sc_3.nd (blkOk_by (by rfl)) (by intro i hi; simp [tgHas, tgsHas] at hi ⊢; omega) (fun _ => rfl) (i_seq (s_var (i := 3) rfl (vis_by rfl) rfl rfl)) (fun _ _ _ _ _ => (g_nm sc_3.nd (i := 4) rfl (loc_by rfl) (by first | exact .inl rfl | exact .inr rfl))) (fun _ _ _ _ _ => c_none) (fun _ _ _ _ _ => (s_call 1 c_1 hr rfl X.g_1 X.F_1.kp X.B_1 rfl rfl rfl rfl (s_cons rfl (s_var (i := 4) rfl (vis_by rfl) rfl rfl) (s_cons rfl (s_cst pe_int (fun _ _ => rfl)) (s_cons rfl (s_bin .sub (s_var (i := 1) rfl (vis_by rfl) rfl rfl) (s_cst pe_int (fun _ _ => rfl))) s_nil)))))) s_nil))))))) (s_seq s_never
  s_stNil) s_stNil)
  (s_seq (s_ite (PW.pt (w_or (t_cmp .ne U65 rfl (s_biT (cb_list rfl) rfl X.z_list rfl (by decide) rfl rfl rfl (s_cons rfl (s_var (i := 3) rfl (vis_by rfl) rfl rfl) s_nil)) (s_sset U70 rfl rfl X.z_sorted rfl X.z_set rfl (s_cons rfl (s_var (i := 3) rfl (vis_by rfl) rfl rfl) s_nil))) (pw_or1 (t_cmp .isin U65 rfl (s_var (i := 2) rfl (vis_by rfl) rfl rfl) (s_var (i := 3) rfl (vis_by rfl) rfl rfl))))) (s_seq s_never
  s_stNil) s_stNil)
  s_stNil)) (fun _ => rfl) evI_none)
  (s_seq (s_for PassesOwn.never rfl (i_enum rfl X.z_enumerate rfl (s_var (i := 0) rfl (vis_by rfl) rfl rfl)) (g_tup rfl (g_cons (g_nm sc_3.nd (i := 2) rfl (loc_by rfl) (by first | exact .inl rfl | exact .inr rfl)) (g_cons (g_nm sc_3.nd (i := 3) rfl (loc_by rfl) (by first | exact .inl rfl | exact .inr rfl)) g_nil rfl) rfl) rfl rfl) (s_seq (s_ite (t_val (fun _ => rfl) (s_biB (cb_any rfl) rfl X.z_any rfl (by decide) rfl rfl rfl (s_cons rfl (s_lc (own := [("other", 4)]) rfl sc_3.nd (blkOk_by (by rfl)) (by intro i hi; simp [tgHas, tgsHas] at hi ⊢; omega) (fun _ => rfl) (i_seq (s_var (i := 3) rfl (vis_by rfl) rfl rfl)) (fun _ _ _ _ _ => (g_nm sc_3.nd (i := 4) rfl (loc_by rfl) (by first | exact .inl rfl | exact .inr rfl))) (fun _ _ _ _ _ => c_none) (fun _ _ _ _ _ => (s_cmp .notin U65 rfl (s_var (i := 2) rfl (vis_by rfl) rfl rfl) (s_ix U1 (fun _ _ => rfl) (s_var (i := 0) rfl (vis_by rfl) rfl rfl) (s_var (i := 4) rfl (vis_by rfl) rfl rfl))))) s_nil))) (s_seq s_never
  s_stNil) s_stNil)
  s_stNil) (fun _ => rfl) evI_none)
  s_stNil))))
set_option maxHeartbeats 4000000 in
theorem ok_4 (X : Fx K mg fa fd t_MOST_PEOPLE) : C Pg w K mg base fa fd wh (n + 1) 4 P_4 := by
  refine def_ok X.F_4 sc_4 (d := ⟨1, 4, b4⟩) rfl rfl rfl (by decide) fun cdv A outer s H E hr => ?_
  have U := room_u hr
  have U65 : (A.deeper (envOfC "pairs_in" (defScope st_4) s.heap.objs.size (fa 4) cdv)).units + 65 < cLine := by omega
  have U1 : (A.deeper (envOfC "pairs_in" (defScope st_4) s.heap.objs.size (fa 4) cdv)).units + 1 < cLine := by omega
  have U70 := U
  exact (s_seq (s_set sc_4.nd (i := 1) rfl (loc_by rfl) (.inl rfl) rfl (s_lst (by decide) s_nil))
  (s_seq (s_for PassesOwn.never rfl (i_rng rfl X.z_range rfl (s_cons rfl (s_biB cb_len rfl X.z_len rfl (by decide) rfl rfl rfl (s_cons rfl (s_var (i := 0) rfl (vis_by rfl) rfl rfl) s_nil)) s_nil)) (g_nm sc_4.nd (i := 2) rfl (loc_by rfl) (by first | exact .inl rfl | exact .inr rfl)) (s_seq (s_for PassesOwn.never rfl (i_seq (s_ix U1 (fun _ _ => rfl) (s_var (i := 0) rfl (vis_by rfl) rfl rfl) (s_var (i := 2) rfl (vis_by rfl) rfl rfl))) (g_nm sc_4.nd (i := 3) rfl (loc_by rfl) (by first | exact .inl rfl | exact .inr rfl)) (s_seq (s_ite (t_cmp .lt U65 rfl (s_var (i := 2) rfl (vis_by rfl) rfl rfl) (s_var (i := 3) rfl (vis_by rfl) rfl rfl)) (s_seq (s_app (s_var (i := 1) rfl (vis_by rfl) rfl rfl) rfl (s_tup (by decide) (s_cons rfl (s_var (i := 2) rfl (vis_by rfl) rfl rfl) (s_cons rfl (s_var (i := 3) rfl (vis_by rfl) rfl rfl) s_nil))) rfl rfl rfl rfl)
  s_stNil) s_stNil)
  s_stNil) (fun _ => rfl) evI_none)
  s_stNil) (fun _ => rfl) evI_none)
  (s_seq (s_ret (s_var (i := 1) rfl (vis_by rfl) rfl rfl))
  s_stNil)))
set_option maxHeartbeats 4000000 in
theorem ok_5 (X : Fx K mg fa fd t_MOST_PEOPLE) : C Pg w K mg base fa fd wh (n + 1) 5 P_5 := by
  refine def_ok X.F_5 sc_5 (d := ⟨2, 7, b5⟩) rfl rfl rfl (by decide) fun cdv A outer s H E hr => ?_
  have U := room_u hr
  have U65 : (A.deeper (envOfC "web_by" (defScope st_5) s.heap.objs.size (fa 5) cdv)).units + 65 < cLine := by omega
  have U1 : (A.deeper (envOfC "web_by" (defScope st_5) s.heap.objs.size (fa 5) cdv)).units + 1 < cLine := by omega
  have U70 := U
  exact (s_seq (s_setLc (i := 2) rfl sc_5.nd rfl rfl (sw_true rfl rfl rfl rfl) (own := [("person", 5)]) (blkOk_by (by rfl)) (by intro i hi; simp [tgHas, tgsHas] at hi ⊢; omega) (fun _ => rfl) (i_rng rfl X.z_range rfl (s_cons rfl (s_var (i := 0) rfl (vis_by rfl) rfl rfl) s_nil)) (fun _ _ _ _ _ => (g_nm sc_5.nd (i := 5) rfl (loc_by rfl) (by first | exact .inl rfl | exact .inr rfl))) (fun _ _ _ _ _ => c_none) (fun _ _ _ _ _ => (s_lst (by decide) s_nil)))
  (s_seq (s_for PassesOwn.never rfl (i_seq (s_var (i := 1) rfl (vis_by rfl) rfl rfl)) (g_tup rfl (g_cons (g_nm sc_5.nd (i := 3) rfl (loc_by rfl) (by first | exact .inl rfl | exact .inr rfl)) (g_cons (g_nm sc_5.nd (i := 4) rfl (loc_by rfl) (by first | exact .inl rfl | exact .inr rfl)) g_nil rfl) rfl) rfl rfl) (s_seq (s_app2 (s_var (i := 2) rfl (vis_by rfl) rfl rfl) (s_varS (i := 3) rfl (vis_by rfl) rfl rfl) (fun _ _ => rfl) rfl (s_varS (i := 4) rfl (vis_by rfl) rfl rfl) rfl rfl rfl rfl)
  (s_seq (s_app2 (s_var (i := 2) rfl (vis_by rfl) rfl rfl) (s_varS (i := 4) rfl (vis_by rfl) rfl rfl) (fun _ _ => rfl) rfl (s_varS (i := 3) rfl (vis_by rfl) rfl rfl) rfl rfl rfl rfl)
  s_stNil)) (fun _ => rfl) evI_none)
  (s_seq (s_ret (s_biT cb_tuple rfl X.z_tuple rfl (by decide) rfl rfl rfl (s_cons rfl (s_lc (own := [("row", 6)]) rfl sc_5.nd (blkOk_by (by rfl)) (by intro i hi; simp [tgHas, tgsHas] at hi ⊢; omega) (fun _ => rfl) (i_seq (s_var (i := 2) rfl (vis_by rfl) rfl rfl)) (fun _ _ _ _ _ => (g_nm sc_5.nd (i := 6) rfl (loc_by rfl) (by first | exact .inl rfl | exact .inr rfl))) (fun _ _ _ _ _ => c_none) (fun _ _ _ _ _ => (s_biT cb_tuple rfl X.z_tuple rfl (by decide) rfl rfl rfl (s_cons rfl (s_sset U70 rfl rfl X.z_sorted rfl X.z_set rfl (s_cons rfl (s_var (i := 6) rfl (vis_by rfl) rfl rfl) s_nil)) s_nil)))) s_nil)))
  s_stNil)))
set_option maxHeartbeats 4000000 in
theorem ok_6 (X : Fx K mg fa fd t_MOST_PEOPLE) : C Pg w K mg base fa fd wh (n + 1) 6 P_6 := by
  refine def_ok X.F_6 sc_6 (d := ⟨2, 6, b6⟩) rfl rfl rfl (by decide) fun cdv A outer s H E hr => ?_
  have U := room_u hr
  have U65 : (A.deeper (envOfC "group_in" (defScope st_6) s.heap.objs.size (fa 6) cdv)).units + 65 < cLine := by omega
  have U1 : (A.deeper (envOfC "group_in" (defScope st_6) s.heap.objs.size (fa 6) cdv)).units + 1 < cLine := by omega
  have U70 := U
  exact (s_seq (s_par (i := 2) (j := 3) rfl sc_6.nd rfl rfl (by decide) rfl rfl rfl rfl (s_cons rfl (s_lst (by decide) (s_cons rfl (s_var (i := 1) rfl (vis_by rfl) rfl rfl) s_nil)) (s_cons rfl (s_lst (by decide) (s_cons rfl (s_var (i := 1) rfl (vis_by rfl) rfl rfl) s_nil)) s_nil)))
  (s_seq (s_wh loop_turns PassesOwn.never (t_cmp .ne U65 rfl (s_var (i := 3) rfl (vis_by rfl) rfl rfl) (s_lst (by decide) s_nil)) (s_seq (s_set sc_6.nd (i := 4) rfl (loc_by rfl) (.inl rfl) rfl (s_pop (s_var (i := 3) rfl (vis_by rfl) rfl rfl) rfl rfl))
  (s_seq (s_for PassesOwn.never rfl (i_seq (s_ix U1 (fun _ _ => rfl) (s_var (i := 0) rfl (vis_by rfl) rfl rfl) (s_var (i := 4) rfl (vis_by rfl) rfl rfl))) (g_nm sc_6.nd (i := 5) rfl (loc_by rfl) (by first | exact .inl rfl | exact .inr rfl)) (s_seq (s_ite (t_cmp .notin U65 rfl (s_var (i := 5) rfl (vis_by rfl) rfl rfl) (s_var (i := 2) rfl (vis_by rfl) rfl rfl)) (s_seq (s_app (s_var (i := 2) rfl (vis_by rfl) rfl rfl) rfl (s_var (i := 5) rfl (vis_by rfl) rfl rfl) rfl rfl rfl rfl)
  (s_seq (s_app (s_var (i := 3) rfl (vis_by rfl) rfl rfl) rfl (s_var (i := 5) rfl (vis_by rfl) rfl rfl) rfl rfl rfl rfl)
  s_stNil)) s_stNil)
  s_stNil) (fun _ => rfl) evI_none)
  s_stNil)))
  (s_seq (s_ret (s_biT cb_tuple rfl X.z_tuple rfl (by decide) rfl rfl rfl (s_cons rfl (s_biB (cb_sorted U70) rfl X.z_sorted rfl (by decide) rfl rfl rfl (s_cons rfl (s_var (i := 2) rfl (vis_by rfl) rfl rfl) s_nil)) s_nil)))
  s_stNil)))
set_option maxHeartbeats 4000000 in
theorem ok_7 (X : Fx K mg fa fd t_MOST_PEOPLE) (c_6 : C Pg w K mg base fa fd wh n 6 P_6) : C Pg w K mg base fa fd wh (n + 1) 7 P_7 := by
  refine def_ok X.F_7 sc_7 (d := ⟨1, 2, b7⟩) rfl rfl rfl (by decide) fun cdv A outer s H E hr => ?_
  have U := room_u hr
  have U65 : (A.deeper (envOfC "groups_in" (defScope st_7) s.heap.objs.size (fa 7) cdv)).units + 65 < cLine := by omega
  have U1 : (A.deeper (envOfC "groups_in" (defScope st_7) s.heap.objs.size (fa 7) cdv)).units + 1 < cLine := by omega
  have U70 := U
  exact (s_seq (s_ret (s_sset U70 rfl rfl X.z_sorted rfl X.z_set rfl (s_cons rfl (s_lc (own := [("person", 1)]) rfl sc_7.nd (blkOk_by (by rfl)) (by intro i hi; simp [tgHas, tgsHas] at hi ⊢; omega) (fun _ => rfl) (i_rng rfl X.z_range rfl (s_cons rfl (s_biB cb_len rfl X.z_len rfl (by decide) rfl rfl rfl (s_cons rfl (s_var (i := 0) rfl (vis_by rfl) rfl rfl) s_nil)) s_nil)) (fun _ _ _ _ _ => (g_nm sc_7.nd (i := 1) rfl (loc_by rfl) (by first | exact .inl rfl | exact .inr rfl))) (fun _ _ _ _ _ => c_none) (fun _ _ _ _ _ => (s_call 6 c_6 hr rfl X.g_6 X.F_6.kp X.B_6 rfl rfl rfl rfl (s_cons rfl (s_var (i := 0) rfl (vis_by rfl) rfl rfl) (s_cons rfl (s_var (i := 1) rfl (vis_by rfl) rfl rfl) s_nil))))) s_nil)))
  s_stNil)
set_option maxHeartbeats 4000000 in
theorem ok_8 (X : Fx K mg fa fd t_MOST_PEOPLE) : C Pg w K mg base fa fd wh (n + 1) 8 P_8 := by
  refine def_ok X.F_8 sc_8 (d := ⟨2, 4, b8⟩) rfl rfl rfl (by decide) fun cdv A outer s H E hr => ?_
  have U := room_u hr
  have U65 : (A.deeper (envOfC "is_table" (defScope st_8) s.heap.objs.size (fa 8) cdv)).units + 65 < cLine := by omega
  have U1 : (A.deeper (envOfC "is_table" (defScope st_8) s.heap.objs.size (fa 8) cdv)).units + 1 < cLine := by omega
  have U70 := U
  exact (s_seq (s_ret (s_biB (cb_all rfl) rfl X.z_all rfl (by decide) rfl rfl rfl (s_cons rfl (s_lc2 (own := [("one", 2), ("other", 3)]) (own1 := [3]) rfl sc_8.nd (blkOk_by (by rfl)) (by intro i hi; simp [tgHas, tgsHas] at hi ⊢; omega) (by intro i hi; simp [tgHas, tgsHas] at hi ⊢; omega) (by decide) (fun _ => rfl) (fun _ _ => rfl) (i_seq (s_var (i := 1) rfl (vis_by rfl) rfl rfl)) (fun _ _ _ _ _ => (g_nm sc_8.nd (i := 2) rfl (loc_by rfl) (by first | exact .inl rfl | exact .inr rfl))) (fun _ _ _ _ _ => (i_seq (s_var (i := 1) rfl (vis_by rfl) rfl rfl))) (fun _ _ _ _ _ => (g_nm sc_8.nd (i := 3) rfl (loc_by rfl) (by first | exact .inl rfl | exact .inr rfl))) (fun _ _ _ _ _ => (c_some (t_cmp .lt U65 rfl (s_var (i := 2) rfl (vis_by rfl) rfl rfl) (s_var (i := 3) rfl (vis_by rfl) rfl rfl)))) (fun _ _ _ _ _ => (s_cmp .isin U65 rfl (s_var (i := 3) rfl (vis_by rfl) rfl rfl) (s_ix U1 (fun _ _ => rfl) (s_var (i := 0) rfl (vis_by rfl) rfl rfl) (s_var (i := 2) rfl (vis_by rfl) rfl rfl))))) s_nil)))
  s_stNil)
set_option maxHeartbeats 4000000 in
theorem ok_9 (X : Fx K mg fa fd t_MOST_PEOPLE) (c_5 : C Pg w K mg base fa fd wh n 5 P_5) (c_7 : C Pg w K mg base fa fd wh n 7 P_7) : C Pg w K mg base fa fd wh (n + 1) 9 P_9 := by
  refine def_ok X.F_9 sc_9 (d := ⟨1, 5, b9⟩) rfl rfl rfl (by decide) fun cdv A outer s H E hr => ?_
  have U := room_u hr
  have U65 : (A.deeper (envOfC "rest_of" (defScope st_9) s.heap.objs.size (fa 9) cdv)).units + 65 < cLine := by omega
  have U1 : (A.deeper (envOfC "rest_of" (defScope st_9) s.heap.objs.size (fa 9) cdv)).units + 1 < cLine := by omega
  have U70 := U
  exact (s_seq (s_set sc_9.nd (i := 1) rfl (loc_by rfl) (.inl rfl) rfl (s_lst (by decide) s_nil))
  (s_seq (s_for PassesOwn.never rfl (i_seq (s_call 7 c_7 hr rfl X.g_7 X.F_7.kp X.B_7 rfl rfl rfl rfl (s_cons rfl (s_var (i := 0) rfl (vis_by rfl) rfl rfl) s_nil))) (g_nm sc_9.nd (i := 2) rfl (loc_by rfl) (by first | exact .inl rfl | exact .inr rfl)) (s_seq (s_for PassesOwn.never rfl (i_seq (s_var (i := 2) rfl (vis_by rfl) rfl rfl)) (g_nm sc_9.nd (i := 3) rfl (loc_by rfl) (by first | exact .inl rfl | exact .inr rfl)) (s_seq (s_ext (s_var (i := 1) rfl (vis_by rfl) rfl rfl) rfl (s_lc (own := [("other", 4)]) rfl sc_9.nd (blkOk_by (by rfl)) (by intro i hi; simp [tgHas, tgsHas] at hi ⊢; omega) (fun _ => rfl) (i_seq (s_var (i := 2) rfl (vis_by rfl) rfl rfl)) (fun _ _ _ _ _ => (g_nm sc_9.nd (i := 4) rfl (loc_by rfl) (by first | exact .inl rfl | exact .inr rfl))) (fun _ _ _ _ _ => (c_some (t_cmp .lt U65 rfl (s_var (i := 3) rfl (vis_by rfl) rfl rfl) (s_var (i := 4) rfl (vis_by rfl) rfl rfl)))) (fun _ _ _ _ _ => (s_tup (by decide) (s_cons rfl (s_var (i := 3) rfl (vis_by rfl) rfl rfl) (s_cons rfl (s_var (i := 4) rfl (vis_by rfl) rfl rfl) s_nil))))) rfl rfl rfl rfl)
  s_stNil) (fun _ => rfl) evI_none)
  s_stNil) (fun _ => rfl) evI_none)
  (s_seq (s_ret (s_call 5 c_5 hr rfl X.g_5 X.F_5.kp X.B_5 rfl rfl rfl rfl (s_cons rfl (s_biB cb_len rfl X.z_len rfl (by decide) rfl rfl rfl (s_cons rfl (s_var (i := 0) rfl (vis_by rfl) rfl rfl) s_nil)) (s_cons rfl (s_var (i := 1) rfl (vis_by rfl) rfl rfl) s_nil))))
  s_stNil)))
set_option maxHeartbeats 4000000 in
theorem ok_10 (X : Fx K mg fa fd t_MOST_PEOPLE) (c_8 : C Pg w K mg base fa fd wh n 8 P_8) : C Pg w K mg base fa fd wh (n + 1) 10 P_10 := by
  refine def_ok X.F_10 sc_10 (d := ⟨1, 3, b10⟩) rfl rfl rfl (by decide) fun cdv A outer s H E hr => ?_
  have U := room_u hr
  have U65 : (A.deeper (envOfC "movers_in" (defScope st_10) s.heap.objs.size (fa 10) cdv)).units + 65 < cLine := by omega
  have U1 : (A.deeper (envOfC "movers_in" (defScope st_10) s.heap.objs.size (fa 10) cdv)).units + 1 < cLine := by omega
  have U70 := U
  exact (s_seq (s_set sc_10.nd (i := 1) rfl (loc_by rfl) (.inl rfl) rfl (s_lst (by decide) s_nil))
  (s_seq (s_for PassesOwn.never rfl (i_rng rfl X.z_range rfl (s_cons rfl (s_biB cb_len rfl X.z_len rfl (by decide) rfl rfl rfl (s_cons rfl (s_var (i := 0) rfl (vis_by rfl) rfl rfl) s_nil)) s_nil)) (g_nm sc_10.nd (i := 2) rfl (loc_by rfl) (by first | exact .inl rfl | exact .inr rfl)) (s_seq (s_ite (t_not (t_val (fun _ => rfl) (s_call 8 c_8 hr rfl X.g_8 X.F_8.kp X.B_8 rfl rfl rfl rfl (s_cons rfl (s_var (i := 0) rfl (vis_by rfl) rfl rfl) (s_cons rfl (s_ix U1 (fun _ _ => rfl) (s_var (i := 0) rfl (vis_by rfl) rfl rfl) (s_var (i := 2) rfl (vis_by rfl) rfl rfl)) s_nil))))) (s_seq (s_app (s_var (i := 1) rfl (vis_by rfl) rfl rfl) rfl (s_var (i := 2) rfl (vis_by rfl) rfl rfl) rfl rfl rfl rfl)
  s_stNil) s_stNil)
  s_stNil) (fun _ => rfl) evI_none)
  (s_seq (s_ret (s_var (i := 1) rfl (vis_by rfl) rfl rfl))
  s_stNil)))
set_option maxHeartbeats 4000000 in
theorem ok_11 (X : Fx K mg fa fd t_MOST_PEOPLE) (c_10 : C Pg w K mg base fa fd wh n 10 P_10) (c_3 : C Pg w K mg base fa fd wh n 3 P_3) : C Pg w K mg base fa fd wh (n + 1) 11 P_11 := by
  refine def_ok X.F_11 sc_11 (d := ⟨1, 1, b11⟩) rfl rfl rfl (by decide) fun cdv A outer s H E hr => ?_
  have U := room_u hr
  have U65 : (A.deeper (envOfC "movers" (defScope st_11) s.heap.objs.size (fa 11) cdv)).units + 65 < cLine := by omega
  have U1 : (A.deeper (envOfC "movers" (defScope st_11) s.heap.objs.size (fa 11) cdv)).units + 1 < cLine := by omega
  have U70 := U
  exact (s_seq (s_exp rfl (s_call 3 c_3 hr rfl X.g_3 X.F_3.kp X.B_3 rfl rfl rfl rfl (s_cons rfl (s_var (i := 0) rfl (vis_by rfl) rfl rfl) s_nil)))
  (s_seq (s_ret (s_biT cb_tuple rfl X.z_tuple rfl (by decide) rfl rfl rfl (s_cons rfl (s_call 10 c_10 hr rfl X.g_10 X.F_10.kp X.B_10 rfl rfl rfl rfl (s_cons rfl (s_var (i := 0) rfl (vis_by rfl) rfl rfl) s_nil)) s_nil)))
  s_stNil))
set_option maxHeartbeats 4000000 in
theorem ok_12 (X : Fx K mg fa fd t_MOST_PEOPLE) (c_8 : C Pg w K mg base fa fd wh n 8 P_8) : C Pg w K mg base fa fd wh (n + 1) 12 P_12 := by
  refine def_ok X.F_12 sc_12 (d := ⟨1, 3, b12⟩) rfl rfl rfl (by decide) fun cdv A outer s H E hr => ?_
  have U := room_u hr
  have U65 : (A.deeper (envOfC "idle_in" (defScope st_12) s.heap.objs.size (fa 12) cdv)).units + 65 < cLine := by omega
  have U1 : (A.deeper (envOfC "idle_in" (defScope st_12) s.heap.objs.size (fa 12) cdv)).units + 1 < cLine := by omega
  have U70 := U
  exact (s_seq (s_set sc_12.nd (i := 1) rfl (loc_by rfl) (.inl rfl) rfl (s_lst (by decide) s_nil))
  (s_seq (s_for PassesOwn.never rfl (i_rng rfl X.z_range rfl (s_cons rfl (s_biB cb_len rfl X.z_len rfl (by decide) rfl rfl rfl (s_cons rfl (s_var (i := 0) rfl (vis_by rfl) rfl rfl) s_nil)) s_nil)) (g_nm sc_12.nd (i := 2) rfl (loc_by rfl) (by first | exact .inl rfl | exact .inr rfl)) (s_seq (s_ite (t_val (fun _ => rfl) (s_call 8 c_8 hr rfl X.g_8 X.F_8.kp X.B_8 rfl rfl rfl rfl (s_cons rfl (s_var (i := 0) rfl (vis_by rfl) rfl rfl) (s_cons rfl (s_ix U1 (fun _ _ => rfl) (s_var (i := 0) rfl (vis_by rfl) rfl rfl) (s_var (i := 2) rfl (vis_by rfl) rfl rfl)) s_nil)))) (s_seq (s_app (s_var (i := 1) rfl (vis_by rfl) rfl rfl) rfl (s_var (i := 2) rfl (vis_by rfl) rfl rfl) rfl rfl rfl rfl)
  s_stNil) s_stNil)
  s_stNil) (fun _ => rfl) evI_none)
  (s_seq (s_ret (s_var (i := 1) rfl (vis_by rfl) rfl rfl))
  s_stNil)))
set_option maxHeartbeats 4000000 in
theorem ok_13 (X : Fx K mg fa fd t_MOST_PEOPLE) (c_12 : C Pg w K mg base fa fd wh n 12 P_12) (c_3 : C Pg w K mg base fa fd wh n 3 P_3) : C Pg w K mg base fa fd wh (n + 1) 13 P_13 := by
  refine def_ok X.F_13 sc_13 (d := ⟨1, 1, b13⟩) rfl rfl rfl (by decide) fun cdv A outer s H E hr => ?_
  have U := room_u hr
  have U65 : (A.deeper (envOfC "idle" (defScope st_13) s.heap.objs.size (fa 13) cdv)).units + 65 < cLine := by omega
  have U1 : (A.deeper (envOfC "idle" (defScope st_13) s.heap.objs.size (fa 13) cdv)).units + 1 < cLine := by omega
  have U70 := U
  exact (s_seq (s_exp rfl (s_call 3 c_3 hr rfl X.g_3 X.F_3.kp X.B_3 rfl rfl rfl rfl (s_cons rfl (s_var (i := 0) rfl (vis_by rfl) rfl rfl) s_nil)))
  (s_seq (s_ret (s_biT cb_tuple rfl X.z_tuple rfl (by decide) rfl rfl rfl (s_cons rfl (s_call 12 c_12 hr rfl X.g_12 X.F_12.kp X.B_12 rfl rfl rfl rfl (s_cons rfl (s_var (i := 0) rfl (vis_by rfl) rfl rfl) s_nil)) s_nil)))
  s_stNil))
set_option maxHeartbeats 4000000 in
theorem ok_14 (X : Fx K mg fa fd t_MOST_PEOPLE) : C Pg w K mg base fa fd wh (n + 1) 14 P_14 := by
  refine def_ok X.F_14 sc_14 (d := ⟨1, 4, b14⟩) rfl rfl rfl (by decide) fun cdv A outer s H E hr => ?_
  have U := room_u hr
  have U65 : (A.deeper (envOfC "choices" (defScope st_14) s.heap.objs.size (fa 14) cdv)).units + 65 < cLine := by omega
  have U1 : (A.deeper (envOfC "choices" (defScope st_14) s.heap.objs.size (fa 14) cdv)).units + 1 < cLine := by omega
  have U70 := U
  exact (s_seq (s_set sc_14.nd (i := 1) rfl (loc_by rfl) (.inl rfl) rfl (s_lst (by decide) (s_cons rfl (s_tup (by decide) s_nil) s_nil)))
  (s_seq (s_for PassesOwn.never rfl (i_rng rfl X.z_range rfl (s_cons rfl (s_var (i := 0) rfl (vis_by rfl) rfl rfl) s_nil)) (g_nm sc_14.nd (i := 2) rfl (loc_by rfl) (by first | exact .inl rfl | exact .inr rfl)) (s_seq (s_grow (own := [("row", 3)]) rfl rfl sc_14.nd (s_var (i := 1) rfl (vis_by rfl) rfl rfl) (s_var (i := 1) rfl (vis_by rfl) rfl rfl) (blkOk_by (by rfl)) (fun _ _ _ _ _ => (g_nm sc_14.nd (i := 3) rfl (loc_by rfl) (by first | exact .inl rfl | exact .inr rfl))) (fun _ _ _ _ _ => (s_tupS (s_var (i := 3) rfl (vis_by rfl) rfl rfl) (s_cons rfl (s_var (i := 2) rfl (vis_by rfl) rfl rfl) s_nil) rfl)) (fun _ => rfl) rfl rfl rfl rfl)
  s_stNil) (fun _ => rfl) evI_none)
  (s_seq (s_ret (s_var (i := 1) rfl (vis_by rfl) rfl rfl))
  s_stNil)))
set_option maxHeartbeats 4000000 in
theorem ok_15 (X : Fx K mg fa fd t_MOST_PEOPLE) : C Pg w K mg base fa fd wh (n + 1) 15 P_15 := by
  refine def_ok X.F_15 sc_15 (d := ⟨3, 7, b15⟩) rfl rfl rfl (by decide) fun cdv A outer s H E hr => ?_
  have U := room_u hr
  have U65 : (A.deeper (envOfC "chain_ends" (defScope st_15) s.heap.objs.size (fa 15) cdv)).units + 65 < cLine := by omega
  have U1 : (A.deeper (envOfC "chain_ends" (defScope st_15) s.heap.objs.size (fa 15) cdv)).units + 1 < cLine := by omega
  have U70 := U
  exact (s_seq (s_par (i := 3) (j := 4) rfl sc_15.nd rfl rfl (by decide) rfl rfl rfl rfl (s_cons rfl (s_lst (by decide) (s_cons rfl (s_var (i := 2) rfl (vis_by rfl) rfl rfl) s_nil)) (s_cons rfl (s_lst (by decide) (s_cons rfl (s_var (i := 2) rfl (vis_by rfl) rfl rfl) s_nil)) s_nil)))
  (s_seq (s_wh loop_turns PassesOwn.never (t_cmp .ne U65 rfl (s_var (i := 4) rfl (vis_by rfl) rfl rfl) (s_lst (by decide) s_nil)) (s_seq (s_set sc_15.nd (i := 5) rfl (loc_by rfl) (.inl rfl) rfl (s_pop (s_var (i := 4) rfl (vis_by rfl) rfl rfl) rfl rfl))
  (s_seq (s_for PassesOwn.never rfl (i_seq (s_ix U1 (fun _ _ => rfl) (s_var (i := 0) rfl (vis_by rfl) rfl rfl) (s_var (i := 5) rfl (vis_by rfl) rfl rfl))) (g_nm sc_15.nd (i := 6) rfl (loc_by rfl) (by first | exact .inl rfl | exact .inr rfl)) (s_seq (s_ite (t_cmp .notin U65 rfl (s_var (i := 6) rfl (vis_by rfl) rfl rfl) (s_var (i := 3) rfl (vis_by rfl) rfl rfl)) (s_seq (s_app (s_var (i := 3) rfl (vis_by rfl) rfl rfl) rfl (s_var (i := 6) rfl (vis_by rfl) rfl rfl) rfl rfl rfl rfl)
  (s_seq (s_ite (t_cmp .isin U65 rfl (s_var (i := 6) rfl (vis_by rfl) rfl rfl) (s_var (i := 1) rfl (vis_by rfl) rfl rfl)) (s_seq (s_app (s_var (i := 4) rfl (vis_by rfl) rfl rfl) rfl (s_var (i := 6) rfl (vis_by rfl) rfl rfl) rfl rfl rfl rfl)
  s_stNil) s_stNil)
  s_stNil)) s_stNil)
  s_stNil) (fun _ => rfl) evI_none)
  s_stNil)))
  (s_seq (s_ret (s_var (i := 3) rfl (vis_by rfl) rfl rfl))
  s_stNil)))
set_option maxHeartbeats 4000000 in
theorem ok_16 (X : Fx K mg fa fd t_MOST_PEOPLE) (c_5 : C Pg w K mg base fa fd wh n 5 P_5) (c_15 : C Pg w K mg base fa fd wh n 15 P_15) : C Pg w K mg base fa fd wh (n + 1) 16 P_16 := by
  refine def_ok X.F_16 sc_16 (d := ⟨2, 5, b16⟩) rfl rfl rfl (by decide) fun cdv A outer s H E hr => ?_
  have U := room_u hr
  have U65 : (A.deeper (envOfC "told_in" (defScope st_16) s.heap.objs.size (fa 16) cdv)).units + 65 < cLine := by omega
  have U1 : (A.deeper (envOfC "told_in" (defScope st_16) s.heap.objs.size (fa 16) cdv)).units + 1 < cLine := by omega
  have U70 := U
  exact (s_seq (s_set sc_16.nd (i := 2) rfl (loc_by rfl) (.inl rfl) rfl (s_lst (by decide) s_nil))
  (s_seq (s_for PassesOwn.never rfl (i_rng rfl X.z_range rfl (s_cons rfl (s_biB cb_len rfl X.z_len rfl (by decide) rfl rfl rfl (s_cons rfl (s_var (i := 0) rfl (vis_by rfl) rfl rfl) s_nil)) s_nil)) (g_nm sc_16.nd (i := 3) rfl (loc_by rfl) (by first | exact .inl rfl | exact .inr rfl)) (s_seq (s_ext (s_var (i := 2) rfl (vis_by rfl) rfl rfl) rfl (s_lc (own := [("other", 4)]) rfl sc_16.nd (blkOk_by (by rfl)) (by intro i hi; simp [tgHas, tgsHas] at hi ⊢; omega) (fun _ => rfl) (i_seq (s_call 15 c_15 hr rfl X.g_15 X.F_15.kp X.B_15 rfl rfl rfl rfl (s_cons rfl (s_var (i := 0) rfl (vis_by rfl) rfl rfl) (s_cons rfl (s_var (i := 1) rfl (vis_by rfl) rfl rfl) (s_cons rfl (s_var (i := 3) rfl (vis_by rfl) rfl rfl) s_nil))))) (fun _ _ _ _ _ => (g_nm sc_16.nd (i := 4) rfl (loc_by rfl) (by first | exact .inl rfl | exact .inr rfl))) (fun _ _ _ _ _ => (c_some (t_cmp .lt U65 rfl (s_var (i := 3) rfl (vis_by rfl) rfl rfl) (s_var (i := 4) rfl (vis_by rfl) rfl rfl)))) (fun _ _ _ _ _ => (s_tup (by decide) (s_cons rfl (s_var (i := 3) rfl (vis_by rfl) rfl rfl) (s_cons rfl (s_var (i := 4) rfl (vis_by rfl) rfl rfl) s_nil))))) rfl rfl rfl rfl)
  s_stNil) (fun _ => rfl) evI_none)
  (s_seq (s_ret (s_call 5 c_5 hr rfl X.g_5 X.F_5.kp X.B_5 rfl rfl rfl rfl (s_cons rfl (s_biB cb_len rfl X.z_len rfl (by decide) rfl rfl rfl (s_cons rfl (s_var (i := 0) rfl (vis_by rfl) rfl rfl) s_nil)) (s_cons rfl (s_var (i := 2) rfl (vis_by rfl) rfl rfl) s_nil))))
  s_stNil)))
set_option maxHeartbeats 4000000 in
theorem ok_17 (X : Fx K mg fa fd t_MOST_PEOPLE) (c_14 : C Pg w K mg base fa fd wh n 14 P_14) (c_12 : C Pg w K mg base fa fd wh n 12 P_12) (c_16 : C Pg w K mg base fa fd wh n 16 P_16) (c_3 : C Pg w K mg base fa fd wh n 3 P_3) : C Pg w K mg base fa fd wh (n + 1) 17 P_17 := by
  refine def_ok X.F_17 sc_17 (d := ⟨1, 4, b17⟩) rfl rfl rfl (by decide) fun cdv A outer s H E hr => ?_
  have U := room_u hr
  have U65 : (A.deeper (envOfC "useless" (defScope st_17) s.heap.objs.size (fa 17) cdv)).units + 65 < cLine := by omega
  have U1 : (A.deeper (envOfC "useless" (defScope st_17) s.heap.objs.size (fa 17) cdv)).units + 1 < cLine := by omega
  have U70 := U
  exact (s_seq (s_exp rfl (s_call 3 c_3 hr rfl X.g_3 X.F_3.kp X.B_3 rfl rfl rfl rfl (s_cons rfl (s_var (i := 0) rfl (vis_by rfl) rfl rfl) s_nil)))
  (s_seq (s_set sc_17.nd (i := 1) rfl (loc_by rfl) (.inl rfl) rfl (s_lst (by decide) s_nil))
  (s_seq (s_for PassesOwn.never rfl (i_rng rfl X.z_range rfl (s_cons rfl (s_biB cb_len rfl X.z_len rfl (by decide) rfl rfl rfl (s_cons rfl (s_var (i := 0) rfl (vis_by rfl) rfl rfl) s_nil)) s_nil)) (g_nm sc_17.nd (i := 2) rfl (loc_by rfl) (by first | exact .inl rfl | exact .inr rfl)) (s_seq (s_ite (t_val (fun _ => rfl) (s_biB (cb_all rfl) rfl X.z_all rfl (by decide) rfl rfl rfl (s_cons rfl (s_lc (own := [("row", 3)]) rfl sc_17.nd (blkOk_by (by rfl)) (by intro i hi; simp [tgHas, tgsHas] at hi ⊢; omega) (fun _ => rfl) (i_seq (s_call 14 c_14 hr rfl X.g_14 X.F_14.kp X.B_14 rfl rfl rfl rfl (s_cons rfl (s_biB cb_len rfl X.z_len rfl (by decide) rfl rfl rfl (s_cons rfl (s_var (i := 0) rfl (vis_by rfl) rfl rfl) s_nil)) s_nil))) (fun _ _ _ _ _ => (g_nm sc_17.nd (i := 3) rfl (loc_by rfl) (by first | exact .inl rfl | exact .inr rfl))) (fun _ _ _ _ _ => c_none) (fun _ _ _ _ _ => (s_cmp .isin U65 rfl (s_var (i := 2) rfl (vis_by rfl) rfl rfl) (s_call 12 c_12 hr rfl X.g_12 X.F_12.kp X.B_12 rfl rfl rfl rfl (s_cons rfl (s_call 16 c_16 hr rfl X.g_16 X.F_16.kp X.B_16 rfl rfl rfl rfl (s_cons rfl (s_var (i := 0) rfl (vis_by rfl) rfl rfl) (s_cons rfl (s_var (i := 3) rfl (vis_by rfl) rfl rfl) s_nil))) s_nil))))) s_nil))) (s_seq (s_app (s_var (i := 1) rfl (vis_by rfl) rfl rfl) rfl (s_var (i := 2) rfl (vis_by rfl) rfl rfl) rfl rfl rfl rfl)
  s_stNil) s_stNil)
  s_stNil) (fun _ => rfl) evI_none)
  (s_seq (s_ret (s_biT cb_tuple rfl X.z_tuple rfl (by decide) rfl rfl rfl (s_cons rfl (s_var (i := 1) rfl (vis_by rfl) rfl rfl) s_nil)))
  s_stNil))))
set_option maxHeartbeats 4000000 in
theorem ok_18 (X : Fx K mg fa fd t_MOST_PEOPLE) (c_14 : C Pg w K mg base fa fd wh n 14 P_14) (c_16 : C Pg w K mg base fa fd wh n 16 P_16) (c_9 : C Pg w K mg base fa fd wh n 9 P_9) : C Pg w K mg base fa fd wh (n + 1) 18 P_18 := by
  refine def_ok X.F_18 sc_18 (d := ⟨1, 4, b18⟩) rfl rfl rfl (by decide) fun cdv A outer s H E hr => ?_
  have U := room_u hr
  have U65 : (A.deeper (envOfC "joining_in" (defScope st_18) s.heap.objs.size (fa 18) cdv)).units + 65 < cLine := by omega
  have U1 : (A.deeper (envOfC "joining_in" (defScope st_18) s.heap.objs.size (fa 18) cdv)).units + 1 < cLine := by omega
  have U70 := U
  exact (s_seq (s_set sc_18.nd (i := 1) rfl (loc_by rfl) (.inl rfl) rfl (s_call 9 c_9 hr rfl X.g_9 X.F_9.kp X.B_9 rfl rfl rfl rfl (s_cons rfl (s_var (i := 0) rfl (vis_by rfl) rfl rfl) s_nil)))
  (s_seq (s_set sc_18.nd (i := 2) rfl (loc_by rfl) (.inl rfl) rfl (s_lst (by decide) s_nil))
  (s_seq (s_for PassesOwn.never rfl (i_seq (s_call 14 c_14 hr rfl X.g_14 X.F_14.kp X.B_14 rfl rfl rfl rfl (s_cons rfl (s_biB cb_len rfl X.z_len rfl (by decide) rfl rfl rfl (s_cons rfl (s_var (i := 0) rfl (vis_by rfl) rfl rfl) s_nil)) s_nil))) (g_nm sc_18.nd (i := 3) rfl (loc_by rfl) (by first | exact .inl rfl | exact .inr rfl)) (s_seq (s_ite (t_cmp .eq U65 rfl (s_call 16 c_16 hr rfl X.g_16 X.F_16.kp X.B_16 rfl rfl rfl rfl (s_cons rfl (s_var (i := 0) rfl (vis_by rfl) rfl rfl) (s_cons rfl (s_var (i := 3) rfl (vis_by rfl) rfl rfl) s_nil))) (s_var (i := 1) rfl (vis_by rfl) rfl rfl)) (s_seq (s_app (s_var (i := 2) rfl (vis_by rfl) rfl rfl) rfl (s_var (i := 3) rfl (vis_by rfl) rfl rfl) rfl rfl rfl rfl)
  s_stNil) s_stNil)
  s_stNil) (fun _ => rfl) evI_none)
  (s_seq (s_ret (s_biB (cb_sorted U70) rfl X.z_sorted rfl (by decide) rfl rfl rfl (s_cons rfl (s_var (i := 2) rfl (vis_by rfl) rfl rfl) s_nil)))
  s_stNil))))
set_option maxHeartbeats 4000000 in
theorem ok_19 (X : Fx K mg fa fd t_MOST_PEOPLE) (c_18 : C Pg w K mg base fa fd wh n 18 P_18) (c_3 : C Pg w K mg base fa fd wh n 3 P_3) : C Pg w K mg base fa fd wh (n + 1) 19 P_19 := by
  refine def_ok X.F_19 sc_19 (d := ⟨1, 1, b19⟩) rfl rfl rfl (by decide) fun cdv A outer s H E hr => ?_
  have U := room_u hr
  have U65 : (A.deeper (envOfC "joining_sets" (defScope st_19) s.heap.objs.size (fa 19) cdv)).units + 65 < cLine := by omega
  have U1 : (A.deeper (envOfC "joining_sets" (defScope st_19) s.heap.objs.size (fa 19) cdv)).units + 1 < cLine := by omega
  have U70 := U
  exact (s_seq (s_exp rfl (s_call 3 c_3 hr rfl X.g_3 X.F_3.kp X.B_3 rfl rfl rfl rfl (s_cons rfl (s_var (i := 0) rfl (vis_by rfl) rfl rfl) s_nil)))
  (s_seq (s_ret (s_call 18 c_18 hr rfl X.g_18 X.F_18.kp X.B_18 rfl rfl rfl rfl (s_cons rfl (s_var (i := 0) rfl (vis_by rfl) rfl rfl) s_nil)))
  s_stNil))
set_option maxHeartbeats 4000000 in
theorem ok_20 (X : Fx K mg fa fd t_MOST_PEOPLE) (c_18 : C Pg w K mg base fa fd wh n 18 P_18) (c_3 : C Pg w K mg base fa fd wh n 3 P_3) : C Pg w K mg base fa fd wh (n + 1) 20 P_20 := by
  refine def_ok X.F_20 sc_20 (d := ⟨1, 4, b20⟩) rfl rfl rfl (by decide) fun cdv A outer s H E hr => ?_
  have U := room_u hr
  have U65 : (A.deeper (envOfC "least_joining" (defScope st_20) s.heap.objs.size (fa 20) cdv)).units + 65 < cLine := by omega
  have U1 : (A.deeper (envOfC "least_joining" (defScope st_20) s.heap.objs.size (fa 20) cdv)).units + 1 < cLine := by omega
  have U70 := U
  exact (s_seq (s_exp rfl (s_call 3 c_3 hr rfl X.g_3 X.F_3.kp X.B_3 rfl rfl rfl rfl (s_cons rfl (s_var (i := 0) rfl (vis_by rfl) rfl rfl) s_nil)))
  (s_seq (s_set sc_20.nd (i := 1) rfl (loc_by rfl) (.inl rfl) rfl (s_call 18 c_18 hr rfl X.g_18 X.F_18.kp X.B_18 rfl rfl rfl rfl (s_cons rfl (s_var (i := 0) rfl (vis_by rfl) rfl rfl) s_nil)))
  (s_seq (s_set sc_20.nd (i := 2) rfl (loc_by rfl) (.inl rfl) rfl (s_biB (cb_min U70 rfl) rfl X.z_min rfl (by decide) rfl rfl rfl (s_cons rfl (s_lc (own := [("called", 3)]) rfl sc_20.nd (blkOk_by (by rfl)) (by intro i hi; simp [tgHas, tgsHas] at hi ⊢; omega) (fun _ => rfl) (i_seq (s_var (i := 1) rfl (vis_by rfl) rfl rfl)) (fun _ _ _ _ _ => (g_nm sc_20.nd (i := 3) rfl (loc_by rfl) (by first | exact .inl rfl | exact .inr rfl))) (fun _ _ _ _ _ => c_none) (fun _ _ _ _ _ => (s_biB cb_len rfl X.z_len rfl (by decide) rfl rfl rfl (s_cons rfl (s_var (i := 3) rfl (vis_by rfl) rfl rfl) s_nil)))) s_nil)))
  (s_seq (s_ret (s_lc (own := [("called", 3)]) rfl sc_20.nd (blkOk_by (by rfl)) (by intro i hi; simp [tgHas, tgsHas] at hi ⊢; omega) (fun _ => rfl) (i_seq (s_var (i := 1) rfl (vis_by rfl) rfl rfl)) (fun _ _ _ _ _ => (g_nm sc_20.nd (i := 3) rfl (loc_by rfl) (by first | exact .inl rfl | exact .inr rfl))) (fun _ _ _ _ _ => (c_some (t_cmp .eq U65 rfl (s_biB cb_len rfl X.z_len rfl (by decide) rfl rfl rfl (s_cons rfl (s_var (i := 3) rfl (vis_by rfl) rfl rfl) s_nil)) (s_var (i := 2) rfl (vis_by rfl) rfl rfl)))) (fun _ _ _ _ _ => (s_var (i := 3) rfl (vis_by rfl) rfl rfl))))
  s_stNil))))
set_option maxHeartbeats 4000000 in
theorem ok_21 (X : Fx K mg fa fd t_MOST_PEOPLE) (c_18 : C Pg w K mg base fa fd wh n 18 P_18) (c_3 : C Pg w K mg base fa fd wh n 3 P_3) : C Pg w K mg base fa fd wh (n + 1) 21 P_21 := by
  refine def_ok X.F_21 sc_21 (d := ⟨1, 5, b21⟩) rfl rfl rfl (by decide) fun cdv A outer s H E hr => ?_
  have U := room_u hr
  have U65 : (A.deeper (envOfC "must_call" (defScope st_21) s.heap.objs.size (fa 21) cdv)).units + 65 < cLine := by omega
  have U1 : (A.deeper (envOfC "must_call" (defScope st_21) s.heap.objs.size (fa 21) cdv)).units + 1 < cLine := by omega
  have U70 := U
  exact (s_seq (s_exp rfl (s_call 3 c_3 hr rfl X.g_3 X.F_3.kp X.B_3 rfl rfl rfl rfl (s_cons rfl (s_var (i := 0) rfl (vis_by rfl) rfl rfl) s_nil)))
  (s_seq (s_set sc_21.nd (i := 1) rfl (loc_by rfl) (.inl rfl) rfl (s_call 18 c_18 hr rfl X.g_18 X.F_18.kp X.B_18 rfl rfl rfl rfl (s_cons rfl (s_var (i := 0) rfl (vis_by rfl) rfl rfl) s_nil)))
  (s_seq (s_set sc_21.nd (i := 2) rfl (loc_by rfl) (.inl rfl) rfl (s_lst (by decide) s_nil))
  (s_seq (s_for PassesOwn.never rfl (i_rng rfl X.z_range rfl (s_cons rfl (s_biB cb_len rfl X.z_len rfl (by decide) rfl rfl rfl (s_cons rfl (s_var (i := 0) rfl (vis_by rfl) rfl rfl) s_nil)) s_nil)) (g_nm sc_21.nd (i := 3) rfl (loc_by rfl) (by first | exact .inl rfl | exact .inr rfl)) (s_seq (s_ite (t_val (fun _ => rfl) (s_biB (cb_all rfl) rfl X.z_all rfl (by decide) rfl rfl rfl (s_cons rfl (s_lc (own := [("called", 4)]) rfl sc_21.nd (blkOk_by (by rfl)) (by intro i hi; simp [tgHas, tgsHas] at hi ⊢; omega) (fun _ => rfl) (i_seq (s_var (i := 1) rfl (vis_by rfl) rfl rfl)) (fun _ _ _ _ _ => (g_nm sc_21.nd (i := 4) rfl (loc_by rfl) (by first | exact .inl rfl | exact .inr rfl))) (fun _ _ _ _ _ => c_none) (fun _ _ _ _ _ => (s_cmp .isin U65 rfl (s_var (i := 3) rfl (vis_by rfl) rfl rfl) (s_var (i := 4) rfl (vis_by rfl) rfl rfl)))) s_nil))) (s_seq (s_app (s_var (i := 2) rfl (vis_by rfl) rfl rfl) rfl (s_var (i := 3) rfl (vis_by rfl) rfl rfl) rfl rfl rfl rfl)
  s_stNil) s_stNil)
  s_stNil) (fun _ => rfl) evI_none)
  (s_seq (s_ret (s_biT cb_tuple rfl X.z_tuple rfl (by decide) rfl rfl rfl (s_cons rfl (s_var (i := 2) rfl (vis_by rfl) rfl rfl) s_nil)))
  s_stNil)))))
set_option maxHeartbeats 4000000 in
theorem ok_22 (X : Fx K mg fa fd t_MOST_PEOPLE) (c_5 : C Pg w K mg base fa fd wh n 5 P_5) (c_4 : C Pg w K mg base fa fd wh n 4 P_4) : C Pg w K mg base fa fd wh (n + 1) 22 P_22 := by
  refine def_ok X.F_22 sc_22 (d := ⟨2, 3, b22⟩) rfl rfl rfl (by decide) fun cdv A outer s H E hr => ?_
  have U := room_u hr
  have U65 : (A.deeper (envOfC "without" (defScope st_22) s.heap.objs.size (fa 22) cdv)).units + 65 < cLine := by omega
  have U1 : (A.deeper (envOfC "without" (defScope st_22) s.heap.objs.size (fa 22) cdv)).units + 1 < cLine := by omega
  have U70 := U
  exact (s_seq (s_ret (s_call 5 c_5 hr rfl X.g_5 X.F_5.kp X.B_5 rfl rfl rfl rfl (s_cons rfl (s_biB cb_len rfl X.z_len rfl (by decide) rfl rfl rfl (s_cons rfl (s_var (i := 0) rfl (vis_by rfl) rfl rfl) s_nil)) (s_cons rfl (s_lc (own := [("pair", 2)]) rfl sc_22.nd (blkOk_by (by rfl)) (by intro i hi; simp [tgHas, tgsHas] at hi ⊢; omega) (fun _ => rfl) (i_seq (s_call 4 c_4 hr rfl X.g_4 X.F_4.kp X.B_4 rfl rfl rfl rfl (s_cons rfl (s_var (i := 0) rfl (vis_by rfl) rfl rfl) s_nil))) (fun _ _ _ _ _ => (g_nm sc_22.nd (i := 2) rfl (loc_by rfl) (by first | exact .inl rfl | exact .inr rfl))) (fun _ _ _ _ _ => (c_some (t_cmp .notin U65 rfl (s_var (i := 1) rfl (vis_by rfl) rfl rfl) (s_var (i := 2) rfl (vis_by rfl) rfl rfl)))) (fun _ _ _ _ _ => (s_var (i := 2) rfl (vis_by rfl) rfl rfl))) s_nil))))
  s_stNil)
set_option maxHeartbeats 4000000 in
theorem ok_23 (X : Fx K mg fa fd t_MOST_PEOPLE) (c_7 : C Pg w K mg base fa fd wh n 7 P_7) (c_22 : C Pg w K mg base fa fd wh n 22 P_22) : C Pg w K mg base fa fd wh (n + 1) 23 P_23 := by
  refine def_ok X.F_23 sc_23 (d := ⟨1, 4, b23⟩) rfl rfl rfl (by decide) fun cdv A outer s H E hr => ?_
  have U := room_u hr
  have U65 : (A.deeper (envOfC "cut_in" (defScope st_23) s.heap.objs.size (fa 23) cdv)).units + 65 < cLine := by omega
  have U1 : (A.deeper (envOfC "cut_in" (defScope st_23) s.heap.objs.size (fa 23) cdv)).units + 1 < cLine := by omega
  have U70 := U
  exact (s_seq (s_par (i := 2) (j := 3) rfl sc_23.nd rfl rfl (by decide) rfl rfl rfl rfl (s_cons rfl (s_biB cb_len rfl X.z_len rfl (by decide) rfl rfl rfl (s_cons rfl (s_call 7 c_7 hr rfl X.g_7 X.F_7.kp X.B_7 rfl rfl rfl rfl (s_cons rfl (s_var (i := 0) rfl (vis_by rfl) rfl rfl) s_nil)) s_nil)) (s_cons rfl (s_lst (by decide) s_nil) s_nil)))
  (s_seq (s_for PassesOwn.never rfl (i_rng rfl X.z_range rfl (s_cons rfl (s_biB cb_len rfl X.z_len rfl (by decide) rfl rfl rfl (s_cons rfl (s_var (i := 0) rfl (vis_by rfl) rfl rfl) s_nil)) s_nil)) (g_nm sc_23.nd (i := 1) rfl (loc_by rfl) (by first | exact .inl rfl | exact .inr rfl)) (s_seq (s_ite (PW.pt (w_and (t_cmp .ne U65 rfl (s_ix U1 (fun _ _ => rfl) (s_var (i := 0) rfl (vis_by rfl) rfl rfl) (s_var (i := 1) rfl (vis_by rfl) rfl rfl)) (s_tup (by decide) s_nil)) (pw_and1 (t_cmp .gt U65 rfl (s_biB cb_len rfl X.z_len rfl (by decide) rfl rfl rfl (s_cons rfl (s_call 7 c_7 hr rfl X.g_7 X.F_7.kp X.B_7 rfl rfl rfl rfl (s_cons rfl (s_call 22 c_22 hr rfl X.g_22 X.F_22.kp X.B_22 rfl rfl rfl rfl (s_cons rfl (s_var (i := 0) rfl (vis_by rfl) rfl rfl) (s_cons rfl (s_var (i := 1) rfl (vis_by rfl) rfl rfl) s_nil))) s_nil)) s_nil)) (s_bin .add (s_var (i := 2) rfl (vis_by rfl) rfl rfl) (s_cst pe_int (fun _ _ => rfl))))))) (s_seq (s_app (s_var (i := 3) rfl (vis_by rfl) rfl rfl) rfl (s_var (i := 1) rfl (vis_by rfl) rfl rfl) rfl rfl rfl rfl)
  s_stNil) s_stNil)
  s_stNil) (fun _ => rfl) evI_none)
  (s_seq (s_ret (s_var (i := 3) rfl (vis_by rfl) rfl rfl))
  s_stNil)))
set_option maxHeartbeats 4000000 in
theorem ok_24 (X : Fx K mg fa fd t_MOST_PEOPLE) (c_23 : C Pg w K mg base fa fd wh n 23 P_23) (c_3 : C Pg w K mg base fa fd wh n 3 P_3) : C Pg w K mg base fa fd wh (n + 1) 24 P_24 := by
  refine def_ok X.F_24 sc_24 (d := ⟨1, 1, b24⟩) rfl rfl rfl (by decide) fun cdv A outer s H E hr => ?_
  have U := room_u hr
  have U65 : (A.deeper (envOfC "cut_people" (defScope st_24) s.heap.objs.size (fa 24) cdv)).units + 65 < cLine := by omega
  have U1 : (A.deeper (envOfC "cut_people" (defScope st_24) s.heap.objs.size (fa 24) cdv)).units + 1 < cLine := by omega
  have U70 := U
  exact (s_seq (s_exp rfl (s_call 3 c_3 hr rfl X.g_3 X.F_3.kp X.B_3 rfl rfl rfl rfl (s_cons rfl (s_var (i := 0) rfl (vis_by rfl) rfl rfl) s_nil)))
  (s_seq (s_ret (s_biT cb_tuple rfl X.z_tuple rfl (by decide) rfl rfl rfl (s_cons rfl (s_call 23 c_23 hr rfl X.g_23 X.F_23.kp X.B_23 rfl rfl rfl rfl (s_cons rfl (s_var (i := 0) rfl (vis_by rfl) rfl rfl) s_nil)) s_nil)))
  s_stNil))
set_option maxHeartbeats 4000000 in
theorem ok_25 (X : Fx K mg fa fd t_MOST_PEOPLE) (c_3 : C Pg w K mg base fa fd wh n 3 P_3) : C Pg w K mg base fa fd wh (n + 1) 25 P_25 := by
  refine def_ok X.F_25 sc_25 (d := ⟨1, 3, b25⟩) rfl rfl rfl (by decide) fun cdv A outer s H E hr => ?_
  have U := room_u hr
  have U65 : (A.deeper (envOfC "leaves" (defScope st_25) s.heap.objs.size (fa 25) cdv)).units + 65 < cLine := by omega
  have U1 : (A.deeper (envOfC "leaves" (defScope st_25) s.heap.objs.size (fa 25) cdv)).units + 1 < cLine := by omega
  have U70 := U
  exact (s_seq (s_exp rfl (s_call 3 c_3 hr rfl X.g_3 X.F_3.kp X.B_3 rfl rfl rfl rfl (s_cons rfl (s_var (i := 0) rfl (vis_by rfl) rfl rfl) s_nil)))
  (s_seq (s_set sc_25.nd (i := 1) rfl (loc_by rfl) (.inl rfl) rfl (s_lst (by decide) s_nil))
  (s_seq (s_for PassesOwn.never rfl (i_rng rfl X.z_range rfl (s_cons rfl (s_biB cb_len rfl X.z_len rfl (by decide) rfl rfl rfl (s_cons rfl (s_var (i := 0) rfl (vis_by rfl) rfl rfl) s_nil)) s_nil)) (g_nm sc_25.nd (i := 2) rfl (loc_by rfl) (by first | exact .inl rfl | exact .inr rfl)) (s_seq (s_ite (t_cmp .eq U65 rfl (s_biB cb_len rfl X.z_len rfl (by decide) rfl rfl rfl (s_cons rfl (s_ix U1 (fun _ _ => rfl) (s_var (i := 0) rfl (vis_by rfl) rfl rfl) (s_var (i := 2) rfl (vis_by rfl) rfl rfl)) s_nil)) (s_cst pe_int (fun _ _ => rfl))) (s_seq (s_app (s_var (i := 1) rfl (vis_by rfl) rfl rfl) rfl (s_var (i := 2) rfl (vis_by rfl) rfl rfl) rfl rfl rfl rfl)
  s_stNil) s_stNil)
  s_stNil) (fun _ => rfl) evI_none)
  (s_seq (s_ret (s_biT cb_tuple rfl X.z_tuple rfl (by decide) rfl rfl rfl (s_cons rfl (s_var (i := 1) rfl (vis_by rfl) rfl rfl) s_nil)))
  s_stNil))))
set_option maxHeartbeats 4000000 in
theorem ok_26 (X : Fx K mg fa fd t_MOST_PEOPLE) (c_7 : C Pg w K mg base fa fd wh n 7 P_7) (c_8 : C Pg w K mg base fa fd wh n 8 P_8) (c_3 : C Pg w K mg base fa fd wh n 3 P_3) : C Pg w K mg base fa fd wh (n + 1) 26 P_26 := by
  refine def_ok X.F_26 sc_26 (d := ⟨1, 3, b26⟩) rfl rfl rfl (by decide) fun cdv A outer s H E hr => ?_
  have U := room_u hr
  have U65 : (A.deeper (envOfC "open_groups" (defScope st_26) s.heap.objs.size (fa 26) cdv)).units + 65 < cLine := by omega
  have U1 : (A.deeper (envOfC "open_groups" (defScope st_26) s.heap.objs.size (fa 26) cdv)).units + 1 < cLine := by omega
  have U70 := U
  exact (s_seq (s_exp rfl (s_call 3 c_3 hr rfl X.g_3 X.F_3.kp X.B_3 rfl rfl rfl rfl (s_cons rfl (s_var (i := 0) rfl (vis_by rfl) rfl rfl) s_nil)))
  (s_seq (s_set sc_26.nd (i := 1) rfl (loc_by rfl) (.inl rfl) rfl (s_lst (by decide) s_nil))
  (s_seq (s_for PassesOwn.never rfl (i_seq (s_call 7 c_7 hr rfl X.g_7 X.F_7.kp X.B_7 rfl rfl rfl rfl (s_cons rfl (s_var (i := 0) rfl (vis_by rfl) rfl rfl) s_nil))) (g_nm sc_26.nd (i := 2) rfl (loc_by rfl) (by first | exact .inl rfl | exact .inr rfl)) (s_seq (s_ite (t_not (t_val (fun _ => rfl) (s_call 8 c_8 hr rfl X.g_8 X.F_8.kp X.B_8 rfl rfl rfl rfl (s_cons rfl (s_var (i := 0) rfl (vis_by rfl) rfl rfl) (s_cons rfl (s_var (i := 2) rfl (vis_by rfl) rfl rfl) s_nil))))) (s_seq (s_app (s_var (i := 1) rfl (vis_by rfl) rfl rfl) rfl (s_var (i := 2) rfl (vis_by rfl) rfl rfl) rfl rfl rfl rfl)
  s_stNil) s_stNil)
  s_stNil) (fun _ => rfl) evI_none)
  (s_seq (s_ret (s_biT cb_tuple rfl X.z_tuple rfl (by decide) rfl rfl rfl (s_cons rfl (s_var (i := 1) rfl (vis_by rfl) rfl rfl) s_nil)))
  s_stNil))))
set_option maxHeartbeats 4000000 in
theorem ok_27 (X : Fx K mg fa fd t_MOST_PEOPLE) (c_18 : C Pg w K mg base fa fd wh n 18 P_18) (c_3 : C Pg w K mg base fa fd wh n 3 P_3) : C Pg w K mg base fa fd wh (n + 1) 27 P_27 := by
  refine def_ok X.F_27 sc_27 (d := ⟨1, 5, b27⟩) rfl rfl rfl (by decide) fun cdv A outer s H E hr => ?_
  have U := room_u hr
  have U65 : (A.deeper (envOfC "can_be_locked" (defScope st_27) s.heap.objs.size (fa 27) cdv)).units + 65 < cLine := by omega
  have U1 : (A.deeper (envOfC "can_be_locked" (defScope st_27) s.heap.objs.size (fa 27) cdv)).units + 1 < cLine := by omega
  have U70 := U
  exact (s_seq (s_exp rfl (s_call 3 c_3 hr rfl X.g_3 X.F_3.kp X.B_3 rfl rfl rfl rfl (s_cons rfl (s_var (i := 0) rfl (vis_by rfl) rfl rfl) s_nil)))
  (s_seq (s_set sc_27.nd (i := 1) rfl (loc_by rfl) (.inl rfl) rfl (s_call 18 c_18 hr rfl X.g_18 X.F_18.kp X.B_18 rfl rfl rfl rfl (s_cons rfl (s_var (i := 0) rfl (vis_by rfl) rfl rfl) s_nil)))
  (s_seq (s_set sc_27.nd (i := 2) rfl (loc_by rfl) (.inl rfl) rfl (s_lst (by decide) s_nil))
  (s_seq (s_for PassesOwn.never rfl (i_rng rfl X.z_range rfl (s_cons rfl (s_biB cb_len rfl X.z_len rfl (by decide) rfl rfl rfl (s_cons rfl (s_var (i := 0) rfl (vis_by rfl) rfl rfl) s_nil)) s_nil)) (g_nm sc_27.nd (i := 3) rfl (loc_by rfl) (by first | exact .inl rfl | exact .inr rfl)) (s_seq (s_ite (t_val (fun _ => rfl) (s_biB (cb_any rfl) rfl X.z_any rfl (by decide) rfl rfl rfl (s_cons rfl (s_lc (own := [("called", 4)]) rfl sc_27.nd (blkOk_by (by rfl)) (by intro i hi; simp [tgHas, tgsHas] at hi ⊢; omega) (fun _ => rfl) (i_seq (s_var (i := 1) rfl (vis_by rfl) rfl rfl)) (fun _ _ _ _ _ => (g_nm sc_27.nd (i := 4) rfl (loc_by rfl) (by first | exact .inl rfl | exact .inr rfl))) (fun _ _ _ _ _ => c_none) (fun _ _ _ _ _ => (s_cmp .notin U65 rfl (s_var (i := 3) rfl (vis_by rfl) rfl rfl) (s_var (i := 4) rfl (vis_by rfl) rfl rfl)))) s_nil))) (s_seq (s_app (s_var (i := 2) rfl (vis_by rfl) rfl rfl) rfl (s_var (i := 3) rfl (vis_by rfl) rfl rfl) rfl rfl rfl rfl)
  s_stNil) s_stNil)
  s_stNil) (fun _ => rfl) evI_none)
  (s_seq (s_ret (s_biT cb_tuple rfl X.z_tuple rfl (by decide) rfl rfl rfl (s_cons rfl (s_var (i := 2) rfl (vis_by rfl) rfl rfl) s_nil)))
  s_stNil)))))
set_option maxHeartbeats 4000000 in
theorem ok_28 (X : Fx K mg fa fd t_MOST_PEOPLE) (c_3 : C Pg w K mg base fa fd wh n 3 P_3) : C Pg w K mg base fa fd wh (n + 1) 28 P_28 := by
  refine def_ok X.F_28 sc_28 (d := ⟨1, 5, b28⟩) rfl rfl rfl (by decide) fun cdv A outer s H E hr => ?_
  have U := room_u hr
  have U65 : (A.deeper (envOfC "open_threes" (defScope st_28) s.heap.objs.size (fa 28) cdv)).units + 65 < cLine := by omega
  have U1 : (A.deeper (envOfC "open_threes" (defScope st_28) s.heap.objs.size (fa 28) cdv)).units + 1 < cLine := by omega
  have U70 := U
  exact (s_seq (s_exp rfl (s_call 3 c_3 hr rfl X.g_3 X.F_3.kp X.B_3 rfl rfl rfl rfl (s_cons rfl (s_var (i := 0) rfl (vis_by rfl) rfl rfl) s_nil)))
  (s_seq (s_set sc_28.nd (i := 1) rfl (loc_by rfl) (.inl rfl) rfl (s_cst pe_int (fun _ _ => rfl)))
  (s_seq (s_for PassesOwn.never rfl (i_seq (s_var (i := 0) rfl (vis_by rfl) rfl rfl)) (g_nm sc_28.nd (i := 2) rfl (loc_by rfl) (by first | exact .inl rfl | exact .inr rfl)) (s_seq (s_aug .add sc_28.nd (i := 1) rfl (loc_by rfl) (.inl rfl) ip_add' (s_biB cb_len rfl X.z_len rfl (by decide) rfl rfl rfl (s_cons rfl (s_lc2 (own := [("one", 3), ("other", 4)]) (own1 := [4]) rfl sc_28.nd (blkOk_by (by rfl)) (by intro i hi; simp [tgHas, tgsHas] at hi ⊢; omega) (by intro i hi; simp [tgHas, tgsHas] at hi ⊢; omega) (by decide) (fun _ => rfl) (fun _ _ => rfl) (i_seq (s_var (i := 2) rfl (vis_by rfl) rfl rfl)) (fun _ _ _ _ _ => (g_nm sc_28.nd (i := 3) rfl (loc_by rfl) (by first | exact .inl rfl | exact .inr rfl))) (fun _ _ _ _ _ => (i_seq (s_var (i := 2) rfl (vis_by rfl) rfl rfl))) (fun _ _ _ _ _ => (g_nm sc_28.nd (i := 4) rfl (loc_by rfl) (by first | exact .inl rfl | exact .inr rfl))) (fun _ _ _ _ _ => (c_some (PW.pt (w_and (t_cmp .lt U65 rfl (s_var (i := 3) rfl (vis_by rfl) rfl rfl) (s_var (i := 4) rfl (vis_by rfl) rfl rfl)) (pw_and1 (t_cmp .notin U65 rfl (s_var (i := 4) rfl (vis_by rfl) rfl rfl) (s_ix U1 (fun _ _ => rfl) (s_var (i := 0) rfl (vis_by rfl) rfl rfl) (s_var (i := 3) rfl (vis_by rfl) rfl rfl)))))))) (fun _ _ _ _ _ => (s_cst pe_int (fun _ _ => rfl)))) s_nil)))
  s_stNil) (fun _ => rfl) evI_none)
  (s_seq (s_ret (s_var (i := 1) rfl (vis_by rfl) rfl rfl))
  s_stNil))))
set_option maxHeartbeats 4000000 in
theorem ok_29 (X : Fx K mg fa fd t_MOST_PEOPLE) : C Pg w K mg base fa fd wh (n + 1) 29 P_29 := by
  refine def_ok X.F_29 sc_29 (d := ⟨2, 4, b29⟩) rfl rfl rfl (by decide) fun cdv A outer s H E hr => ?_
  have U := room_u hr
  have U65 : (A.deeper (envOfC "_law_taken" (defScope st_29) s.heap.objs.size (fa 29) cdv)).units + 65 < cLine := by omega
  have U1 : (A.deeper (envOfC "_law_taken" (defScope st_29) s.heap.objs.size (fa 29) cdv)).units + 1 < cLine := by omega
  have U70 := U
  exact (s_seq (s_ite (t_cmp .gt U65 rfl (s_ix U1 (fun _ _ => rfl) (s_var (i := 0) rfl (vis_by rfl) rfl rfl) (s_cst pe_int (fun _ _ => rfl))) (s_cst pe_int (fun _ _ => rfl))) (s_seq (s_set sc_29.nd (i := 3) rfl (loc_by rfl) (.inl rfl) rfl (s_bin .mod (s_biT cb_int rfl X.z_int rfl (by decide) rfl rfl rfl (s_cons rfl (s_ix U1 (fun _ _ => rfl) (s_var (i := 0) rfl (vis_by rfl) rfl rfl) (s_cst pe_int (fun _ _ => rfl))) s_nil)) (s_var (i := 1) rfl (vis_by rfl) rfl rfl)))
  (s_seq (s_six U1 (s_var (i := 0) rfl (vis_by rfl) rfl rfl) (s_cst pe_int (fun _ _ => rfl)) (s_bin .fdiv (s_ix U1 (fun _ _ => rfl) (s_var (i := 0) rfl (vis_by rfl) rfl rfl) (s_cst pe_int (fun _ _ => rfl))) (s_var (i := 1) rfl (vis_by rfl) rfl rfl)) (fun _ => rfl) rfl rfl rfl)
  (s_seq (s_ret (s_var (i := 3) rfl (vis_by rfl) rfl rfl))
  s_stNil))) s_stNil)
  (s_seq (s_six U1 (s_var (i := 0) rfl (vis_by rfl) rfl rfl) (s_cst pe_int (fun _ _ => rfl)) (s_bin .add (s_ix U1 (fun _ _ => rfl) (s_var (i := 0) rfl (vis_by rfl) rfl rfl) (s_cst pe_int (fun _ _ => rfl))) (s_cst pe_int (fun _ _ => rfl))) (fun _ => rfl) rfl rfl rfl)
  (s_seq (s_ite (t_cmp .gt U65 rfl (s_ix U1 (fun _ _ => rfl) (s_var (i := 0) rfl (vis_by rfl) rfl rfl) (s_cst pe_int (fun _ _ => rfl))) (s_biB cb_len rfl X.z_len rfl (by decide) rfl rfl rfl (s_cons rfl (s_ix U1 (fun _ _ => rfl) (s_var (i := 0) rfl (vis_by rfl) rfl rfl) (s_cst pe_int (fun _ _ => rfl))) s_nil))) (s_seq (s_six U1 (s_var (i := 0) rfl (vis_by rfl) rfl rfl) (s_cst pe_int (fun _ _ => rfl)) (s_bin .mod (s_biT cb_int rfl X.z_int rfl (by decide) rfl rfl rfl (s_cons rfl (s_bin .add (s_bin .mul (s_ix U1 (fun _ _ => rfl) (s_var (i := 0) rfl (vis_by rfl) rfl rfl) (s_cst pe_int (fun _ _ => rfl))) (s_cst pe_int (fun _ _ => rfl))) (s_cst pe_int (fun _ _ => rfl))) s_nil)) (s_cst pe_int (fun _ _ => rfl))) (fun _ => rfl) rfl rfl rfl)
  (s_seq (s_ret (s_bin .mod (s_biT cb_int rfl X.z_int rfl (by decide) rfl rfl rfl (s_cons rfl (s_bin .fdiv (s_ix U1 (fun _ _ => rfl) (s_var (i := 0) rfl (vis_by rfl) rfl rfl) (s_cst pe_int (fun _ _ => rfl))) (s_cst pe_int (fun _ _ => rfl))) s_nil)) (s_var (i := 1) rfl (vis_by rfl) rfl rfl)))
  s_stNil)) s_stNil)
  (s_seq (s_set sc_29.nd (i := 2) rfl (loc_by rfl) (.inl rfl) rfl (s_ix U1 (fun _ _ => rfl) (s_ix U1 (fun _ _ => rfl) (s_var (i := 0) rfl (vis_by rfl) rfl rfl) (s_cst pe_int (fun _ _ => rfl))) (s_bin .sub (s_ix U1 (fun _ _ => rfl) (s_var (i := 0) rfl (vis_by rfl) rfl rfl) (s_cst pe_int (fun _ _ => rfl))) (s_cst pe_int (fun _ _ => rfl)))))
  (s_seq (s_six U1 (s_var (i := 0) rfl (vis_by rfl) rfl rfl) (s_cst pe_int (fun _ _ => rfl)) (s_bin .mod (s_biT cb_int rfl X.z_int rfl (by decide) rfl rfl rfl (s_cons rfl (s_bin .add (s_bin .add (s_bin .mul (s_ix U1 (fun _ _ => rfl) (s_var (i := 0) rfl (vis_by rfl) rfl rfl) (s_cst pe_int (fun _ _ => rfl))) (s_cst pe_int (fun _ _ => rfl))) (s_var (i := 2) rfl (vis_by rfl) rfl rfl)) (s_cst pe_int (fun _ _ => rfl))) s_nil)) (s_cst pe_int (fun _ _ => rfl))) (fun _ => rfl) rfl rfl rfl)
  (s_seq (s_ite (t_cmp .ge U65 rfl (s_var (i := 2) rfl (vis_by rfl) rfl rfl) (s_bin .pow (s_cst pe_int (fun _ _ => rfl)) (s_cst pe_int (fun _ _ => rfl)))) (s_seq (s_six U1 (s_var (i := 0) rfl (vis_by rfl) rfl rfl) (s_cst pe_int (fun _ _ => rfl)) (s_bin .fdiv (s_var (i := 2) rfl (vis_by rfl) rfl rfl) (s_var (i := 1) rfl (vis_by rfl) rfl rfl)) (fun _ => rfl) rfl rfl rfl)
  s_stNil) s_stNil)
  (s_seq (s_ret (s_bin .mod (s_biT cb_int rfl X.z_int rfl (by decide) rfl rfl rfl (s_cons rfl (s_var (i := 2) rfl (vis_by rfl) rfl rfl) s_nil)) (s_var (i := 1) rfl (vis_by rfl) rfl rfl)))
  s_stNil)))))))
set_option maxHeartbeats 4000000 in
theorem ok_30 (X : Fx K mg fa fd t_MOST_PEOPLE) : C Pg w K mg base fa fd wh (n + 1) 30 P_30 := by
  refine def_ok X.F_30 sc_30 (d := ⟨2, 7, b30⟩) rfl rfl rfl (by decide) fun cdv A outer s H E hr => ?_
  have U := room_u hr
  have U65 : (A.deeper (envOfC "_law_by" (defScope st_30) s.heap.objs.size (fa 30) cdv)).units + 65 < cLine := by omega
  have U1 : (A.deeper (envOfC "_law_by" (defScope st_30) s.heap.objs.size (fa 30) cdv)).units + 1 < cLine := by omega
  have U70 := U
  exact (s_seq (s_setLc (i := 2) rfl sc_30.nd rfl rfl (sw_true rfl rfl rfl rfl) (own := [("_law_person", 5)]) (blkOk_by (by rfl)) (by intro i hi; simp [tgHas, tgsHas] at hi ⊢; omega) (fun _ => rfl) (i_rng rfl X.z_range rfl (s_cons rfl (s_var (i := 0) rfl (vis_by rfl) rfl rfl) s_nil)) (fun _ _ _ _ _ => (g_nm sc_30.nd (i := 5) rfl (loc_by rfl) (by first | exact .inl rfl | exact .inr rfl))) (fun _ _ _ _ _ => c_none) (fun _ _ _ _ _ => s_dct0))
  (s_seq (s_for PassesOwn.never rfl (i_seq (s_var (i := 1) rfl (vis_by rfl) rfl rfl)) (g_tup rfl (g_cons (g_nm sc_30.nd (i := 3) rfl (loc_by rfl) (by first | exact .inl rfl | exact .inr rfl)) (g_cons (g_nm sc_30.nd (i := 4) rfl (loc_by rfl) (by first | exact .inl rfl | exact .inr rfl)) g_nil rfl) rfl) rfl rfl) (s_seq (s_six2 U1 (s_var (i := 2) rfl (vis_by rfl) rfl rfl) (s_varS (i := 3) rfl (vis_by rfl) rfl rfl) (s_varS (i := 4) rfl (vis_by rfl) rfl rfl) (fun _ _ => rfl) (fun _ _ h => h) (s_cst pe_bl (fun _ _ => rfl)) (fun _ _ _ h => ev_var_own h) (fun _ => rfl) rfl rfl rfl)
  (s_seq (s_six2 U1 (s_var (i := 2) rfl (vis_by rfl) rfl rfl) (s_varS (i := 4) rfl (vis_by rfl) rfl rfl) (s_varS (i := 3) rfl (vis_by rfl) rfl rfl) (fun _ _ => rfl) (fun _ _ h => h) (s_cst pe_bl (fun _ _ => rfl)) (fun _ _ _ h => ev_var_own h) (fun _ => rfl) rfl rfl rfl)
  s_stNil)) (fun _ => rfl) evI_none)
  (s_seq (s_ret (s_biT cb_tuple rfl X.z_tuple rfl (by decide) rfl rfl rfl (s_cons rfl (s_lc (own := [("_law_own", 6)]) rfl sc_30.nd (blkOk_by (by rfl)) (by intro i hi; simp [tgHas, tgsHas] at hi ⊢; omega) (fun _ => rfl) (i_seq (s_var (i := 2) rfl (vis_by rfl) rfl rfl)) (fun _ _ _ _ _ => (g_nm sc_30.nd (i := 6) rfl (loc_by rfl) (by first | exact .inl rfl | exact .inr rfl))) (fun _ _ _ _ _ => c_none) (fun _ _ _ _ _ => (s_biT cb_tuple rfl X.z_tuple rfl (by decide) rfl rfl rfl (s_cons rfl (s_biB (cb_sorted U70) rfl X.z_sorted rfl (by decide) rfl rfl rfl (s_cons rfl (s_biT (cb_list rfl) rfl X.z_list rfl (by decide) rfl rfl rfl (s_cons rfl (s_var (i := 6) rfl (vis_by rfl) rfl rfl) s_nil)) s_nil)) s_nil)))) s_nil)))
  s_stNil)))
set_option maxHeartbeats 4000000 in
theorem ok_31 (X : Fx K mg fa fd t_MOST_PEOPLE) (c_30 : C Pg w K mg base fa fd wh n 30 P_30) (c_29 : C Pg w K mg base fa fd wh n 29 P_29) : C Pg w K mg base fa fd wh (n + 1) 31 P_31 := by
  refine def_ok X.F_31 sc_31 (d := ⟨2, 7, b31⟩) rfl rfl rfl (by decide) fun cdv A outer s H E hr => ?_
  have U := room_u hr
  have U65 : (A.deeper (envOfC "_law_web" (defScope st_31) s.heap.objs.size (fa 31) cdv)).units + 65 < cLine := by omega
  have U1 : (A.deeper (envOfC "_law_web" (defScope st_31) s.heap.objs.size (fa 31) cdv)).units + 1 < cLine := by omega
  have U70 := U
  exact (s_seq (s_par (i := 4) (j := 5) rfl sc_31.nd rfl rfl (by decide) rfl rfl rfl rfl (s_cons rfl (s_bin .add (s_cst pe_int (fun _ _ => rfl)) (s_call 29 c_29 hr rfl X.g_29 X.F_29.kp X.B_29 rfl rfl rfl rfl (s_cons rfl (s_var (i := 0) rfl (vis_by rfl) rfl rfl) (s_cons rfl (s_var (i := 1) rfl (vis_by rfl) rfl rfl) s_nil)))) (s_cons rfl (s_lst (by decide) s_nil) s_nil)))
  (s_seq (s_set sc_31.nd (i := 2) rfl (loc_by rfl) (.inl rfl) rfl (s_bin .add (s_cst pe_int (fun _ _ => rfl)) (s_call 29 c_29 hr rfl X.g_29 X.F_29.kp X.B_29 rfl rfl rfl rfl (s_cons rfl (s_var (i := 0) rfl (vis_by rfl) rfl rfl) (s_cons rfl (s_cst pe_int (fun _ _ => rfl)) s_nil)))))
  (s_seq (s_for PassesOwn.never rfl (i_rng rfl X.z_range rfl (s_cons rfl (s_var (i := 4) rfl (vis_by rfl) rfl rfl) s_nil)) (g_nm sc_31.nd (i := 3) rfl (loc_by rfl) (by first | exact .inl rfl | exact .inr rfl)) (s_seq (s_set sc_31.nd (i := 5) rfl (loc_by rfl) (.inl rfl) rfl (s_bin .add (s_var (i := 5) rfl (vis_by rfl) rfl rfl) (s_lc (own := [("_law_other", 6)]) rfl sc_31.nd (blkOk_by (by rfl)) (by intro i hi; simp [tgHas, tgsHas] at hi ⊢; omega) (fun _ => rfl) (i_rng2 rfl X.z_range rfl rfl (s_cons rfl (s_bin .add (s_var (i := 3) rfl (vis_by rfl) rfl rfl) (s_cst pe_int (fun _ _ => rfl))) (s_cons rfl (s_var (i := 4) rfl (vis_by rfl) rfl rfl) s_nil))) (fun _ _ _ _ _ => (g_nm sc_31.nd (i := 6) rfl (loc_by rfl) (by first | exact .inl rfl | exact .inr rfl))) (fun _ _ _ _ _ => (c_some (t_cmp .eq U65 rfl (s_call 29 c_29 hr rfl X.g_29 X.F_29.kp X.B_29 rfl rfl rfl rfl (s_cons rfl (s_var (i := 0) rfl (vis_by rfl) rfl rfl) (s_cons rfl (s_var (i := 2) rfl (vis_by rfl) rfl rfl) s_nil))) (s_cst pe_int (fun _ _ => rfl))))) (fun _ _ _ _ _ => (s_tup (by decide) (s_cons rfl (s_var (i := 3) rfl (vis_by rfl) rfl rfl) (s_cons rfl (s_var (i := 6) rfl (vis_by rfl) rfl rfl) s_nil)))))))
  s_stNil) (fun _ => rfl) evI_none)
  (s_seq (s_ret (s_call 30 c_30 hr rfl X.g_30 X.F_30.kp X.B_30 rfl rfl rfl rfl (s_cons rfl (s_var (i := 4) rfl (vis_by rfl) rfl rfl) (s_cons rfl (s_var (i := 5) rfl (vis_by rfl) rfl rfl) s_nil))))
  s_stNil))))
set_option maxHeartbeats 4000000 in
theorem ok_32 (X : Fx K mg fa fd t_MOST_PEOPLE) (c_24 : C Pg w K mg base fa fd wh n 24 P_24) (c_19 : C Pg w K mg base fa fd wh n 19 P_19) (c_11 : C Pg w K mg base fa fd wh n 11 P_11) (c_28 : C Pg w K mg base fa fd wh n 28 P_28) (c_26 : C Pg w K mg base fa fd wh n 26 P_26) (c_20 : C Pg w K mg base fa fd wh n 20 P_20) (c_13 : C Pg w K mg base fa fd wh n 13 P_13) (c_17 : C Pg w K mg base fa fd wh n 17 P_17) (c_25 : C Pg w K mg base fa fd wh n 25 P_25) (c_27 : C Pg w K mg base fa fd wh n 27 P_27) (c_21 : C Pg w K mg base fa fd wh n 21 P_21) (c_31 : C Pg w K mg base fa fd wh n 31 P_31) : C Pg w K mg base fa fd wh (n + 1) 32 P_32 := by
  refine def_ok X.F_32 sc_32 (d := ⟨1, 5, b32⟩) rfl rfl rfl (by decide) fun cdv A outer s H E hr => ?_
  have U := room_u hr
  have U65 : (A.deeper (envOfC "law" (defScope st_32) s.heap.objs.size (fa 32) cdv)).units + 65 < cLine := by omega
  have U1 : (A.deeper (envOfC "law" (defScope st_32) s.heap.objs.size (fa 32) cdv)).units + 1 < cLine := by omega
  have U70 := U
  exact (s_seq (s_set sc_32.nd (i := 1) rfl (loc_by rfl) (.inl rfl) rfl (s_lst (by decide) (s_cons rfl (s_var (i := 0) rfl (vis_by rfl) rfl rfl) (s_cons rfl (s_cst pe_int (fun _ _ => rfl)) (s_cons rfl (s_cst pe_int (fun _ _ => rfl)) (s_cons rfl (s_cst pe_int (fun _ _ => rfl)) s_nil))))))
  (s_seq (s_set sc_32.nd (i := 2) rfl (loc_by rfl) (.inl rfl) rfl (s_call 31 c_31 hr rfl X.g_31 X.F_31.kp X.B_31 rfl rfl rfl rfl (s_cons rfl (s_var (i := 1) rfl (vis_by rfl) rfl rfl) (s_cons rfl (s_cst pe_int (fun _ _ => rfl)) s_nil))))
  (s_seq (s_ite (t_cmp .ne U65 rfl (s_call 21 c_21 hr rfl X.g_21 X.F_21.kp X.B_21 rfl rfl rfl rfl (s_cons rfl (s_var (i := 2) rfl (vis_by rfl) rfl rfl) s_nil)) (s_call 24 c_24 hr rfl X.g_24 X.F_24.kp X.B_24 rfl rfl rfl rfl (s_cons rfl (s_var (i := 2) rfl (vis_by rfl) rfl rfl) s_nil))) (s_seq (s_ret (s_cst pe_bl (fun _ _ => rfl)))
  s_stNil) s_stNil)
  (s_seq (s_ite (t_cmp .ne U65 rfl (s_call 27 c_27 hr rfl X.g_27 X.F_27.kp X.B_27 rfl rfl rfl rfl (s_cons rfl (s_var (i := 2) rfl (vis_by rfl) rfl rfl) s_nil)) (s_biT cb_tuple rfl X.z_tuple rfl (by decide) rfl rfl rfl (s_cons rfl (s_lc (own := [("_law_person", 4)]) rfl sc_32.nd (blkOk_by (by rfl)) (by intro i hi; simp [tgHas, tgsHas] at hi ⊢; omega) (fun _ => rfl) (i_rng rfl X.z_range rfl (s_cons rfl (s_biB cb_len rfl X.z_len rfl (by decide) rfl rfl rfl (s_cons rfl (s_var (i := 2) rfl (vis_by rfl) rfl rfl) s_nil)) s_nil)) (fun _ _ _ _ _ => (g_nm sc_32.nd (i := 4) rfl (loc_by rfl) (by first | exact .inl rfl | exact .inr rfl))) (fun _ _ _ _ _ => (c_some (t_cmp .notin U65 rfl (s_var (i := 4) rfl (vis_by rfl) rfl rfl) (s_call 24 c_24 hr rfl X.g_24 X.F_24.kp X.B_24 rfl rfl rfl rfl (s_cons rfl (s_var (i := 2) rfl (vis_by rfl) rfl rfl) s_nil))))) (fun _ _ _ _ _ => (s_var (i := 4) rfl (vis_by rfl) rfl rfl))) s_nil))) (s_seq (s_ret (s_cst pe_bl (fun _ _ => rfl)))
  s_stNil) s_stNil)
  (s_seq (s_ite (t_cmp .ne U65 rfl (s_call 17 c_17 hr rfl X.g_17 X.F_17.kp X.B_17 rfl rfl rfl rfl (s_cons rfl (s_var (i := 2) rfl (vis_by rfl) rfl rfl) s_nil)) (s_call 13 c_13 hr rfl X.g_13 X.F_13.kp X.B_13 rfl rfl rfl rfl (s_cons rfl (s_var (i := 2) rfl (vis_by rfl) rfl rfl) s_nil))) (s_seq (s_ret (s_cst pe_bl (fun _ _ => rfl)))
  s_stNil) s_stNil)
  (s_seq (s_ite (t_cmp .ne U65 rfl (s_lc (own := [("_law_person", 4)]) rfl sc_32.nd (blkOk_by (by rfl)) (by intro i hi; simp [tgHas, tgsHas] at hi ⊢; omega) (fun _ => rfl) (i_seq (s_call 25 c_25 hr rfl X.g_25 X.F_25.kp X.B_25 rfl rfl rfl rfl (s_cons rfl (s_var (i := 2) rfl (vis_by rfl) rfl rfl) s_nil))) (fun _ _ _ _ _ => (g_nm sc_32.nd (i := 4) rfl (loc_by rfl) (by first | exact .inl rfl | exact .inr rfl))) (fun _ _ _ _ _ => (c_some (t_cmp .notin U65 rfl (s_var (i := 4) rfl (vis_by rfl) rfl rfl) (s_call 17 c_17 hr rfl X.g_17 X.F_17.kp X.B_17 rfl rfl rfl rfl (s_cons rfl (s_var (i := 2) rfl (vis_by rfl) rfl rfl) s_nil))))) (fun _ _ _ _ _ => (s_var (i := 4) rfl (vis_by rfl) rfl rfl))) (s_lst (by decide) s_nil)) (s_seq (s_ret (s_cst pe_bl (fun _ _ => rfl)))
  s_stNil) s_stNil)
  (s_seq (s_for PassesOwn.never rfl (i_seq (s_call 20 c_20 hr rfl X.g_20 X.F_20.kp X.B_20 rfl rfl rfl rfl (s_cons rfl (s_var (i := 2) rfl (vis_by rfl) rfl rfl) s_nil))) (g_nm sc_32.nd (i := 3) rfl (loc_by rfl) (by first | exact .inl rfl | exact .inr rfl)) (s_seq (s_ite (t_cmp .ne U65 rfl (s_lc (own := [("_law_person", 4)]) rfl sc_32.nd (blkOk_by (by rfl)) (by intro i hi; simp [tgHas, tgsHas] at hi ⊢; omega) (fun _ => rfl) (i_seq (s_call 24 c_24 hr rfl X.g_24 X.F_24.kp X.B_24 rfl rfl rfl rfl (s_cons rfl (s_var (i := 2) rfl (vis_by rfl) rfl rfl) s_nil))) (fun _ _ _ _ _ => (g_nm sc_32.nd (i := 4) rfl (loc_by rfl) (by first | exact .inl rfl | exact .inr rfl))) (fun _ _ _ _ _ => (c_some (t_cmp .notin U65 rfl (s_var (i := 4) rfl (vis_by rfl) rfl rfl) (s_var (i := 3) rfl (vis_by rfl) rfl rfl)))) (fun _ _ _ _ _ => (s_var (i := 4) rfl (vis_by rfl) rfl rfl))) (s_lst (by decide) s_nil)) (s_seq (s_ret (s_cst pe_bl (fun _ _ => rfl)))
  s_stNil) s_stNil)
  (s_seq (s_ite (t_cmp .ne U65 rfl (s_lc (own := [("_law_person", 4)]) rfl sc_32.nd (blkOk_by (by rfl)) (by intro i hi; simp [tgHas, tgsHas] at hi ⊢; omega) (fun _ => rfl) (i_seq (s_var (i := 3) rfl (vis_by rfl) rfl rfl)) (fun _ _ _ _ _ => (g_nm sc_32.nd (i := 4) rfl (loc_by rfl) (by first | exact .inl rfl | exact .inr rfl))) (fun _ _ _ _ _ => (c_some (t_cmp .isin U65 rfl (s_var (i := 4) rfl (vis_by rfl) rfl rfl) (s_call 13 c_13 hr rfl X.g_13 X.F_13.kp X.B_13 rfl rfl rfl rfl (s_cons rfl (s_var (i := 2) rfl (vis_by rfl) rfl rfl) s_nil))))) (fun _ _ _ _ _ => (s_var (i := 4) rfl (vis_by rfl) rfl rfl))) (s_lst (by decide) s_nil)) (s_seq (s_ret (s_cst pe_bl (fun _ _ => rfl)))
  s_stNil) s_stNil)
  s_stNil)) (fun _ => rfl) evI_none)
  (s_seq (s_ite (t_cmp .ne U65 rfl (s_lc (own := [("_law_person", 4)]) rfl sc_32.nd (blkOk_by (by rfl)) (by intro i hi; simp [tgHas, tgsHas] at hi ⊢; omega) (fun _ => rfl) (i_seq (s_call 24 c_24 hr rfl X.g_24 X.F_24.kp X.B_24 rfl rfl rfl rfl (s_cons rfl (s_var (i := 2) rfl (vis_by rfl) rfl rfl) s_nil))) (fun _ _ _ _ _ => (g_nm sc_32.nd (i := 4) rfl (loc_by rfl) (by first | exact .inl rfl | exact .inr rfl))) (fun _ _ _ _ _ => (c_some (t_cmp .notin U65 rfl (s_var (i := 4) rfl (vis_by rfl) rfl rfl) (s_call 11 c_11 hr rfl X.g_11 X.F_11.kp X.B_11 rfl rfl rfl rfl (s_cons rfl (s_var (i := 2) rfl (vis_by rfl) rfl rfl) s_nil))))) (fun _ _ _ _ _ => (s_var (i := 4) rfl (vis_by rfl) rfl rfl))) (s_lst (by decide) s_nil)) (s_seq (s_ret (s_cst pe_bl (fun _ _ => rfl)))
  s_stNil) s_stNil)
  (s_seq (s_ite (t_cmp .ne U65 rfl (s_cmp .eq U65 rfl (s_call 26 c_26 hr rfl X.g_26 X.F_26.kp X.B_26 rfl rfl rfl rfl (s_cons rfl (s_var (i := 2) rfl (vis_by rfl) rfl rfl) s_nil)) (s_tup (by decide) s_nil)) (s_cmp .eq U65 rfl (s_call 11 c_11 hr rfl X.g_11 X.F_11.kp X.B_11 rfl rfl rfl rfl (s_cons rfl (s_var (i := 2) rfl (vis_by rfl) rfl rfl) s_nil)) (s_tup (by decide) s_nil))) (s_seq (s_ret (s_cst pe_bl (fun _ _ => rfl)))
  s_stNil) s_stNil)
  (s_seq (s_ite (t_cmp .ne U65 rfl (s_cmp .eq U65 rfl (s_call 28 c_28 hr rfl X.g_28 X.F_28.kp X.B_28 rfl rfl rfl rfl (s_cons rfl (s_var (i := 2) rfl (vis_by rfl) rfl rfl) s_nil)) (s_cst pe_int (fun _ _ => rfl))) (s_cmp .eq U65 rfl (s_call 11 c_11 hr rfl X.g_11 X.F_11.kp X.B_11 rfl rfl rfl rfl (s_cons rfl (s_var (i := 2) rfl (vis_by rfl) rfl rfl) s_nil)) (s_tup (by decide) s_nil))) (s_seq (s_ret (s_cst pe_bl (fun _ _ => rfl)))
  s_stNil) s_stNil)
  (s_seq (s_ite (t_not (t_cmp .isin U65 rfl (s_call 11 c_11 hr rfl X.g_11 X.F_11.kp X.B_11 rfl rfl rfl rfl (s_cons rfl (s_var (i := 2) rfl (vis_by rfl) rfl rfl) s_nil)) (s_call 19 c_19 hr rfl X.g_19 X.F_19.kp X.B_19 rfl rfl rfl rfl (s_cons rfl (s_var (i := 2) rfl (vis_by rfl) rfl rfl) s_nil)))) (s_seq (s_ret (s_cst pe_bl (fun _ _ => rfl)))
  s_stNil) s_stNil)
  (s_seq (s_ret (s_cmp .eq U65 rfl (s_lc (own := [("_law_people", 3)]) rfl sc_32.nd (blkOk_by (by rfl)) (by intro i hi; simp [tgHas, tgsHas] at hi ⊢; omega) (fun _ => rfl) (i_seq (s_call 19 c_19 hr rfl X.g_19 X.F_19.kp X.B_19 rfl rfl rfl rfl (s_cons rfl (s_var (i := 2) rfl (vis_by rfl) rfl rfl) s_nil))) (fun _ _ _ _ _ => (g_nm sc_32.nd (i := 3) rfl (loc_by rfl) (by first | exact .inl rfl | exact .inr rfl))) (fun _ _ _ _ _ => (c_some (t_cmp .ne U65 rfl (s_lc (own := [("_law_person", 4)]) rfl sc_32.nd (blkOk_by (by rfl)) (by intro i hi; simp [tgHas, tgsHas] at hi ⊢; omega) (fun _ => rfl) (i_seq (s_call 24 c_24 hr rfl X.g_24 X.F_24.kp X.B_24 rfl rfl rfl rfl (s_cons rfl (s_var (i := 2) rfl (vis_by rfl) rfl rfl) s_nil))) (fun _ _ _ _ _ => (g_nm sc_32.nd (i := 4) rfl (loc_by rfl) (by first | exact .inl rfl | exact .inr rfl))) (fun _ _ _ _ _ => (c_some (t_cmp .notin U65 rfl (s_var (i := 4) rfl (vis_by rfl) rfl rfl) (s_var (i := 3) rfl (vis_by rfl) rfl rfl)))) (fun _ _ _ _ _ => (s_var (i := 4) rfl (vis_by rfl) rfl rfl))) (s_lst (by decide) s_nil)))) (fun _ _ _ _ _ => (s_var (i := 3) rfl (vis_by rfl) rfl rfl))) (s_lst (by decide) s_nil)))
  s_stNil))))))))))))
end
end WK36
namespace WK36
open PySem L2 PyProof.Rows Ev
section
variable {Pg : Program} {w : World} {K : PySem.W.Frag} {mg : Str → Option Value} {base : Heap} {fa : Nat → Addr} {fd : Nat → FuncData} {t_MOST_PEOPLE : Tok}
structure All (Pg : Program) (w : World) (K : PySem.W.Frag) (mg : Str → Option Value) (base : Heap) (fa : Nat → Addr) (fd : Nat → FuncData) (wh : WhT) (n : Nat) : Prop where
  c_0 : C Pg w K mg base fa fd wh n 0 P_0
  c_1 : C Pg w K mg base fa fd wh n 1 P_1
  c_2 : C Pg w K mg base fa fd wh n 2 P_2
  c_3 : C Pg w K mg base fa fd wh n 3 P_3
  c_4 : C Pg w K mg base fa fd wh n 4 P_4
  c_5 : C Pg w K mg base fa fd wh n 5 P_5
  c_6 : C Pg w K mg base fa fd wh n 6 P_6
  c_7 : C Pg w K mg base fa fd wh n 7 P_7
  c_8 : C Pg w K mg base fa fd wh n 8 P_8
  c_9 : C Pg w K mg base fa fd wh n 9 P_9
  c_10 : C Pg w K mg base fa fd wh n 10 P_10
  c_11 : C Pg w K mg base fa fd wh n 11 P_11
  c_12 : C Pg w K mg base fa fd wh n 12 P_12
  c_13 : C Pg w K mg base fa fd wh n 13 P_13
  c_14 : C Pg w K mg base fa fd wh n 14 P_14
  c_15 : C Pg w K mg base fa fd wh n 15 P_15
  c_16 : C Pg w K mg base fa fd wh n 16 P_16
  c_17 : C Pg w K mg base fa fd wh n 17 P_17
  c_18 : C Pg w K mg base fa fd wh n 18 P_18
  c_19 : C Pg w K mg base fa fd wh n 19 P_19
  c_20 : C Pg w K mg base fa fd wh n 20 P_20
  c_21 : C Pg w K mg base fa fd wh n 21 P_21
  c_22 : C Pg w K mg base fa fd wh n 22 P_22
  c_23 : C Pg w K mg base fa fd wh n 23 P_23
  c_24 : C Pg w K mg base fa fd wh n 24 P_24
  c_25 : C Pg w K mg base fa fd wh n 25 P_25
  c_26 : C Pg w K mg base fa fd wh n 26 P_26
  c_27 : C Pg w K mg base fa fd wh n 27 P_27
  c_28 : C Pg w K mg base fa fd wh n 28 P_28
  c_29 : C Pg w K mg base fa fd wh n 29 P_29
  c_30 : C Pg w K mg base fa fd wh n 30 P_30
  c_31 : C Pg w K mg base fa fd wh n 31 P_31
  c_32 : C Pg w K mg base fa fd wh n 32 P_32
theorem all_n (X : Fx K mg fa fd t_MOST_PEOPLE) : ∀ n, All Pg w K mg base fa fd wh n
  | 0 => ⟨fn_zero, fn_zero, fn_zero, fn_zero, fn_zero, fn_zero, fn_zero, fn_zero, fn_zero, fn_zero, fn_zero, fn_zero, fn_zero, fn_zero, fn_zero, fn_zero, fn_zero, fn_zero, fn_zero, fn_zero, fn_zero, fn_zero, fn_zero, fn_zero, fn_zero, fn_zero, fn_zero, fn_zero, fn_zero, fn_zero, fn_zero, fn_zero, fn_zero⟩
  | n + 1 => let Y := all_n X n; ⟨ok_0 X, ok_1 X Y.c_0, ok_2 X, ok_3 X Y.c_2 Y.c_1, ok_4 X, ok_5 X, ok_6 X, ok_7 X Y.c_6, ok_8 X, ok_9 X Y.c_5 Y.c_7, ok_10 X Y.c_8, ok_11 X Y.c_10 Y.c_3, ok_12 X Y.c_8, ok_13 X Y.c_12 Y.c_3, ok_14 X, ok_15 X, ok_16 X Y.c_5 Y.c_15, ok_17 X Y.c_14 Y.c_12 Y.c_16 Y.c_3, ok_18 X Y.c_14 Y.c_16 Y.c_9, ok_19 X Y.c_18 Y.c_3, ok_20 X Y.c_18 Y.c_3, ok_21 X Y.c_18 Y.c_3, ok_22 X Y.c_5 Y.c_4, ok_23 X Y.c_7 Y.c_22, ok_24 X Y.c_23 Y.c_3, ok_25 X Y.c_3, ok_26 X Y.c_7 Y.c_8 Y.c_3, ok_27 X Y.c_18 Y.c_3, ok_28 X Y.c_3, ok_29 X, ok_30 X, ok_31 X Y.c_30 Y.c_29, ok_32 X Y.c_24 Y.c_19 Y.c_11 Y.c_28 Y.c_26 Y.c_20 Y.c_13 Y.c_17 Y.c_25 Y.c_27 Y.c_21 Y.c_31⟩
end
def d_0 : He.DefD := ⟨("is_integer", none), "is_integer", "is_integer", defArgs st_0, defBody st_0, defScope st_0, [], []⟩
def d_1 : He.DefD := ⟨("is_in", none), "is_in", "is_in", defArgs st_1, defBody st_1, defScope st_1, [], []⟩
def d_2 : He.DefD := ⟨("is_list", none), "is_list", "is_list", defArgs st_2, defBody st_2, defScope st_2, [], []⟩
def d_3 : He.DefD := ⟨("need_web", none), "need_web", "need_web", defArgs st_3, defBody st_3, defScope st_3, [], []⟩
def d_4 : He.DefD := ⟨("pairs_in", none), "pairs_in", "pairs_in", defArgs st_4, defBody st_4, defScope st_4, [], []⟩
def d_5 : He.DefD := ⟨("web_by", none), "web_by", "web_by", defArgs st_5, defBody st_5, defScope st_5, [], []⟩
def d_6 : He.DefD := ⟨("group_in", none), "group_in", "group_in", defArgs st_6, defBody st_6, defScope st_6, [], []⟩
def d_7 : He.DefD := ⟨("groups_in", none), "groups_in", "groups_in", defArgs st_7, defBody st_7, defScope st_7, [], []⟩
def d_8 : He.DefD := ⟨("is_table", none), "is_table", "is_table", defArgs st_8, defBody st_8, defScope st_8, [], []⟩
def d_9 : He.DefD := ⟨("rest_of", none), "rest_of", "rest_of", defArgs st_9, defBody st_9, defScope st_9, [], []⟩
def d_10 : He.DefD := ⟨("movers_in", none), "movers_in", "movers_in", defArgs st_10, defBody st_10, defScope st_10, [], []⟩
def d_11 : He.DefD := ⟨("movers", none), "movers", "movers", defArgs st_11, defBody st_11, defScope st_11, [], []⟩
def d_12 : He.DefD := ⟨("idle_in", none), "idle_in", "idle_in", defArgs st_12, defBody st_12, defScope st_12, [], []⟩
def d_13 : He.DefD := ⟨("idle", none), "idle", "idle", defArgs st_13, defBody st_13, defScope st_13, [], []⟩
def d_14 : He.DefD := ⟨("choices", none), "choices", "choices", defArgs st_14, defBody st_14, defScope st_14, [], []⟩
def d_15 : He.DefD := ⟨("chain_ends", none), "chain_ends", "chain_ends", defArgs st_15, defBody st_15, defScope st_15, [], []⟩
def d_16 : He.DefD := ⟨("told_in", none), "told_in", "told_in", defArgs st_16, defBody st_16, defScope st_16, [], []⟩
def d_17 : He.DefD := ⟨("useless", none), "useless", "useless", defArgs st_17, defBody st_17, defScope st_17, [], []⟩
def d_18 : He.DefD := ⟨("joining_in", none), "joining_in", "joining_in", defArgs st_18, defBody st_18, defScope st_18, [], []⟩
def d_19 : He.DefD := ⟨("joining_sets", none), "joining_sets", "joining_sets", defArgs st_19, defBody st_19, defScope st_19, [], []⟩
def d_20 : He.DefD := ⟨("least_joining", none), "least_joining", "least_joining", defArgs st_20, defBody st_20, defScope st_20, [], []⟩
def d_21 : He.DefD := ⟨("must_call", none), "must_call", "must_call", defArgs st_21, defBody st_21, defScope st_21, [], []⟩
def d_22 : He.DefD := ⟨("without", none), "without", "without", defArgs st_22, defBody st_22, defScope st_22, [], []⟩
def d_23 : He.DefD := ⟨("cut_in", none), "cut_in", "cut_in", defArgs st_23, defBody st_23, defScope st_23, [], []⟩
def d_24 : He.DefD := ⟨("cut_people", none), "cut_people", "cut_people", defArgs st_24, defBody st_24, defScope st_24, [], []⟩
def d_25 : He.DefD := ⟨("leaves", none), "leaves", "leaves", defArgs st_25, defBody st_25, defScope st_25, [], []⟩
def d_26 : He.DefD := ⟨("open_groups", none), "open_groups", "open_groups", defArgs st_26, defBody st_26, defScope st_26, [], []⟩
def d_27 : He.DefD := ⟨("can_be_locked", none), "can_be_locked", "can_be_locked", defArgs st_27, defBody st_27, defScope st_27, [], []⟩
def d_28 : He.DefD := ⟨("open_threes", none), "open_threes", "open_threes", defArgs st_28, defBody st_28, defScope st_28, [], []⟩
def d_29 : He.DefD := ⟨("_law_taken", none), "_law_taken", "_law_taken", defArgs st_29, defBody st_29, defScope st_29, [], []⟩
def d_30 : He.DefD := ⟨("_law_by", none), "_law_by", "_law_by", defArgs st_30, defBody st_30, defScope st_30, [], []⟩
def d_31 : He.DefD := ⟨("_law_web", none), "_law_web", "_law_web", defArgs st_31, defBody st_31, defScope st_31, [], []⟩
def d_32 : He.DefD := ⟨("law", none), "law", "law", defArgs st_32, defBody st_32, defScope st_32, [], []⟩
def fns : List He.DefD := [d_0, d_1, d_2, d_3, d_4, d_5, d_6, d_7, d_8, d_9, d_10, d_11, d_12, d_13, d_14, d_15, d_16, d_17, d_18, d_19, d_20, d_21, d_22, d_23, d_24, d_25, d_26, d_27, d_28, d_29, d_30, d_31, d_32]
def fcs : List He.Fa := [.glo "is_integer", .glo "is_in", .glo "is_list", .glo "need_web", .glo "pairs_in", .glo "web_by", .glo "group_in", .glo "groups_in", .glo "is_table", .glo "rest_of", .glo "movers_in", .glo "movers", .glo "idle_in", .glo "idle", .glo "choices", .glo "chain_ends", .glo "told_in", .glo "useless", .glo "joining_in", .glo "joining_sets", .glo "least_joining", .glo "must_call", .glo "without", .glo "cut_in", .glo "cut_people", .glo "leaves", .glo "open_groups", .glo "can_be_locked", .glo "open_threes", .glo "_law_taken", .glo "_law_by", .glo "_law_web", .glo "law", .free "all", .free "any", .free "bool", .free "enumerate", .free "int", .free "isinstance", .free "len", .free "list", .free "min", .free "range", .free "set", .free "sorted", .free "tuple", .int "MOST_PEOPLE" 8]
abbrev Rw : PySem.W.OpenRow := PySem.W.OpenLaw.row PySem.Challenge.rw_introducers_k36_whole_must_call
abbrev hk : PySem.W.Hook := He.hookD 4 fcs fns
def ob (s : PySem.W.SharedT) : He.AlD := He.obsDG 4 fcs fns (HandSHeadRun.getT s)
theorem ob_eq (s : PySem.W.SharedT) : ob s = hk.obs s.abs := He.obsDG_eq (HandSHeadRun.getT_eq s)
def loose_0 : List PySem.Str := ["is_integer", "is_in", "is_list", "IntroError", "BadWeb", "MOST_PEOPLE", "need_web", "pairs_in", "web_by", "group_in", "groups_in", "is_table", "rest_of", "movers_in", "movers", "idle_in", "idle", "choices", "chain_ends", "told_in", "useless", "joining_in", "joining_sets", "least_joining", "must_call", "without", "cut_in", "cut_people", "leaves", "open_groups"]
def loose_1 : List PySem.Str := ["can_be_locked", "open_threes", "_law_taken", "_law_by", "_law_web"]
set_option maxHeartbeats 0 in
theorem run (w : World) : HandSHeadRun.RunEq Rw (PySem.W.view Rw.prog [44]) hk ob 6000 (WK36.loose_0 ++ WK36.loose_1) w := by
  intro os
  kernel_rfl
set_option maxHeartbeats 0 in
theorem top_mk {P : Program} {w : World} {K : PySem.W.Frag} {h : Heap} {mg : Str → Option Value} {f : Addr} (XK : K.In h) (G : h.Ns mainGlobals mg) (hfa : mg ("law" : Str) = some (.ref f)) (c : He.SaysD fcs fns K) :
    ∃ fd : FuncData, (∀ (s : Shared) (v : Value), BindsTo s fd ⟨[v], []⟩ [("_law_script", v)]) ∧ ∀ base : Heap, K.In base → base.Ns mainGlobals mg → FnOk P w K mg base CX0 40 f fd P_32 (spF K ⟨callN T wh 40, wh⟩ 32 1) := by
  obtain ⟨fd0, F0⟩ := c.def_ 0 (d := d_0) rfl
  obtain ⟨fd1, F1⟩ := c.def_ 1 (d := d_1) rfl
  obtain ⟨fd2, F2⟩ := c.def_ 2 (d := d_2) rfl
  obtain ⟨fd3, F3⟩ := c.def_ 3 (d := d_3) rfl
  obtain ⟨fd4, F4⟩ := c.def_ 4 (d := d_4) rfl
  obtain ⟨fd5, F5⟩ := c.def_ 5 (d := d_5) rfl
  obtain ⟨fd6, F6⟩ := c.def_ 6 (d := d_6) rfl
  obtain ⟨fd7, F7⟩ := c.def_ 7 (d := d_7) rfl
  obtain ⟨fd8, F8⟩ := c.def_ 8 (d := d_8) rfl
  obtain ⟨fd9, F9⟩ := c.def_ 9 (d := d_9) rfl
  obtain ⟨fd10, F10⟩ := c.def_ 10 (d := d_10) rfl
  obtain ⟨fd11, F11⟩ := c.def_ 11 (d := d_11) rfl
  obtain ⟨fd12, F12⟩ := c.def_ 12 (d := d_12) rfl
  obtain ⟨fd13, F13⟩ := c.def_ 13 (d := d_13) rfl
  obtain ⟨fd14, F14⟩ := c.def_ 14 (d := d_14) rfl
  obtain ⟨fd15, F15⟩ := c.def_ 15 (d := d_15) rfl
  obtain ⟨fd16, F16⟩ := c.def_ 16 (d := d_16) rfl
  obtain ⟨fd17, F17⟩ := c.def_ 17 (d := d_17) rfl
  obtain ⟨fd18, F18⟩ := c.def_ 18 (d := d_18) rfl
  obtain ⟨fd19, F19⟩ := c.def_ 19 (d := d_19) rfl
  obtain ⟨fd20, F20⟩ := c.def_ 20 (d := d_20) rfl
  obtain ⟨fd21, F21⟩ := c.def_ 21 (d := d_21) rfl
  obtain ⟨fd22, F22⟩ := c.def_ 22 (d := d_22) rfl
  obtain ⟨fd23, F23⟩ := c.def_ 23 (d := d_23) rfl
  obtain ⟨fd24, F24⟩ := c.def_ 24 (d := d_24) rfl
  obtain ⟨fd25, F25⟩ := c.def_ 25 (d := d_25) rfl
  obtain ⟨fd26, F26⟩ := c.def_ 26 (d := d_26) rfl
  obtain ⟨fd27, F27⟩ := c.def_ 27 (d := d_27) rfl
  obtain ⟨fd28, F28⟩ := c.def_ 28 (d := d_28) rfl
  obtain ⟨fd29, F29⟩ := c.def_ 29 (d := d_29) rfl
  obtain ⟨fd30, F30⟩ := c.def_ 30 (d := d_30) rfl
  obtain ⟨fd31, F31⟩ := c.def_ 31 (d := d_31) rfl
  obtain ⟨fd32, F32⟩ := c.def_ 32 (d := d_32) rfl
  have e := hfa.symm.trans (He.glo_ok XK G (c.fact 32 (f := .glo "law") rfl))
  cases e
  obtain ⟨t_MOST_PEOPLE, m_MOST_PEOPLE⟩ := He.int_ok XK G (c.fact 46 (f := .int "MOST_PEOPLE" 8) rfl)
  have X : Fx K mg (fun i => [He.ga K "is_integer", He.ga K "is_in", He.ga K "is_list", He.ga K "need_web", He.ga K "pairs_in", He.ga K "web_by", He.ga K "group_in", He.ga K "groups_in", He.ga K "is_table", He.ga K "rest_of", He.ga K "movers_in", He.ga K "movers", He.ga K "idle_in", He.ga K "idle", He.ga K "choices", He.ga K "chain_ends", He.ga K "told_in", He.ga K "useless", He.ga K "joining_in", He.ga K "joining_sets", He.ga K "least_joining", He.ga K "must_call", He.ga K "without", He.ga K "cut_in", He.ga K "cut_people", He.ga K "leaves", He.ga K "open_groups", He.ga K "can_be_locked", He.ga K "open_threes", He.ga K "_law_taken", He.ga K "_law_by", He.ga K "_law_web", He.ga K "law"].getD i 0) (fun i => [fd0, fd1, fd2, fd3, fd4, fd5, fd6, fd7, fd8, fd9, fd10, fd11, fd12, fd13, fd14, fd15, fd16, fd17, fd18, fd19, fd20, fd21, fd22, fd23, fd24, fd25, fd26, fd27, fd28, fd29, fd30, fd31, fd32].getD i fd0) t_MOST_PEOPLE := {
    F_0 := F0
    g_0 := He.glo_ok XK G (c.fact 0 (f := .glo "is_integer") rfl)
    B_0 := FunD.bindsN (ps := P_0) F0 fun _ _ _ _ _ _ us hl => match us, hl with | [_], _ => rfl
    F_1 := F1
    g_1 := He.glo_ok XK G (c.fact 1 (f := .glo "is_in") rfl)
    B_1 := FunD.bindsN (ps := P_1) F1 fun _ _ _ _ _ _ us hl => match us, hl with | [_, _, _], _ => rfl
    F_2 := F2
    g_2 := He.glo_ok XK G (c.fact 2 (f := .glo "is_list") rfl)
    B_2 := FunD.bindsN (ps := P_2) F2 fun _ _ _ _ _ _ us hl => match us, hl with | [_, _, _], _ => rfl
    F_3 := F3
    g_3 := He.glo_ok XK G (c.fact 3 (f := .glo "need_web") rfl)
    B_3 := FunD.bindsN (ps := P_3) F3 fun _ _ _ _ _ _ us hl => match us, hl with | [_], _ => rfl
    F_4 := F4
    g_4 := He.glo_ok XK G (c.fact 4 (f := .glo "pairs_in") rfl)
    B_4 := FunD.bindsN (ps := P_4) F4 fun _ _ _ _ _ _ us hl => match us, hl with | [_], _ => rfl
    F_5 := F5
    g_5 := He.glo_ok XK G (c.fact 5 (f := .glo "web_by") rfl)
    B_5 := FunD.bindsN (ps := P_5) F5 fun _ _ _ _ _ _ us hl => match us, hl with | [_, _], _ => rfl
    F_6 := F6
    g_6 := He.glo_ok XK G (c.fact 6 (f := .glo "group_in") rfl)
    B_6 := FunD.bindsN (ps := P_6) F6 fun _ _ _ _ _ _ us hl => match us, hl with | [_, _], _ => rfl
    F_7 := F7
    g_7 := He.glo_ok XK G (c.fact 7 (f := .glo "groups_in") rfl)
    B_7 := FunD.bindsN (ps := P_7) F7 fun _ _ _ _ _ _ us hl => match us, hl with | [_], _ => rfl
    F_8 := F8
    g_8 := He.glo_ok XK G (c.fact 8 (f := .glo "is_table") rfl)
    B_8 := FunD.bindsN (ps := P_8) F8 fun _ _ _ _ _ _ us hl => match us, hl with | [_, _], _ => rfl
    F_9 := F9
    g_9 := He.glo_ok XK G (c.fact 9 (f := .glo "rest_of") rfl)
    B_9 := FunD.bindsN (ps := P_9) F9 fun _ _ _ _ _ _ us hl => match us, hl with | [_], _ => rfl
    F_10 := F10
    g_10 := He.glo_ok XK G (c.fact 10 (f := .glo "movers_in") rfl)
    B_10 := FunD.bindsN (ps := P_10) F10 fun _ _ _ _ _ _ us hl => match us, hl with | [_], _ => rfl
    F_11 := F11
    g_11 := He.glo_ok XK G (c.fact 11 (f := .glo "movers") rfl)
    B_11 := FunD.bindsN (ps := P_11) F11 fun _ _ _ _ _ _ us hl => match us, hl with | [_], _ => rfl
    F_12 := F12
    g_12 := He.glo_ok XK G (c.fact 12 (f := .glo "idle_in") rfl)
    B_12 := FunD.bindsN (ps := P_12) F12 fun _ _ _ _ _ _ us hl => match us, hl with | [_], _ => rfl
    F_13 := F13
    g_13 := He.glo_ok XK G (c.fact 13 (f := .glo "idle") rfl)
    B_13 := FunD.bindsN (ps := P_13) F13 fun _ _ _ _ _ _ us hl => match us, hl with | [_], _ => rfl
    F_14 := F14
    g_14 := He.glo_ok XK G (c.fact 14 (f := .glo "choices") rfl)
    B_14 := FunD.bindsN (ps := P_14) F14 fun _ _ _ _ _ _ us hl => match us, hl with | [_], _ => rfl
    F_15 := F15
    g_15 := He.glo_ok XK G (c.fact 15 (f := .glo "chain_ends") rfl)
    B_15 := FunD.bindsN (ps := P_15) F15 fun _ _ _ _ _ _ us hl => match us, hl with | [_, _, _], _ => rfl
    F_16 := F16
    g_16 := He.glo_ok XK G (c.fact 16 (f := .glo "told_in") rfl)
    B_16 := FunD.bindsN (ps := P_16) F16 fun _ _ _ _ _ _ us hl => match us, hl with | [_, _], _ => rfl
    F_17 := F17
    g_17 := He.glo_ok XK G (c.fact 17 (f := .glo "useless") rfl)
    B_17 := FunD.bindsN (ps := P_17) F17 fun _ _ _ _ _ _ us hl => match us, hl with | [_], _ => rfl
    F_18 := F18
    g_18 := He.glo_ok XK G (c.fact 18 (f := .glo "joining_in") rfl)
    B_18 := FunD.bindsN (ps := P_18) F18 fun _ _ _ _ _ _ us hl => match us, hl with | [_], _ => rfl
    F_19 := F19
    g_19 := He.glo_ok XK G (c.fact 19 (f := .glo "joining_sets") rfl)
    B_19 := FunD.bindsN (ps := P_19) F19 fun _ _ _ _ _ _ us hl => match us, hl with | [_], _ => rfl
    F_20 := F20
    g_20 := He.glo_ok XK G (c.fact 20 (f := .glo "least_joining") rfl)
    B_20 := FunD.bindsN (ps := P_20) F20 fun _ _ _ _ _ _ us hl => match us, hl with | [_], _ => rfl
    F_21 := F21
    g_21 := He.glo_ok XK G (c.fact 21 (f := .glo "must_call") rfl)
    B_21 := FunD.bindsN (ps := P_21) F21 fun _ _ _ _ _ _ us hl => match us, hl with | [_], _ => rfl
    F_22 := F22
    g_22 := He.glo_ok XK G (c.fact 22 (f := .glo "without") rfl)
    B_22 := FunD.bindsN (ps := P_22) F22 fun _ _ _ _ _ _ us hl => match us, hl with | [_, _], _ => rfl
    F_23 := F23
    g_23 := He.glo_ok XK G (c.fact 23 (f := .glo "cut_in") rfl)
    B_23 := FunD.bindsN (ps := P_23) F23 fun _ _ _ _ _ _ us hl => match us, hl with | [_], _ => rfl
    F_24 := F24
    g_24 := He.glo_ok XK G (c.fact 24 (f := .glo "cut_people") rfl)
    B_24 := FunD.bindsN (ps := P_24) F24 fun _ _ _ _ _ _ us hl => match us, hl with | [_], _ => rfl
    F_25 := F25
    g_25 := He.glo_ok XK G (c.fact 25 (f := .glo "leaves") rfl)
    B_25 := FunD.bindsN (ps := P_25) F25 fun _ _ _ _ _ _ us hl => match us, hl with | [_], _ => rfl
    F_26 := F26
    g_26 := He.glo_ok XK G (c.fact 26 (f := .glo "open_groups") rfl)
    B_26 := FunD.bindsN (ps := P_26) F26 fun _ _ _ _ _ _ us hl => match us, hl with | [_], _ => rfl
    F_27 := F27
    g_27 := He.glo_ok XK G (c.fact 27 (f := .glo "can_be_locked") rfl)
    B_27 := FunD.bindsN (ps := P_27) F27 fun _ _ _ _ _ _ us hl => match us, hl with | [_], _ => rfl
    F_28 := F28
    g_28 := He.glo_ok XK G (c.fact 28 (f := .glo "open_threes") rfl)
    B_28 := FunD.bindsN (ps := P_28) F28 fun _ _ _ _ _ _ us hl => match us, hl with | [_], _ => rfl
    F_29 := F29
    g_29 := He.glo_ok XK G (c.fact 29 (f := .glo "_law_taken") rfl)
    B_29 := FunD.bindsN (ps := P_29) F29 fun _ _ _ _ _ _ us hl => match us, hl with | [_, _], _ => rfl
    F_30 := F30
    g_30 := He.glo_ok XK G (c.fact 30 (f := .glo "_law_by") rfl)
    B_30 := FunD.bindsN (ps := P_30) F30 fun _ _ _ _ _ _ us hl => match us, hl with | [_, _], _ => rfl
    F_31 := F31
    g_31 := He.glo_ok XK G (c.fact 31 (f := .glo "_law_web") rfl)
    B_31 := FunD.bindsN (ps := P_31) F31 fun _ _ _ _ _ _ us hl => match us, hl with | [_, _], _ => rfl
    F_32 := F32
    g_32 := He.glo_ok XK G (c.fact 32 (f := .glo "law") rfl)
    B_32 := FunD.bindsN (ps := P_32) F32 fun _ _ _ _ _ _ us hl => match us, hl with | [_], _ => rfl
    z_all := He.free_ok XK G (c.fact 33 (f := .free "all") rfl)
    z_any := He.free_ok XK G (c.fact 34 (f := .free "any") rfl)
    z_bool := He.free_ok XK G (c.fact 35 (f := .free "bool") rfl)
    z_enumerate := He.free_ok XK G (c.fact 36 (f := .free "enumerate") rfl)
    z_int := He.free_ok XK G (c.fact 37 (f := .free "int") rfl)
    z_isinstance := He.free_ok XK G (c.fact 38 (f := .free "isinstance") rfl)
    z_len := He.free_ok XK G (c.fact 39 (f := .free "len") rfl)
    z_list := He.free_ok XK G (c.fact 40 (f := .free "list") rfl)
    z_min := He.free_ok XK G (c.fact 41 (f := .free "min") rfl)
    z_range := He.free_ok XK G (c.fact 42 (f := .free "range") rfl)
    z_set := He.free_ok XK G (c.fact 43 (f := .free "set") rfl)
    z_sorted := He.free_ok XK G (c.fact 44 (f := .free "sorted") rfl)
    z_tuple := He.free_ok XK G (c.fact 45 (f := .free "tuple") rfl)
    m_MOST_PEOPLE := m_MOST_PEOPLE
  }
  have b := FunD.bindsA (ps := P_32) F32 fun _ _ _ _ _ _ us hl => match us, hl with | [_], _ => rfl
  exact ⟨fd32, fun s v => b s [v] rfl, fun base _ _ => (all_n X 40).c_32⟩
end WK36
set_option autoImplicit false
set_option linter.all false
set_option maxRecDepth 100000
namespace WK36
open PySem Ev Ev.Z
section
variable {n : Nat}
theorem h_is_integer : HInt (callN T wh (n + 1)) 0 := fun i => by
  have h := b_is_integer (wh := wh) (cf := callN T wh (n + 0))  i
  exact Cl.mk (ps := [.int i]) (T := T) rfl rfl h rfl
theorem h_is_in : HIn (callN T wh (n + 2)) 1 := fun i a b => by
  have h := b_is_in (wh := wh) (cf := callN T wh (n + 1)) (h_is_integer (n := n)) i a b
  exact Cl.mk (ps := [.int i, .int a, .int b]) (T := T) rfl rfl h rfl
theorem h_is_list : HList (callN T wh (n + 1)) 2 := fun ds a b => by
  have h := b_is_list (wh := wh) (cf := callN T wh (n + 0))  ds a b
  exact Cl.mk (ps := [.tuple ds, .int a, .int b]) (T := T) rfl rfl h rfl
theorem h_need_web : HWeb (callN T wh (n + 3)) 3 := fun w => by
  obtain ⟨e, h⟩ := b_need_web (wh := wh) (cf := callN T wh (n + 2)) (h_is_list (n := n + 1)) (h_is_in (n := n)) w
  exact Cl.mk (ps := [toD w]) (T := T) rfl rfl h rfl
theorem h_pairs_in : HPairsIn (callN T wh (n + 1)) 4 := fun w => by
  obtain ⟨e, h⟩ := b_pairs_in (wh := wh) (cf := callN T wh (n + 0))  w
  exact Cl.mk (ps := [toD w]) (T := T) rfl rfl h rfl
theorem h_web_by : HBy6 (callN T wh (n + 1)) 5 := c_web_by rfl
theorem h_group_in : HGroup (callN T wh (n + 1)) 6 := fun w p hp => by
  obtain ⟨e, h⟩ := b_group_in (cf := callN T wh (n + 0))  w p hp
  exact Cl.mk (ps := [toD w, nI p]) (T := T) rfl rfl h rfl
theorem h_groups_in : HGroups (callN T wh (n + 2)) 7 := fun w => by
  obtain ⟨e, h⟩ := b_groups_in (wh := wh) (cf := callN T wh (n + 1)) (h_group_in (n := n)) w
  exact Cl.mk (ps := [toD w]) (T := T) rfl rfl h rfl
theorem h_is_table : HTable (callN T wh (n + 1)) 8 := fun w ps hp hl => by
  have h := b_is_table (wh := wh) (cf := callN T wh (n + 0))  w ps hp hl
  exact Cl.mk (ps := [toD w, .tuple (ps.map nI)]) (T := T) rfl rfl h rfl
theorem h_rest_of : HRest (callN T wh (n + 3)) 9 := fun w => by
  obtain ⟨e, h⟩ := b_rest_of (wh := wh) (cf := callN T wh (n + 2)) (h_groups_in (n := n)) (h_web_by (n := n + 1)) w
  exact Cl.mk (ps := [toD w]) (T := T) rfl rfl h rfl
theorem h_movers_in (w : Web) : Cl (callN T wh (n + 2)) 10 [vR (toD w)] (vals ((mvs w).map nI)) := by
  obtain ⟨e, h⟩ := b_movers_in (wh := wh) (cf := callN T wh (n + 1)) (h_is_table (n := n)) w
  exact Cl.mk (ps := [toD w]) (T := T) rfl rfl h rfl
theorem h_movers (w : Web) : Cl (callN T wh (n + 4)) 11 [vR (toD w)] (vR (.tuple ((mvs w).map nI))) := by
  have h := b_tup1 (wh := wh) (cf := callN T wh (n + 3)) (h_need_web (n := n)) (h_movers_in (n := n + 1) w) 
  exact Cl.mk (ps := [toD w]) (T := T) rfl rfl h rfl
theorem h_idle_in (w : Web) : Cl (callN T wh (n + 2)) 12 [vR (toD w)] (vals ((idl w).map nI)) := by
  obtain ⟨e, h⟩ := b_idle_in (wh := wh) (cf := callN T wh (n + 1)) (h_is_table (n := n)) w
  exact Cl.mk (ps := [toD w]) (T := T) rfl rfl h rfl
theorem h_idle (w : Web) : Cl (callN T wh (n + 4)) 13 [vR (toD w)] (vR (.tuple ((idl w).map nI))) := by
  have h := b_tup1 (wh := wh) (cf := callN T wh (n + 3)) (h_need_web (n := n)) (h_idle_in (n := n + 1) w) 
  exact Cl.mk (ps := [toD w]) (T := T) rfl rfl h rfl
theorem h_choices : HChoices (callN T wh (n + 1)) 14 := fun m hm => by
  obtain ⟨e, h⟩ := b_choices (wh := wh) (cf := callN T wh (n + 0))  m hm
  exact Cl.mk (ps := [nI m]) (T := T) rfl rfl h rfl
theorem h_chain_ends : HEnds (callN T wh (n + 1)) 15 := fun w ds p hp => by
  obtain ⟨F, e, h1, h2, h⟩ := b_chain_ends (cf := callN T wh n) w ds p hp
  exact ⟨F, h1, h2, Cl.mk (ps := [toD w, .tuple (ds.map nI), nI p]) (T := T) rfl rfl h rfl⟩
theorem h_told_in : HTold (callN T wh (n + 2)) 16 := fun w ds hd => by
  obtain ⟨e, h⟩ := b_told_in (wh := wh) (cf := callN T wh (n + 1)) (h_chain_ends (n := n)) (h_web_by (n := n)) w ds hd
  exact Cl.mk (ps := [toD w, .tuple (ds.map nI)]) (T := T) rfl rfl h rfl
theorem h_useless (w : Web) : Cl (callN T wh (n + 4)) 17 [vR (toD w)] (vR (.tuple ((usel w).map nI))) := by
  obtain ⟨e, h⟩ := b_useless (wh := wh) (cf := callN T wh (n + 3)) (h_need_web (n := n)) (h_idle_in (n := n + 1)) (h_told_in (n := n + 1)) (h_choices (n := n + 2)) w
  exact Cl.mk (ps := [toD w]) (T := T) rfl rfl h rfl
theorem h_joining_in : HJoin (callN T wh (n + 4)) 18 := fun w => by
  obtain ⟨e, h⟩ := b_joining_in (wh := wh) (cf := callN T wh (n + 3)) (h_rest_of (n := n)) (h_choices (n := n + 2)) (h_told_in (n := n + 1)) w
  exact Cl.mk (ps := [toD w]) (T := T) rfl rfl h rfl
theorem h_joining_sets : HJoin (callN T wh (n + 5)) 19 := fun w => by
  obtain ⟨e, h⟩ := b_joining_sets (wh := wh) (cf := callN T wh (n + 4)) (h_need_web (n := n + 1)) (h_joining_in (n := n)) w
  exact Cl.mk (ps := [toD w]) (T := T) rfl rfl h rfl
theorem h_least_joining (w : Web) : ∃ m, ((∃ S ∈ jns w, S.length = m) ∧ ∀ S ∈ jns w, m ≤ S.length) ∧ Cl (callN T wh (n + 5)) 20 [vR (toD w)] (vals ((ljn w m).map rowT)) := by
  obtain ⟨m, e, b, h⟩ := b_least_joining (wh := wh) (cf := callN T wh (n + 4)) (h_need_web (n := n + 1)) (h_joining_in (n := n)) w
  exact ⟨m, b, Cl.mk (ps := [toD w]) (T := T) rfl rfl h rfl⟩
theorem h_must_call (w : Web) : Cl (callN T wh (n + 5)) 21 [vR (toD w)] (vR (.tuple ((must w).map nI))) := by
  obtain ⟨e, h⟩ := b_must_call (wh := wh) (cf := callN T wh (n + 4)) (h_need_web (n := n + 1)) (h_joining_in (n := n)) w
  exact Cl.mk (ps := [toD w]) (T := T) rfl rfl h rfl
theorem h_without : HWo (callN T wh (n + 2)) 22 := fun w p => by
  obtain ⟨e, h⟩ := b_without (wh := wh) (cf := callN T wh (n + 1)) (h_web_by (n := n)) (h_pairs_in (n := n)) w p
  exact Cl.mk (ps := [toD w, nI p]) (T := T) rfl rfl h rfl
theorem h_cut_in (w : Web) : Cl (callN T wh (n + 3)) 23 [vR (toD w)] (vals ((cuts w).map nI)) := by
  obtain ⟨e, h⟩ := b_cut_in (wh := wh) (cf := callN T wh (n + 2)) (h_groups_in (n := n)) (h_without (n := n)) w
  exact Cl.mk (ps := [toD w]) (T := T) rfl rfl h rfl
theorem h_cut_people (w : Web) : Cl (callN T wh (n + 4)) 24 [vR (toD w)] (vR (.tuple ((cuts w).map nI))) := by
  have h := b_tup1 (wh := wh) (cf := callN T wh (n + 3)) (h_need_web (n := n)) (h_cut_in (n := n + 0) w) 
  exact Cl.mk (ps := [toD w]) (T := T) rfl rfl h rfl
theorem h_leaves (w : Web) : Cl (callN T wh (n + 4)) 25 [vR (toD w)] (vR (.tuple ((lvs w).map nI))) := by
  obtain ⟨e, h⟩ := b_leaves (wh := wh) (cf := callN T wh (n + 3)) (h_need_web (n := n)) w
  exact Cl.mk (ps := [toD w]) (T := T) rfl rfl h rfl
theorem h_open_groups (w : Web) : Cl (callN T wh (n + 4)) 26 [vR (toD w)] (vR (.tuple ((opg w).map rowT))) := by
  obtain ⟨e, h⟩ := b_open_groups (wh := wh) (cf := callN T wh (n + 3)) (h_need_web (n := n)) (h_groups_in (n := n + 1)) (h_is_table (n := n + 2)) w
  exact Cl.mk (ps := [toD w]) (T := T) rfl rfl h rfl
theorem h_can_be_locked (w : Web) : Cl (callN T wh (n + 5)) 27 [vR (toD w)] (vR (.tuple ((canL w).map nI))) := by
  obtain ⟨e, h⟩ := b_can_be_locked (wh := wh) (cf := callN T wh (n + 4)) (h_need_web (n := n + 1)) (h_joining_in (n := n)) w
  exact Cl.mk (ps := [toD w]) (T := T) rfl rfl h rfl
theorem h_open_threes (w : Web) : Cl (callN T wh (n + 4)) 28 [vR (toD w)] (vR (nI (threes w))) := by
  obtain ⟨e, h⟩ := b_open_threes (wh := wh) (cf := callN T wh (n + 3)) (h_need_web (n := n)) w
  exact Cl.mk (ps := [toD w]) (T := T) rfl rfl h rfl
theorem h__law_taken : HTaken (callN T wh (n + 1)) 29 := c_taken rfl
theorem h__law_by : HBy (callN T wh (n + 1)) 30 := c_by rfl
theorem h__law_web : HDrawn (callN T wh (n + 2)) 31 := c_web (T := T) rfl (h__law_taken (n := n)) (h__law_by (n := n))
theorem g_is_integer  : HInt (callN T wh (n + 5)) 0 := h_is_integer (n := n + 4)
theorem g_is_in  : HIn (callN T wh (n + 5)) 1 := h_is_in (n := n + 3)
theorem g_is_list  : HList (callN T wh (n + 5)) 2 := h_is_list (n := n + 4)
theorem g_need_web  : HWeb (callN T wh (n + 5)) 3 := h_need_web (n := n + 2)
theorem g_pairs_in  : HPairsIn (callN T wh (n + 5)) 4 := h_pairs_in (n := n + 4)
theorem g_web_by  : HBy6 (callN T wh (n + 5)) 5 := h_web_by (n := n + 4)
theorem g_group_in  : HGroup (callN T wh (n + 5)) 6 := h_group_in (n := n + 4)
theorem g_groups_in  : HGroups (callN T wh (n + 5)) 7 := h_groups_in (n := n + 3)
theorem g_is_table  : HTable (callN T wh (n + 5)) 8 := h_is_table (n := n + 4)
theorem g_rest_of  : HRest (callN T wh (n + 5)) 9 := h_rest_of (n := n + 2)
theorem g_movers_in (w : Web) : Cl (callN T wh (n + 5)) 10 [vR (toD w)] (vals ((mvs w).map nI)) := h_movers_in (n := n + 3) w
theorem g_movers (w : Web) : Cl (callN T wh (n + 5)) 11 [vR (toD w)] (vR (.tuple ((mvs w).map nI))) := h_movers (n := n + 1) w
theorem g_idle_in (w : Web) : Cl (callN T wh (n + 5)) 12 [vR (toD w)] (vals ((idl w).map nI)) := h_idle_in (n := n + 3) w
theorem g_idle (w : Web) : Cl (callN T wh (n + 5)) 13 [vR (toD w)] (vR (.tuple ((idl w).map nI))) := h_idle (n := n + 1) w
theorem g_choices  : HChoices (callN T wh (n + 5)) 14 := h_choices (n := n + 4)
theorem g_chain_ends  : HEnds (callN T wh (n + 5)) 15 := h_chain_ends (n := n + 4)
theorem g_told_in  : HTold (callN T wh (n + 5)) 16 := h_told_in (n := n + 3)
theorem g_useless (w : Web) : Cl (callN T wh (n + 5)) 17 [vR (toD w)] (vR (.tuple ((usel w).map nI))) := h_useless (n := n + 1) w
theorem g_joining_in  : HJoin (callN T wh (n + 5)) 18 := h_joining_in (n := n + 1)
theorem g_joining_sets  : HJoin (callN T wh (n + 5)) 19 := h_joining_sets (n := n + 0)
theorem g_least_joining (w : Web) : ∃ m, ((∃ S ∈ jns w, S.length = m) ∧ ∀ S ∈ jns w, m ≤ S.length) ∧ Cl (callN T wh (n + 5)) 20 [vR (toD w)] (vals ((ljn w m).map rowT)) := h_least_joining (n := n + 0) w
theorem g_must_call (w : Web) : Cl (callN T wh (n + 5)) 21 [vR (toD w)] (vR (.tuple ((must w).map nI))) := h_must_call (n := n + 0) w
theorem g_without  : HWo (callN T wh (n + 5)) 22 := h_without (n := n + 3)
theorem g_cut_in (w : Web) : Cl (callN T wh (n + 5)) 23 [vR (toD w)] (vals ((cuts w).map nI)) := h_cut_in (n := n + 2) w
theorem g_cut_people (w : Web) : Cl (callN T wh (n + 5)) 24 [vR (toD w)] (vR (.tuple ((cuts w).map nI))) := h_cut_people (n := n + 1) w
theorem g_leaves (w : Web) : Cl (callN T wh (n + 5)) 25 [vR (toD w)] (vR (.tuple ((lvs w).map nI))) := h_leaves (n := n + 1) w
theorem g_open_groups (w : Web) : Cl (callN T wh (n + 5)) 26 [vR (toD w)] (vR (.tuple ((opg w).map rowT))) := h_open_groups (n := n + 1) w
theorem g_can_be_locked (w : Web) : Cl (callN T wh (n + 5)) 27 [vR (toD w)] (vR (.tuple ((canL w).map nI))) := h_can_be_locked (n := n + 0) w
theorem g_open_threes (w : Web) : Cl (callN T wh (n + 5)) 28 [vR (toD w)] (vR (nI (threes w))) := h_open_threes (n := n + 1) w
theorem g__law_taken  : HTaken (callN T wh (n + 5)) 29 := h__law_taken (n := n + 4)
theorem g__law_by  : HBy (callN T wh (n + 5)) 30 := h__law_by (n := n + 4)
theorem g__law_web  : HDrawn (callN T wh (n + 5)) 31 := h__law_web (n := n + 3)
noncomputable abbrev O (n : Nat) : Orc := ⟨callN T wh (n + 5), wh⟩
end
end WK36
/- levels: is_integer:1 is_in:2 is_list:1 need_web:3 pairs_in:1 web_by:1 group_in:1 groups_in:2 is_table:1 rest_of:3 movers_in:2 movers:4 idle_in:2 idle:4 choices:1 chain_ends:1 told_in:2 useless:4 joining_in:4 joining_sets:5 least_joining:5 must_call:5 without:2 cut_in:3 cut_people:4 leaves:4 open_groups:4 can_be_locked:5 open_threes:4 _law_taken:1 _law_by:1 _law_web:2 -/
set_option autoImplicit false
set_option linter.all false
set_option maxRecDepth 100000
namespace WK36
open PySem Ev Ev.Z
abbrev rF : List MS := [(.ret (.cst (.bool false)))]
abbrev e5 (ns : PyData) (r : R) (w : Web) (s3 s4 : Sl) : Ev.Env := [V ns, .sl r, V (toD w), s3, s4]
variable {n : Nat} {ns : PyData} {r : R} {w : Web}
abbrev lcut : ME := .lc (.var 4) (.nm 4) (.seq (.call 24 [(.var 2)])) (some (.cmp .notin (.var 4) (.var 3))) [4]
theorem cuts_len (w : Web) : (cuts w).length ≤ 8 := Nat.le_trans (len_filter_range _ _) w.le
theorem cut_lc (S : List Nat) {s4 : Sl} (h4 : plainSl s4 = true) : E (O n) lcut (e5 ns r w (V (rowT S)) s4) (vals (((cuts w).filter fun p => !S.contains p).map nI)) :=
  E.lcFv (O := O n) (env := e5 ns r w (V (rowT S)) s4) (f := nI) (g := nI) (I.seq (E.cl (.cons (.var rfl) .nil) (g_cut_people (n := n) w)) rfl) (by simpa [gt] using h4) (by have := cuts_len w; omega) (fun p hp => (E.cmp (.var rfl) (.var rfl) (cmp_notin (in_nat p S))).wv) fun p hp _ => .var rfl
theorem loop36 {m : Nat} (hm : (∃ S ∈ jns w, S.length = m) ∧ ∀ S ∈ jns w, m ≤ S.length) (hc : Cl (callN T wh (n + 5)) 20 [vR (toD w)] (vals ((ljn w m).map rowT))) {s4 : Sl} (h4 : plainSl s4 = true) :
    ∃ s3, notLk s3 = true ∧ plainSl s3 = true ∧ X (O n) (.for (.nm 3) (.seq (.call 20 [(.var 2)])) [(.ite (.cmp .ne lcut (.lst [])) rF []), (.ite (.cmp .ne (.lc (.var 4) (.nm 4) (.seq (.var 3)) (some (.cmp .isin (.var 4) (.call 13 [(.var 2)]))) [4]) (.lst [])) rF [])]) (e5 ns r w .no s4) .nx (e5 ns r w s3 s4) := by
  obtain ⟨e1, g1, s3, rfl, h3, h3'⟩ := X.forP (O := O n) (tg := .nm 3) (it := .seq (.call 20 [(.var 2)])) (b := [(.ite (.cmp .ne lcut (.lst [])) rF []), (.ite (.cmp .ne (.lc (.var 4) (.nm 4) (.seq (.var 3)) (some (.cmp .isin (.var 4) (.call 13 [(.var 2)]))) [4]) (.lst [])) rF [])]) (env := e5 ns r w .no s4) (env1 := e5 ns r w .no s4) (xs := ljn w m) (f := rowT)
    (fun _ e => ∃ s3, e = e5 ns r w s3 s4 ∧ notLk s3 = true ∧ plainSl s3 = true) (I.seql (E.cl (.cons (.var rfl) .nil) hc)) ⟨_, rfl, rfl, rfl⟩ fun pre S e hS _ hI => by
      obtain ⟨s3, rfl, h3, _⟩ := hI
      have hSj : S ∈ jns w := (List.mem_filter.mp hS).1
      have hSc := mem_chs.mp (mem_jns.mp hSj).1
      have hSl := chs_short (mem_jns.mp hSj).1
      have h8 := w.le
      have c1 : (cuts w).filter (fun p => !S.contains p) = [] := filter_nil fun p hp => by
        have h := mem_cuts.mp hp
        rw [List.contains_iff_mem.mpr (parts_in h.1 h.2 (mem_jns.mp hSj).2)]; rfl
      have c2 : S.filter (fun p => (idl w).contains p) = [] := filter_nil fun p hp => by
        have := least_no_idle hm.2 hS hp
        rw [← Bool.not_eq_true, List.contains_iff_mem]; exact this
      have k2 := E.lcFv (O := O n) (env := e5 ns r w (V (rowT S)) s4) (elt := .var 4) (i := 4) (it := .seq (.var 3)) (cnd := .cmp .isin (.var 4) (.call 13 [(.var 2)])) (xs := S) (f := nI) (g := nI) (c := fun p => (idl w).contains p) (I.seq (.var rfl) rfl) (by simpa [gt] using h4) (by omega) (fun p hp => (E.cmp (.var rfl) (E.cl (.cons (.var rfl) .nil) (g_idle (n := n) w)).wv (in_nat p _)).wv) fun p hp _ => .var rfl
      exact ⟨_, _, bindT_nm h3, .nx (.ifF (.neNil0 (cut_lc S h4) c1)) (.last (.ifF (.neNil0 k2 c2))), V (rowT S), rfl, rfl, rfl⟩
  exact ⟨s3, h3, h3', g1⟩
theorem math (ns : List Int) (hl : ns.length ≤ 63) : ∃ outs, callN T wh 40 32 [.val (.list (ns.map .int))] = some (.val (.bool true), outs) := by
  have h0 : X (O 34) (.asg (.nm 1) (.lst [(.var 0), (.cst (.int 0)), (.cst (.int 9836)), (.cst (.int 0))])) [V (.list (ns.map .int)), .no, .no, .no, .no] .nx [V (.list (ns.map .int)), .sl (rowR (ns.map .int) 0 9836 0), .no, .no, .no] :=
    .asg (E.lst (.cons (.var rfl) (.cons .cst (.cons .cst (.cons .cst .nil))))) rfl
  obtain ⟨w, r1, g1, g2, g3⟩ := X.web (cf := callN T wh 39) (wh := wh) (f := 31) (i := 1) (j := 2) (m := 6) (s := ns) (r := rowR (ns.map .int) 0 9836 0) (env := [V (.list (ns.map .int)), .sl (rowR (ns.map .int) 0 9836 0), .no, .no, .no]) (g__law_web (n := 34)) rfl ⟨0, 9836, 0, by omega, rfl⟩ (by omega) (by omega) rfl
  have h8 := w.le
  have hmust := g_must_call (n := 34) w
  rw [must_cuts] at hmust
  have hcut := g_cut_people (n := 34) w
  have hcan := g_can_be_locked (n := 34) w
  rw [canL_cuts] at hcan
  have huse := g_useless (n := 34) w
  rw [usel_idl] at huse
  have hidl := g_idle (n := 34) w
  have hlvs := g_leaves (n := 34) w
  have hmvs := g_movers (n := 34) w
  have hopg := g_open_groups (n := 34) w
  have hthr := g_open_threes (n := 34) w
  have hjs := g_joining_sets (n := 34) w
  obtain ⟨m, hm, hlj⟩ := g_least_joining (n := 34) w
  have a1 : ∀ {f : Nat} {q : R} {s3 s4 : Sl}, Cl (callN T wh 39) f [vR (toD w)] q → E (O 34) (.call f [(.var 2)]) (e5 (.list (ns.map .int)) r1 w s3 s4) q := fun h => E.cl (.cons (.var rfl) .nil) h
  have s1 : X (O 34) (.ite (.cmp .ne (.call 21 [(.var 2)]) (.call 24 [(.var 2)])) rF []) (e5 (.list (ns.map .int)) r1 w .no .no) .nx (e5 (.list (ns.map .int)) r1 w .no .no) :=
    .ifF (.neS (sh_nats (k := 0) _) (a1 hmust).wv (a1 hcut).wv)
  have k2 := E.lcFv (O := O 34) (env := e5 (.list (ns.map .int)) r1 w .no .no) (elt := .var 4) (i := 4) (it := .rng (.bi .len [(.var 2)])) (cnd := .cmp .notin (.var 4) (.call 24 [(.var 2)])) (xs := List.range w.n) (f := nI) (g := nI) (c := fun p => !(cuts w).contains p) (I.rng (E.lenw (.var rfl)).wv (by omega)) rfl (by rw [List.length_range]; omega) (fun p hp => (E.cmp (.var rfl) (E.cl (.cons (.var rfl) .nil) hcut).wv (cmp_notin (in_nat p _))).wv) fun p hp _ => .var rfl
  have s2 : X (O 34) (.ite (.cmp .ne (.call 27 [(.var 2)]) (.bi .tuple [(.lc (.var 4) (.nm 4) (.rng (.bi .len [(.var 2)])) (some (.cmp .notin (.var 4) (.call 24 [(.var 2)]))) [4])])) rF []) (e5 (.list (ns.map .int)) r1 w .no .no) .nx (e5 (.list (ns.map .int)) r1 w .no .no) :=
    .ifF (.neS (sh_nats (k := 0) _) (a1 hcan).wv (E.tupl k2.wl).wv)
  have s3 : X (O 34) (.ite (.cmp .ne (.call 17 [(.var 2)]) (.call 13 [(.var 2)])) rF []) (e5 (.list (ns.map .int)) r1 w .no .no) .nx (e5 (.list (ns.map .int)) r1 w .no .no) :=
    .ifF (.neS (sh_nats (k := 0) _) (a1 huse).wv (a1 hidl).wv)
  have k4 := E.lcFv (O := O 34) (env := e5 (.list (ns.map .int)) r1 w .no .no) (elt := .var 4) (i := 4) (it := .seq (.call 25 [(.var 2)])) (cnd := .cmp .notin (.var 4) (.call 17 [(.var 2)])) (xs := lvs w) (f := nI) (g := nI) (c := fun p => !(idl w).contains p) (I.seq (a1 hlvs) rfl) rfl (by have := len_filter_range w.n fun p => (nb w p).length == 1; rw [lvs]; omega) (fun p hp => (E.cmp (.var rfl) (E.cl (.cons (.var rfl) .nil) huse).wv (cmp_notin (in_nat p _))).wv) fun p hp _ => .var rfl
  have s4 : X (O 34) (.ite (.cmp .ne (.lc (.var 4) (.nm 4) (.seq (.call 25 [(.var 2)])) (some (.cmp .notin (.var 4) (.call 17 [(.var 2)]))) [4]) (.lst [])) rF []) (e5 (.list (ns.map .int)) r1 w .no .no) .nx (e5 (.list (ns.map .int)) r1 w .no .no) :=
    .ifF (.neNil0 k4 (filter_nil fun p hp => by rw [List.contains_iff_mem.mpr (leaf_idle hp)]; rfl))
  obtain ⟨t3, ht3, ht3', gl⟩ := loop36 (n := 34) (ns := .list (ns.map .int)) (r := r1) (w := w) hm hlj (s4 := .no) rfl
  have k5 := E.lcFv (O := O 34) (env := e5 (.list (ns.map .int)) r1 w t3 .no) (elt := .var 4) (i := 4) (it := .seq (.call 24 [(.var 2)])) (cnd := .cmp .notin (.var 4) (.call 11 [(.var 2)])) (xs := cuts w) (f := nI) (g := nI) (c := fun p => !(mvs w).contains p) (I.seq (a1 hcut) rfl) rfl (by have := cuts_len w; omega) (fun p hp => (E.cmp (.var rfl) (E.cl (.cons (.var rfl) .nil) hmvs).wv (cmp_notin (in_nat p _))).wv) fun p hp _ => .var rfl
  have s5 : X (O 34) (.ite (.cmp .ne (.lc (.var 4) (.nm 4) (.seq (.call 24 [(.var 2)])) (some (.cmp .notin (.var 4) (.call 11 [(.var 2)]))) [4]) (.lst [])) rF []) (e5 (.list (ns.map .int)) r1 w t3 .no) .nx (e5 (.list (ns.map .int)) r1 w t3 .no) :=
    .ifF (.neNil0 k5 (filter_nil fun p hp => by
      have h := mem_cuts.mp hp
      rw [List.contains_iff_mem.mpr (parts_in h.1 h.2 (mem_jns.mp (mvs_joins w)).2)]; rfl))
  have em : ((mvs w).map nI).isEmpty = decide (mvs w = []) := by cases mvs w <;> rfl
  have eo : ((opg w).map rowT).isEmpty = decide (mvs w = []) := by
    have := opg_nil (w := w)
    rw [Bool.eq_iff_iff, List.isEmpty_iff, List.map_eq_nil_iff, decide_eq_true_eq, this]
  have et : (threes w == 0) = decide (mvs w = []) := by
    rw [Bool.eq_iff_iff, beq_iff_eq, decide_eq_true_eq, threes_zero]
  have km : E (O 34) (.cmp .eq (.call 11 [(.var 2)]) (.tup [])) (e5 (.list (ns.map .int)) r1 w t3 .no) (vR (.bool (decide (mvs w = [])))) := (E.eqNilT (a1 hmvs).wv (sh_nats (k := 0) _)).to (by rw [em])
  have ko : E (O 34) (.cmp .eq (.call 26 [(.var 2)]) (.tup [])) (e5 (.list (ns.map .int)) r1 w t3 .no) (vR (.bool (decide (mvs w = [])))) := (E.eqNilT (a1 hopg).wv (sh_rows (k := 0) _)).to (by rw [eo])
  have kt : E (O 34) (.cmp .eq (.call 28 [(.var 2)]) (.cst (.int 0))) (e5 (.list (ns.map .int)) r1 w t3 .no) (vR (.bool (decide (mvs w = [])))) := (E.cmp (a1 hthr).wv .cst (eq_nat _ 0)).to (by rw [et])
  have s6 : X (O 34) (.ite (.cmp .ne (.cmp .eq (.call 26 [(.var 2)]) (.tup [])) (.cmp .eq (.call 11 [(.var 2)]) (.tup []))) rF []) (e5 (.list (ns.map .int)) r1 w t3 .no) .nx (e5 (.list (ns.map .int)) r1 w t3 .no) := .ifF (.neS (sh_bool (k := 0) _) ko.wv km.wv)
  have s7 : X (O 34) (.ite (.cmp .ne (.cmp .eq (.call 28 [(.var 2)]) (.cst (.int 0))) (.cmp .eq (.call 11 [(.var 2)]) (.tup []))) rF []) (e5 (.list (ns.map .int)) r1 w t3 .no) .nx (e5 (.list (ns.map .int)) r1 w t3 .no) := .ifF (.neS (sh_bool (k := 0) _) kt.wv km.wv)
  have k8 : E (O 34) (.cmp .isin (.call 11 [(.var 2)]) (.call 19 [(.var 2)])) (e5 (.list (ns.map .int)) r1 w t3 .no) (vR (.bool true)) := (E.cmp (p := rowT (mvs w)) (a1 hmvs).wv (a1 hjs).wl (in_rows _ _)).to (by rw [List.contains_iff_mem.mpr (mvs_joins w)])
  have s8 : X (O 34) (.ite (.nt (.cmp .isin (.call 11 [(.var 2)]) (.call 19 [(.var 2)]))) rF []) (e5 (.list (ns.map .int)) r1 w t3 .no) .nx (e5 (.list (ns.map .int)) r1 w t3 .no) := .ifF (E.nt k8.wv)
  have hj256 := jns_256 w
  have k9 := E.lcFv (O := O 34) (env := e5 (.list (ns.map .int)) r1 w t3 .no) (elt := .var 3) (i := 3) (it := .seq (.call 19 [(.var 2)])) (cnd := .cmp .ne lcut (.lst [])) (xs := jns w) (f := rowT) (g := rowT) (c := fun S => !((cuts w).filter fun p => !S.contains p).isEmpty) (I.seql (a1 hjs)) (by simpa [gt] using ht3') (by omega) (fun S hS => (E.neNil (cut_lc S rfl)).wv) fun S hS _ => .var rfl
  have e9 : (jns w).filter (fun S => !((cuts w).filter fun p => !S.contains p).isEmpty) = [] := filter_nil fun S hS => by
    have : (cuts w).filter (fun p => !S.contains p) = [] := filter_nil fun p hp => by
      have h := mem_cuts.mp hp
      rw [List.contains_iff_mem.mpr (parts_in h.1 h.2 (mem_jns.mp hS).2)]; rfl
    rw [this]; rfl
  rw [e9] at k9
  have s9 : Xs (O 34) [(.ret (.cmp .eq (.lc (.var 3) (.nm 3) (.seq (.call 19 [(.var 2)])) (some (.cmp .ne lcut (.lst []))) [3]) (.lst [])))] (e5 (.list (ns.map .int)) r1 w t3 .no) (.ret (vR (.bool true))) (e5 (.list (ns.map .int)) r1 w t3 .no) :=
    .ret (.ret (.eqS (sh_lst (k := 0) fun d hd => by cases hd) k9.wl nil_L.wl))
  have hfin : Xs (O 34) b32 [V (.list (ns.map .int)), .no, .no, .no, .no] (.ret (vR (.bool true))) (e5 (.list (ns.map .int)) r1 w t3 .no) :=
    .nx h0 (.nx g1 (.nx s1 (.nx s2 (.nx s3 (.nx s4 (.nx gl (.nx s5 (.nx s6 (.nx s7 (.nx s8 s9))))))))))
  exact Cl.mk (ps := [.list (ns.map .int)]) (T := T) (n := 39) (f := 32) rfl rfl hfin rfl
end WK36
open PySem PySem.W PySem.Calls PyProof.Rows
set_option maxHeartbeats 0 in
theorem PySem.Challenge.cw_introducers_k36_whole_must_call_holds : PySem.Challenge.rw_introducers_k36_whole_must_call.Holds := by
  w_on; o_law
  refine HandSHeadRun.head_any (r := WK36.Rw) (q := view WK36.Rw.prog [44]) (H := WK36.hk) (ob := WK36.ob) (M := 6000) (loose := (WK36.loose_0 ++ WK36.loose_1)) (d := HandSHeadRun.topDef WK36.Rw.prog 44) (kwd := []) WK36.ob_eq
    (by kernel_rfl) (fun s => by kernel_rfl) WK36.run (by kernel_rfl) (by kernel_rfl) (by kernel_rfl) (by rfl) (by first | assumption | decide +kernel) (by decide +kernel) ⟨rfl, rfl, rfl, rfl, rfl, by decide +kernel⟩ ?hw ?hc
  case hw => w_witness2
  case hc =>
    refine L2.walk_ofE (l := PySem.Challenge.rw_introducers_k36_whole_must_call) (n := 63) (k := 40) (x := "_law_script") (CX := L2.CX0) rfl (by decide) (by kernel_rfl) ⟨rfl, by decide, by decide⟩ ?F (fun _ _ _ _ z => z)
    intro w mg fa h Y G hmg0
    obtain ⟨K, KX, c⟩ := Y
    have hmg : mg ("law" : PySem.Str) = some (.ref fa) := by
      have e : (HandSHeadRun.topDef WK36.Rw.prog 44).name = ("law" : PySem.Str) := by kernel_rfl
      rw [← e]
      exact hmg0
    obtain ⟨fd, hb, hF⟩ := WK36.top_mk (P := (PySem.Challenge.rw_introducers_k36_whole_must_call).prog) (w := w) KX G hmg c
    exact ⟨K, fd, Ev.spF K ⟨Ev.callN WK36.T WK36.wh 40, WK36.wh⟩ 32 1, KX, hb, fun H a ns hl _ hS => Ev.sp_top hS (WK36.math ns hl), hF⟩
