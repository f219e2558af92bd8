import PyProof.Rows.All
import Wide.All
import OpenK.AllK
import Wide.FinOn
import HandS.ForExc
import HandS.Text
import KE.SortData
import HandS.Comp
import HandS.Dict
import HandS.Lambda
import KE.KDictKeyed
import PyProof.DictRoadsH
import HandS.Walk
import HandS.Zip
import HandS.Deep
import HandS.IsInst
import HandS.Flow
import HandS.Conv
import HandS.TupLe
import HandS.TupAny
import HandS.Set
import HandS.Strs
import HandS.SetFor
import HandS.AnyAll
import HandS.SortInts
import HandS.TryOnly
import HandS.ExcOwn
import HandS.ExcInit
import HandS.TupMul
import HandS.Style
import KE.GoesEnum
import PyProof.ConsumeS
import HandS.GenOver
import HandS.GenList
import KE.SortKeyHeap
import HandS.HeadHook4
import HandS.ExcIs
import HandS.ExcField
import KE.DataFind
import HandS.DictComp
import KE.KDictPairs
import HandS.HeadWalk
import HandS.WordsExc
import KE.LtData
import Wide.Seal
import KE.KStateDown
import Lean
import HandS.Head0
import HandS.Head1
import HandS.Head2
import HandS.HeadEnd
import PySem.Challenge.RW_maskpaint_k08_wits_refused
set_option Elab.async false
set_option linter.all false
set_option maxRecDepth 100000
set_option maxHeartbeats 200000
/-! Mp.Syn: data, store, a small language, its evaluator. -/
namespace Mp
open PySem

/-- data; a reference to a mutable object, a name of the module, a dict are told apart by their one entry -/
abbrev D := PyData
def lim : Nat := 16777216
abbrev oRef (l : Nat) : D := .dict [(.int (Int.ofNat l), .none)]
abbrev oFn (x : Str) : D := .dict [(.str x, .none)]
abbrev oScr (ns : List Int) : D := .dict [(.bool true, .list (ns.map .int))]
/-- a tuple whose object is known to be a plain one -/
abbrev oTup (ds : List D) : D := .dict [(.none, .tuple ds)]
/-- a mutable object -/
inductive M where
  | lst (ds : List D) | ins (cls : Str) (fs : List (Str × D)) | dead
abbrev Store := List M
abbrev EnvD := List (Option D)
structure Exc where
  cls : Str
  arg : Option (Str × D)
inductive R (α : Type) where
  | ok (a : α) (S : Store) | exc (x : Exc) (S : Store) | bad
def R.bind {α β : Type} (r : R α) (f : α → Store → R β) : R β := match r with
  | .ok a S => f a S
  | .exc x S => .exc x S
  | .bad => .bad
def opt {α : Type} (o : Option α) (S : Store) : R α := match o with
  | some a => .ok a S
  | none => .bad
/-- a list behind a reference, read -/
def rd (S : Store) (d : D) : D := match d with
  | .dict [(.int (.ofNat l), .none)] => (match S[l]? with
    | some (.lst ds) => .list ds
    | _ => d)
  | .dict [(.none, .tuple ds)] => .tuple ds
  | _ => d

inductive Op where | add | sub | mul | mod | fdiv | pow
inductive Cm where | lt | le | gt | ge | eq | ne | inn | nin | isN | ntN
inductive Ty where | int | bool | tuple | list | str
/-- built-ins by name -/
inductive Pr where
  | len | min2 | max2 | max1 | min1 | sum1 | sorted | tuple | int1 | str1 | lenSet | sortedSet | sortLen | maxDef | isi (ts : List Ty) | tupRng1 | tupRng2 | lrng1 (mu : Bool) | list1 (mu : Bool)
inductive Me where | append | pop | popAt | remove | index | count
inductive Tg where | nm (i : Nat) | t2 (a b : Tg) | t3 (a b c : Tg)

mutual
inductive HE where
  | con (d : D) | var (j : Nat) | add (a b : HE) | ite (c : HC) (a b : HE) | tup (es : HEs) | lst (es : HEs) | ix (a b : HE) | bidx (a b : HE) | bcnt (a b : HE) | isx (x : Str) | xfl (f : Str)
inductive HC where
  | ex (e : HE) | eq (a b : HE) | or (a b : HC)
inductive HEs where
  | nil | cons (e : HE) (es : HEs)
end
inductive HS where
  | ifr (c : HC) (e : HE) | set (j : Nat) (e : HE) | ret (e : HE)
/-- what the def does with the answer: it lets it go and tells a constant; it tells it; it tells it beside a constant -/
inductive WK where
  | drop (d : D) | ret | pair (d : D)
/-- the def: its name, its names (the first: the lambda's), the clause's name's place, its class, its suite -/
structure Wfn where
  x : Str
  N : List Str
  i : Nat
  kd : WK
  cl : Str
  hs : List HS
mutual
inductive E where
  | var (i : Nat) | con (d : D) | glo (x : Str) (d : D)
  | bin (o : Op) (a b : E) | neg (a : E)
  | cmp (o : Cm) (a b : E) | chain (o p : Cm) (a b c : E)
  | and (a b : E) | or (a b : E) | not (a : E) | ite (c a b : E)
  | tup (es : Es) | lst (mu : Bool) (es : Es)
  | ix (a b : E) | slL (a lo : E) | slH (a hi : E) | slB (a lo hi : E) | rev (a : E)
  | call (f : Nat) (es : Es) | prim (p : Pr) (es : Es) | meth (m : Me) (o : E) (es : Es)
  | comp (mu : Bool) (own : List Nat) (t : Tg) (it : It) (hasIf : Bool) (c e : E)
  | comp2 (mu : Bool) (own : List Nat) (t : Tg) (it : It) (hasIf : Bool) (c : E) (t' : Tg) (it' : It) (hasIf' : Bool) (c' e : E)
  | gen (all : Bool) (own : List Nat) (t : Tg) (it : It) (hasIf : Bool) (c e : E)
  | gen2 (all : Bool) (own : List Nat) (t : Tg) (it : It) (hasIf : Bool) (c : E) (t' : Tg) (it' : It) (hasIf' : Bool) (c' e : E)
  | frz (i : Nat) | edict | lamc (wk : Wfn) (xs : List Str) (e : E)
  | dcomp (own : List Nat) (t : Tg) (it : It) (k v : E) | dpairs (a : E) | dix (a b : E) | dgetD (a b c : E) | din (neg : Bool) (a b : E) | ktup (es : Es) | ktuple (a : E)
  | callv (fs : List Str) (i : Nat) (es : Es)
inductive Es where
  | nil | cons (e : E) (es : Es)
inductive It where
  | e (a : E) | r1 (a : E) | r2 (a b : E) | en (a : E) | zp (a b : E)
end
mutual
inductive S where
  | expr (e : E) | asg (t : Tg) (e : E) | par (ts : List Nat) (es : Es)
  | aug (i : Nat) (o : Op) (e : E) | setix (o i e : E) | augix (o i : E) (op : Op) (e : E)
  | ite (c : E) (a b : Ss) | for (t : Tg) (it : It) (b : Ss) | while (c : E) (b : Ss)
  | tryC (e : E) (b : Ss) (i : Nat) (c : Str) (xs : List Str) (k : Nat) (d : D)
  | nev | ret (e : E) | retN | brk | cont | pass | rais (cls : Str) (arg : Option (Str × E))
inductive Ss where
  | nil | cons (s : S) (ss : Ss)
end

/-! ### operations on data -/
def small (i : Int) : Bool := decide (-(2 ^ 64) < i) && decide (i < 2 ^ 64)
def fits (ds : List D) : Option (List D) := if ds.length ≤ lim then some ds else none
def opD (o : Op) (d e : D) : Option D := match o, d, e with
  | .add, .int i, .int j => some (.int (i + j))
  | .add, .str x, .str y => if x.length + y.length ≤ lim then some (.str (x ++ y)) else none
  | .add, .tuple xs, .tuple ys => if xs.length + ys.length ≤ lim then some (.tuple (xs ++ ys)) else none
  | .add, .list xs, .list ys => if xs.length + ys.length ≤ lim then some (.list (xs ++ ys)) else none
  | .sub, .int i, .int j => some (.int (i - j))
  | .mul, .int i, .int j => if small i || small j then some (.int (i * j)) else none
  | .mul, .tuple xs, .int k => if decide (1 ≤ k) && decide (k ≤ 1000) && decide (xs.length ≤ 1000) && !xs.isEmpty then some (.tuple (List.replicate k.toNat xs).flatten) else none
  | .mul, .list xs, .int k => if decide (0 ≤ k) && decide (k < 1000) && decide (xs.length * k.toNat ≤ lim) then some (.list (List.replicate k.toNat xs).flatten) else none
  | .mod, .int i, .int j => if 0 < j then some (.int (i % j)) else none
  | .fdiv, .int i, .int j => if decide (0 < j) && decide (j < 1073741824) then some (.int (i / j)) else none
  | .pow, .int i, .int j => if decide (0 ≤ j) && decide (j ≤ 1000000) && decide (i.natAbs < 2 ^ 64) then some (.int (i ^ j.toNat)) else none
  | _, _, _ => none
/-- plain data, compared by == -/
def eqD (d e : D) : Option Bool := if SeqAt.shaped d && SeqAt.shaped e then some (PyData.eqv d e) else none
def ltD (d e : D) : Option Bool := match d, e with
  | .int i, .int j => some (decide (i < j))
  | .tuple xs, .tuple ys => if SeqAt.shaped d && SeqAt.shaped e && PySem.W.alike d e then some (PySem.W.dataLt d e) else none
  | _, _ => none
def leD (d e : D) : Option Bool := match d, e with
  | .int i, .int j => some (decide (i ≤ j))
  | _, _ => none
def inD (d e : D) : Option Bool := match e with
  | .list ds => if SeqAt.shaped d && SeqAt.shaped e then some (ds.any fun z => PyData.eqv z d) else none
  | .tuple ds => if SeqAt.shaped d && SeqAt.shaped e then some (ds.any fun z => PyData.eqv z d) else none
  | _ => none
def isNone (d : D) : Bool := match d with
  | .none => true
  | _ => false
def gtD (d e : D) : Option Bool := match d, e with
  | .int i, .int j => some (decide (j < i))
  | _, _ => none
def isD (d e : D) : Option Bool := match e with
  | .none => some (isNone d)
  | _ => none
def ntD (d e : D) : Option Bool := match e with
  | .none => some (!isNone d)
  | _ => none
def cmpD (o : Cm) (d e : D) : Option Bool := match o with
  | .lt => ltD d e
  | .gt => gtD d e
  | .le => leD d e
  | .ge => leD e d
  | .eq => eqD d e
  | .ne => (eqD d e).map (!·)
  | .inn => inD d e
  | .nin => (inD d e).map (!·)
  | .isN => isD d e
  | .ntN => ntD d e
def truD (d : D) : Option Bool := match d with
  | .none => some false
  | .bool b => some b
  | .int i => some (i != 0)
  | .str x => if x.length ≤ lim then some (decide (x.length ≠ 0)) else none
  | .list ds => some (!ds.isEmpty)
  | .tuple ds => some (!ds.isEmpty)
  | _ => none
/-- a truth value itself -/
def boolD (d : D) : Option Bool := match d with
  | .bool b => some b
  | _ => none
def atD {α : Type} (xs : List α) (i : Int) : Option α := match i with
  | .ofNat n => xs[n]?
  | .negSucc n => if n < xs.length then xs[xs.length - 1 - n]? else none
def strAt (x : Str) (i : Int) : Option D := (atD x.cps.toList i).map fun c => .str ⟨#[c]⟩
def ixD (d i : D) : Option D := match d, i with
  | .list xs, .int k => atD xs k
  | .tuple xs, .int k => atD xs k
  | .dict [(.bool true, .list xs)], .int k => atD xs k
  | _, _ => none
def cutL {α : Type} (xs : List α) (lo hi : Option Int) : List α := (xs.drop (HT.sIx xs.length 0 lo)).take (HT.sIx xs.length xs.length hi - HT.sIx xs.length 0 lo)
def cutD (d : D) (lo hi : Option Int) : Option D := match d with
  | .list xs => some (.list (cutL xs lo hi))
  | .tuple xs => some (.tuple (cutL xs lo hi))
  | .str x => if x.length ≤ lim then some (.str (L2.cutS x lo hi)) else none
  | _ => none
def asInt (d : D) : Option Int := match d with
  | .int i => some i
  | _ => none
def asInts : List D → Option (List Int)
  | [] => some []
  | .int i :: r => (asInts r).map (i :: ·)
  | _ :: _ => none
def itemsOf (d : D) : Option (List D) := match d with
  | .list ds => some ds
  | .tuple ds => some ds
  | .dict [(.none, .tuple ds)] => some ds
  | _ => none
/-- insertion: ahead of all that are not less -/
def ins (lt : D → D → Bool) (x : D) : List D → List D
  | [] => [x]
  | y :: r => if lt y x then y :: ins lt x r else x :: y :: r
def isort (lt : D → D → Bool) : List D → List D
  | [] => []
  | x :: r => ins lt x (isort lt r)
def insI (x : Int) : List Int → List Int
  | [] => [x]
  | y :: r => if y < x then y :: insI x r else x :: y :: r
def sortI : List Int → List Int
  | [] => []
  | x :: r => insI x (sortI r)
def maxI : List Int → Option Int
  | [] => none
  | x :: r => some (r.foldl (fun a b => if b > a then b else a) x)
def minI : List Int → Option Int
  | [] => none
  | x :: r => some (r.foldl (fun a b => if b < a then b else a) x)
def dedupI : List Int → List Int
  | [] => []
  | x :: r => if r.contains x then dedupI r else x :: dedupI r
def tyD (t : Ty) (d : D) : Option Bool := match t, d with
  | _, .dict (_ :: _) => none
  | .int, .int _ => some true
  | .int, .bool _ => some true
  | .bool, .bool _ => some true
  | .tuple, .tuple _ => some true
  | .list, .list _ => some true
  | .str, .str _ => some true
  | _, _ => some false
def tysD : List Ty → D → Option Bool
  | [], _ => some false
  | t :: ts, d => (tyD t d).bind fun b => if b then some true else tysD ts d
def rngL (lo hi : Int) : List D := (List.range (hi - lo).toNat).map fun k => .int (lo + (k : Nat))
def inRng (i : Int) : Bool := decide (-(2 ^ 62) ≤ i) && decide (i < 2 ^ 62)
def tupleLt (d e : D) : Bool := PySem.W.dataLt d e
/-- sorted by (len, itself): tuples of ints -/
def lenLt (d e : D) : Bool := match d, e with
  | .tuple xs, .tuple ys => if xs.length = ys.length then (if PyData.eqv d e = true then false else PySem.W.dataLt d e) else decide (xs.length < ys.length)
  | _, _ => false
def allAlike (ds : List D) : Bool := ds.all fun d => ds.all fun e => PySem.W.alike d e
def fullTup (d : D) : Bool := match d with
  | .tuple (_ :: _) => true
  | _ => false
def fullInts (d : D) : Bool := match d with
  | .tuple (.int _ :: xs) => (asInts xs).isSome
  | _ => false
/-- ints; tuples of ints, none of them empty; alike tuples, none of them empty -/
def sortD (ds : List D) : Option (List D) := match asInts ds with
  | some ns => some ((sortI ns).map .int)
  | none => if ds.all fullInts then some (isort tupleLt ds) else if ds.all fullTup && ds.all SeqAt.shaped && allAlike ds then some (isort tupleLt ds) else none
def tupInts (d : D) : Bool := match d with
  | .tuple xs => (asInts xs).isSome
  | _ => false
def cat (a b : D) : Option D := match a, b with
  | .tuple xs, .tuple ys => some (.tuple (xs ++ ys))
  | _, _ => none
def lenD : List D → Option D
  | [.list ds] => some (.int ds.length)
  | [.tuple ds] => some (.int ds.length)
  | [.dict [(.bool true, .list ds)]] => some (.int ds.length)
  | [.str x] => if x.length ≤ lim then some (.int x.length) else none
  | _ => none
def min2D : List D → Option D
  | [.int i, .int j] => some (.int (if j < i then j else i))
  | _ => none
def max2D : List D → Option D
  | [.int i, .int j] => some (.int (if j > i then j else i))
  | _ => none
def max1D : List D → Option D
  | [.list ds] => ((asInts ds).bind maxI).map .int
  | _ => none
def min1D : List D → Option D
  | [.list ds] => ((asInts ds).bind minI).map .int
  | _ => none
def maxDefD : List D → Option D
  | [.tuple ds, .int k] => (asInts ds).map fun ns => .int ((maxI ns).getD k)
  | _ => none
def sum1D : List D → Option D
  | [.list ds] => (asInts ds).map fun ns => .int ns.sum
  | _ => none
def sortedD : List D → Option D
  | [.list ds] => if ds.length ≤ lim then (sortD ds).map .list else none
  | [.tuple ds] => if ds.length ≤ lim then (sortD ds).map .list else none
  | _ => none
def tupleD : List D → Option D
  | [.list ds] => some (.tuple ds)
  | [.tuple ds] => some (.tuple ds)
  | _ => none
def int1D : List D → Option D
  | [.int i] => some (.int i)
  | [.bool b] => some (.int (if b then 1 else 0))
  | _ => none
def str1D : List D → Option D
  | [.int i] => if i.natAbs.log2 < 1920 then some (.str (toString i)) else none
  | _ => none
def lenSetD : List D → Option D
  | [.list ds] => (asInts ds).bind fun ns => if ns.length < 4000 then some (.int (dedupI ns).length) else none
  | [.tuple ds] => (asInts ds).bind fun ns => if ns.length < 4000 then some (.int (dedupI ns).length) else none
  | _ => none
def sortedSetD : List D → Option D
  | [.list ds] => (asInts ds).bind fun ns => if ns.length < 4000 then some (.list ((sortI (dedupI ns)).map .int)) else none
  | [.tuple ds] => (asInts ds).bind fun ns => if ns.length < 4000 then some (.list ((sortI (dedupI ns)).map .int)) else none
  | _ => none
def sortLenD : List D → Option D
  | [.list ds] => if ds.all tupInts then some (.list (isort lenLt ds)) else none
  | _ => none
def isiD (ts : List Ty) : List D → Option D
  | [d] => (tysD ts d).map .bool
  | _ => none
def tupRng1D : List D → Option D
  | [.int n] => if inRng n && decide (n ≤ 100000) then some (.tuple (rngL 0 n)) else none
  | _ => none
def tupRng2D : List D → Option D
  | [.int m, .int n] => if inRng m && inRng n && decide (n - m ≤ 100000) then some (.tuple (rngL m n)) else none
  | _ => none
def lrng1D : List D → Option D
  | [.int n] => if inRng n && decide (n ≤ 100000) then some (.list (rngL 0 n)) else none
  | _ => none
def list1D : List D → Option D
  | [.list ds] => some (.list ds)
  | [.tuple ds] => some (.list ds)
  | _ => none
def primD (p : Pr) (as : List D) : Option D := match p with
  | .len => lenD as
  | .min2 => min2D as
  | .max2 => max2D as
  | .max1 => max1D as
  | .min1 => min1D as
  | .maxDef => maxDefD as
  | .sum1 => sum1D as
  | .sorted => sortedD as
  | .tuple => tupleD as
  | .int1 => int1D as
  | .str1 => str1D as
  | .lenSet => lenSetD as
  | .sortedSet => sortedSetD as
  | .sortLen => sortLenD as
  | .isi ts => isiD ts as
  | .tupRng1 => tupRng1D as
  | .tupRng2 => tupRng2D as
  | .lrng1 _ => lrng1D as
  | .list1 _ => list1D as
def Pr.mut : Pr → Bool
  | .lrng1 b => b
  | .list1 b => b
  | _ => false
/-- a fresh list, kept as data or as a mutable object -/
def give (mu : Bool) (ds : List D) (S : Store) : R D := if mu then .ok (oRef S.length) (S ++ [.lst ds]) else .ok (.list ds) S
def giveD (mu : Bool) (d : D) (S : Store) : R D := if mu then (match d with
  | .list ds => .ok (oRef S.length) (S ++ [.lst ds])
  | _ => .bad) else .ok d S
def isLst : D → Option Unit
  | .list _ => some ()
  | _ => none
def findI (k : Int) : List Int → Option Nat
  | [] => none
  | n :: r => if n = k then some 0 else (findI k r).map (· + 1)
mutual
/-- no reference to object n or a later one -/
def old (n : Nat) : D → Bool
  | .dict [(.int (Int.ofNat l), .none)] => decide (l < n)
  | .dict [(.str _, .none)] => true
  | .dict [(.bool _, _)] => true
  | .dict [] => true
  | .dict [(.none, .tuple ds)] => oldAll n ds
  | .dict _ => false
  | .list ds => oldAll n ds
  | .tuple ds => oldAll n ds
  | _ => true
def oldAll (n : Nat) : List D → Bool
  | [] => true
  | d :: ds => old n d && oldAll n ds
end
def methL (m : Me) (l : Nat) (ds as : List D) (S : Store) : R D := match m, as with
  | .append, [d] => if decide (ds.length < lim) && old l d then .ok .none (S.set l (.lst (ds ++ [d]))) else .bad
  | .pop, [] => (match ds[ds.length - 1]? with
    | some d => .ok d (S.set l (.lst ds.dropLast))
    | none => .bad)
  | .popAt, [.int (Int.ofNat i)] => if i < 1000000 then (match ds[i]? with
    | some d => .ok d (S.set l (.lst (ds.eraseIdx i)))
    | none => .bad) else .bad
  | .remove, [.int k] => (match asInts ds with
    | some ns => (match findI k ns with
      | some i => .ok .none (S.set l (.lst (ds.eraseIdx i)))
      | none => .bad)
    | none => .bad)
  | _, _ => .bad
def methD (m : Me) (o : D) (as : List D) (S : Store) : R D := match o with
  | .dict [(.int (.ofNat l), .none)] => (match S[l]? with
    | some (.lst ds) => methL m l ds as S
    | _ => .bad)
  | _ => .bad
def asg : Tg → D → EnvD → Option EnvD
  | .nm i, d, env => if i < env.length then some (env.set i (some d)) else none
  | .t2 a b, .tuple [x, y], env => (asg a x env).bind (asg b y)
  | .t3 a b c, .tuple [x, y, z], env => ((asg a x env).bind (asg b y)).bind (asg c z)
  | _, _, _ => none
def asgs : List Nat → List D → EnvD → Option EnvD
  | [], [], env => some env
  | i :: is, d :: ds, env => if i < env.length then asgs is ds (env.set i (some d)) else none
  | _, _, _ => none
def slots : Tg → List Nat
  | .nm i => [i]
  | .t2 a b => slots a ++ slots b
  | .t3 a b c => slots a ++ (slots b ++ slots c)
def wipe : EnvD → List Nat → EnvD
  | env, [] => env
  | env, i :: is => (wipe env is).set i none
/-- what is walked -/
inductive Itv where
  | items (ds : List D) | obj (l : Nat)
def pairs : Nat → List D → List D
  | _, [] => []
  | k, d :: r => .tuple [.int (k : Nat), d] :: pairs (k + 1) r
def zipD : List D → List D → List D
  | x :: xs, y :: ys => .tuple [x, y] :: zipD xs ys
  | _, _ => []
def zipO (x y : D) : Option (List D) := match x, y with
  | .list ds, .list es => some (zipD ds es)
  | .tuple ds, .tuple es => some (zipD ds es)
  | _, _ => none
def itv (d : D) (S : Store) : Option Itv := match d with
  | .list ds => some (.items ds)
  | .tuple ds => some (.items ds)
  | .str x => some (.items (x.cps.toList.map fun c => .str ⟨#[c]⟩))
  | .dict [(.none, .tuple ds)] => some (.items ds)
  | .dict [(.int (.ofNat l), .none)] => (match S[l]? with
    | some (.lst _) => some (.obj l)
    | _ => none)
  | _ => none
/-! ### dicts that are made and then read alone: keys are tuples -/
mutual
/-- ints, texts, None and tuples of such -/
def keyB : D → Bool
  | .int _ => true
  | .str _ => true
  | .none => true
  | .tuple ds => keyBs ds
  | _ => false
def keyBs : List D → Bool
  | [] => true
  | d :: ds => keyB d && keyBs ds
end
def keyT (d : D) : Bool := match d with
  | .tuple ds => keyBs ds && decide (d.depth ≤ 8)
  | _ => false
def atomB : D → Bool
  | .int _ => true
  | .bool _ => true
  | .none => true
  | .str _ => true
  | _ => false
def unP : List D → Option (List (D × D))
  | [] => some []
  | .tuple [k, v] :: r => if keyT k && atomB v then (unP r).map ((k, v) :: ·) else none
  | _ :: _ => none
def dget (kvs : List (D × D)) (k : D) : Option D := (kvs.find? fun p => PyData.eqv p.1 k).map (·.2)
def dput (kvs : List (D × D)) (k v : D) : List (D × D) := if kvs.any (fun p => PyData.eqv p.1 k) then kvs.map (fun p => if PyData.eqv p.1 k then (p.1, v) else p) else kvs ++ [(k, v)]
def dput' (kvs : List (D × D)) (p : D × D) : List (D × D) := dput kvs p.1 p.2
def dmerge (ps : List (D × D)) : List (D × D) := ps.foldl dput' []
def pairD (p : D × D) : D := .tuple [p.1, p.2]
abbrev dctD (kvs : List (D × D)) : D := .dict [(.bool false, .list (kvs.map pairD))]
def dkvs (d : D) : Option (List (D × D)) := match d with
  | .dict [(.bool false, .list ps)] => unP ps
  | _ => none
def mkDct (ps : List D) : Option D := if ps.length ≤ lim then (unP ps).map fun kvs => dctD (dmerge kvs) else none
def dixD (x y : D) : Option D := (dkvs x).bind fun kvs => if keyT y then dget kvs y else none
def dgetDD (x y z : D) : Option D := (dkvs x).bind fun kvs => if keyT y && atomB z then some ((dget kvs y).getD z) else none
def dinB (neg : Bool) (x y : D) : Option Bool := (dkvs y).bind fun kvs => if keyT x then some ((dget kvs x).isSome != neg) else none
/-- pairs of a list, or of a tuple that is known -/
def pairsOf (S : Store) (d : D) : Option (List D) := match d with
  | .dict [(.none, .tuple ds)] => some ds
  | d => (match rd S d with
    | .list ds => some ds
    | _ => none)
/-- number of a name -/
def idxS (x : Str) : List Str → Option Nat
  | [] => none
  | y :: r => if x = y then some 0 else (idxS x r).map (· + 1)
def fnOf (fs : List Str) (d : D) : Option Nat := match d with
  | .dict [(.str x, .none)] => idxS x fs
  | _ => none
/-- no exception -/
def noX {α : Type} (r : R α) : R α := match r with
  | .exc _ _ => .bad
  | r => r
/-! ### walks -/
def mapItems (turn : D → Store → R (List D)) : List D → Store → R (List D)
  | [], S => .ok [] S
  | d :: ds, S => (turn d S).bind fun x S1 => (mapItems turn ds S1).bind fun r S2 => .ok (x ++ r) S2
def mapObj (l : Nat) (turn : D → Store → R (List D)) : Nat → Nat → Store → R (List D)
  | 0, _, _ => .bad
  | f + 1, i, S => match S[l]? with
    | some (.lst ds) => (match ds[i]? with
      | none => .ok [] S
      | some d => (turn d S).bind fun x S1 => (mapObj l turn f (i + 1) S1).bind fun r S2 => .ok (x ++ r) S2)
    | _ => .bad
def mapItv (turn : D → Store → R (List D)) (v : Itv) (S : Store) : R (List D) := match v with
  | .items ds => mapItems turn ds S
  | .obj l => (match S[l]? with
    | some (.lst ds) => mapObj l turn (ds.length + 1) 0 S
    | _ => .bad)
/-- some true: it ends here -/
def anyItems (turn : D → Store → R Bool) : List D → Store → R Bool
  | [], S => .ok false S
  | d :: ds, S => (turn d S).bind fun b S1 => if b then .ok true S1 else anyItems turn ds S1
def anyObj (l : Nat) (turn : D → Store → R Bool) : Nat → Nat → Store → R Bool
  | 0, _, _ => .bad
  | f + 1, i, S => match S[l]? with
    | some (.lst ds) => (match ds[i]? with
      | none => .ok false S
      | some d => (turn d S).bind fun b S1 => if b then .ok true S1 else anyObj l turn f (i + 1) S1)
    | _ => .bad
def anyItv (turn : D → Store → R Bool) (v : Itv) (S : Store) : R Bool := match v with
  | .items ds => anyItems turn ds S
  | .obj l => (match S[l]? with
    | some (.lst ds) => anyObj l turn (ds.length + 1) 0 S
    | _ => .bad)
inductive Fl where
  | nx | brk | cont | ret (d : D)
def forItems (turn : D → EnvD → Store → R (Fl × EnvD)) : List D → EnvD → Store → R (Fl × EnvD)
  | [], env, S => .ok (.nx, env) S
  | d :: ds, env, S => (turn d env S).bind fun p S1 => match p.1 with
    | .nx => forItems turn ds p.2 S1
    | .cont => forItems turn ds p.2 S1
    | .brk => .ok (.nx, p.2) S1
    | .ret v => .ok (.ret v, p.2) S1
def forObj (l : Nat) (turn : D → EnvD → Store → R (Fl × EnvD)) : Nat → Nat → EnvD → Store → R (Fl × EnvD)
  | 0, _, _, _ => .bad
  | f + 1, i, env, S => match S[l]? with
    | some (.lst ds) => (match ds[i]? with
      | none => .ok (.nx, env) S
      | some d => (turn d env S).bind fun p S1 => match p.1 with
        | .nx => forObj l turn f (i + 1) p.2 S1
        | .cont => forObj l turn f (i + 1) p.2 S1
        | .brk => .ok (.nx, p.2) S1
        | .ret v => .ok (.ret v, p.2) S1)
    | _ => .bad
def forItv (turn : D → EnvD → Store → R (Fl × EnvD)) (v : Itv) (env : EnvD) (S : Store) : R (Fl × EnvD) := match v with
  | .items ds => forItems turn ds env S
  | .obj l => (match S[l]? with
    | some (.lst ds) => forObj l turn (ds.length + 1) 0 env S
    | _ => .bad)
def whileF (test : EnvD → Store → R Bool) (body : EnvD → Store → R (Fl × EnvD)) : Nat → EnvD → Store → R (Fl × EnvD)
  | 0, _, _ => .bad
  | f + 1, env, S => (test env S).bind fun b S1 => if b then (body env S1).bind fun p S2 => (match p.1 with
      | .nx => whileF test body f p.2 S2
      | .cont => whileF test body f p.2 S2
      | .brk => .ok (.nx, p.2) S2
      | .ret v => .ok (.ret v, p.2) S2) else .ok (.nx, env) S1

/-- which exceptions a clause takes -/
def catchB (x c : Str) : Bool := decide (c = "PaintError") || decide (x = c)
/-! ### a suite that tells exceptions apart -/
abbrev FH := EnvD → Store → Option D
abbrev FHT := EnvD → Store → Option Bool
abbrev FHA := EnvD → Store → Option (List D)
def varH (j : Nat) : FH := fun env _ => match env[j]? with
  | some (some d) => some d
  | _ => none
def binH (o : Op) (fa fb : FH) : FH := fun env S => (fa env S).bind fun x => (fb env S).bind fun y => opD o (rd S x) (rd S y)
def cmpH (o : Cm) (fa fb : FH) : FH := fun env S => (fa env S).bind fun x => (fb env S).bind fun y => (cmpD o (rd S x) (rd S y)).map .bool
def testH (f : FH) : FHT := fun env S => (f env S).bind fun x => truD (rd S x)
def orHT (fa fb : FHT) : FHT := fun env S => (fa env S).bind fun t => if t then some true else fb env S
def iteH (fc : FHT) (fa fb : FH) : FH := fun env S => (fc env S).bind fun t => if t then fa env S else fb env S
def consH (fa : FH) (fs : FHA) : FHA := fun env S => (fa env S).bind fun d => (fs env S).map (d :: ·)
def tupH (fs : FHA) : FH := fun env S => (fs env S).bind fun ds => (fits ds).map .tuple
def lstH (fs : FHA) : FH := fun env S => (fs env S).bind fun ds => (fits ds).map .list
def ixH (fa fb : FH) : FH := fun env S => (fa env S).bind fun x => (fb env S).bind fun y => ixD (rd S x) y
def asBools : List D → Option (List Bool)
  | [] => some []
  | .bool b :: r => (asBools r).map (b :: ·)
  | _ :: _ => none
def idxB (b : Bool) : List Bool → Option Nat
  | [] => none
  | c :: r => if c = b then some 0 else (idxB b r).map (· + 1)
def bidxD (o x : D) : Option D := match o, x with
  | .list ds, .bool b => if SeqAt.shaped o then (asBools ds).bind fun bs => (idxB b bs).map fun j => .int (j : Nat) else none
  | _, _ => none
def bcntD (o x : D) : Option D := match o, x with
  | .list ds, .bool b => if SeqAt.shaped o then (asBools ds).bind fun bs => some (.int (bs.countP fun y => y == b : Nat)) else none
  | _, _ => none
def bidxH (fa fb : FH) : FH := fun env S => (fa env S).bind fun x => (fb env S).bind fun y => bidxD x y
def bcntH (fa fb : FH) : FH := fun env S => (fa env S).bind fun x => (fb env S).bind fun y => bcntD x y
def isxH (q : Exc) (xs : List Str) (x : Str) : FH := fun _ _ => if xs.contains q.cls && xs.contains x then some (.bool (catchB q.cls x)) else none
def xflH (q : Exc) (xs : List Str) (f : Str) : FH := fun _ _ => if xs.contains q.cls then (match q.arg with
    | some (g, d) => if f = g then some d else none
    | none => none) else none
mutual
def evalHE (q : Exc) (xs : List Str) : HE → FH
  | .con d => fun _ _ => some d
  | .var j => varH j
  | .add a b => binH .add (evalHE q xs a) (evalHE q xs b)
  | .ite c a b => iteH (evalHC q xs c) (evalHE q xs a) (evalHE q xs b)
  | .tup es => tupH (evalHEs q xs es)
  | .lst es => lstH (evalHEs q xs es)
  | .ix a b => ixH (evalHE q xs a) (evalHE q xs b)
  | .bidx a b => bidxH (evalHE q xs a) (evalHE q xs b)
  | .bcnt a b => bcntH (evalHE q xs a) (evalHE q xs b)
  | .isx x => isxH q xs x
  | .xfl f => xflH q xs f
def evalHC (q : Exc) (xs : List Str) : HC → FHT
  | .ex e => testH (evalHE q xs e)
  | .eq a b => testH (cmpH .eq (evalHE q xs a) (evalHE q xs b))
  | .or a b => orHT (evalHC q xs a) (evalHC q xs b)
def evalHEs (q : Exc) (xs : List Str) : HEs → FHA
  | .nil => fun _ _ => some []
  | .cons e es => consH (evalHE q xs e) (evalHEs q xs es)
end
def setH (i j : Nat) (f g : FH) : FH := fun env S => (f env S).bind fun d => if decide (j < env.length) && decide (j ≠ i) then g (env.set j (some d)) S else none
def evalHS (i : Nat) (q : Exc) (xs : List Str) : List HS → FH
  | [] => fun _ _ => none
  | .ret e :: _ => evalHE q xs e
  | .ifr c e :: r => iteH (evalHC q xs c) (evalHE q xs e) (evalHS i q xs r)
  | .set j e :: r => setH i j (evalHE q xs e) (evalHS i q xs r)
def evalW (wk : Wfn) (xs : List Str) (r : R D) : R D := match r with
  | .ok d S1 => (match wk.kd with
    | .drop c => .ok c S1
    | .ret => .ok d S1
    | .pair c => .ok (.tuple [d, c]) S1)
  | .exc q S1 => if xs.contains q.cls && catchB q.cls wk.cl then opt (evalHS wk.i q xs wk.hs (List.replicate wk.N.length none) S1) S1 else .bad
  | .bad => .bad
/-! ### the evaluator -/
abbrev CallF := Nat → List D → Store → R D
mutual
def evalE (cal : CallF) : E → EnvD → Store → R D
  | .var i, env, S => (match env[i]? with
    | some (some d) => .ok d S
    | _ => .bad)
  | .con d, _, S => .ok d S
  | .glo _ d, _, S => .ok d S
  | .bin o a b, env, S => (evalE cal a env S).bind fun x S1 => (evalE cal b env S1).bind fun y S2 => opt (opD o (rd S2 x) (rd S2 y)) S2
  | .neg a, env, S => (evalE cal a env S).bind fun x S1 => opt ((asInt x).map fun i => .int (-i)) S1
  | .cmp o a b, env, S => (evalE cal a env S).bind fun x S1 => (evalE cal b env S1).bind fun y S2 => opt ((cmpD o (rd S2 x) (rd S2 y)).map .bool) S2
  | .chain o p a b c, env, S => (evalE cal a env S).bind fun x S1 => (evalE cal b env S1).bind fun y S2 => (opt (cmpD o (rd S2 x) (rd S2 y)) S2).bind fun t S2 =>
      if t then (evalE cal c env S2).bind fun z S3 => opt ((cmpD p (rd S3 y) (rd S3 z)).map .bool) S3 else .ok (.bool false) S2
  | .and a b, env, S => (evalE cal a env S).bind fun x S1 => (opt (truD (rd S1 x)) S1).bind fun t S1 => if t then evalE cal b env S1 else .ok x S1
  | .or a b, env, S => (evalE cal a env S).bind fun x S1 => (opt (truD (rd S1 x)) S1).bind fun t S1 => if t then .ok x S1 else evalE cal b env S1
  | .not a, env, S => (evalE cal a env S).bind fun x S1 => opt ((truD (rd S1 x)).map fun t => .bool (!t)) S1
  | .ite c a b, env, S => (evalE cal c env S).bind fun x S1 => (opt (truD (rd S1 x)) S1).bind fun t S1 => if t then evalE cal a env S1 else evalE cal b env S1
  | .tup es, env, S => (evalEs cal es env S).bind fun ds S1 => opt ((fits ds).map .tuple) S1
  | .lst mu es, env, S => (evalEs cal es env S).bind fun ds S1 => if ds.length ≤ lim then give mu ds S1 else .bad
  | .ix a b, env, S => (evalE cal a env S).bind fun x S1 => (evalE cal b env S1).bind fun y S2 => opt (ixD (rd S2 x) y) S2
  | .slL a lo, env, S => (evalE cal a env S).bind fun x S1 => (evalE cal lo env S1).bind fun y S2 => opt ((asInt y).bind fun i => cutD (rd S2 x) (some i) none) S2
  | .slH a hi, env, S => (evalE cal a env S).bind fun x S1 => (evalE cal hi env S1).bind fun y S2 => opt ((asInt y).bind fun i => cutD (rd S2 x) none (some i)) S2
  | .slB a lo hi, env, S => (evalE cal a env S).bind fun x S1 => (evalE cal lo env S1).bind fun y S2 => (opt (asInt y) S2).bind fun i S2 => (evalE cal hi env S2).bind fun z S3 =>
      opt ((asInt z).bind fun j => cutD (rd S3 x) (some i) (some j)) S3
  | .rev a, env, S => (evalE cal a env S).bind fun x S1 => opt (match rd S1 x with
      | .tuple ds => some (.tuple ds.reverse)
      | .list ds => some (.list ds.reverse)
      | _ => none) S1
  | .call f es, env, S => (evalEs cal es env S).bind fun ds S1 => cal f ds S1
  | .prim p es, env, S => (evalEs cal es env S).bind fun ds S1 => (opt (primD p (ds.map (rd S1))) S1).bind fun d S1 => giveD p.mut d S1
  | .meth m o es, env, S => (evalE cal o env S).bind fun x S1 => (opt (isLst (rd S1 x)) S1).bind fun _ S1 => (evalEs cal es env S1).bind fun ds S2 => methD m x ds S2
  | .comp mu own t it hi c e, env, S => (evalIt cal it env S).bind fun v S1 => (noX (mapItv (fun d S => (opt (asg t d (wipe env own)) S).bind fun en S =>
      (if hi then (evalE cal c en S).bind fun x S => opt (truD (rd S x)) S else .ok true S).bind fun b S =>
      if b then (evalE cal e en S).bind fun x S => .ok [x] S else .ok [] S) v S1)).bind fun ds S2 => if ds.length ≤ lim then give mu ds S2 else .bad
  | .comp2 mu own t it hi c t' it' hi' c' e, env, S => (evalIt cal it env S).bind fun v S1 => (noX (mapItv (fun d S => (opt (asg t d (wipe env own)) S).bind fun en S =>
      (if hi then (evalE cal c en S).bind fun x S => opt (truD (rd S x)) S else .ok true S).bind fun b S =>
      if b then (evalIt cal it' en S).bind fun v' S => mapItv (fun d S => (opt (asg t' d (wipe en (slots t'))) S).bind fun en' S =>
        (if hi' then (evalE cal c' en' S).bind fun x S => opt (truD (rd S x)) S else .ok true S).bind fun b S =>
        if b then (evalE cal e en' S).bind fun x S => .ok [x] S else .ok [] S) v' S else .ok [] S) v S1)).bind fun ds S2 => if ds.length ≤ lim then give mu ds S2 else .bad
  | .gen all own t it hi c e, env, S => (evalIt cal it env S).bind fun v S1 => (noX (anyItv (fun d S => (opt (asg t d (wipe env own)) S).bind fun en S =>
      (if hi then (evalE cal c en S).bind fun x S => opt (truD (rd S x)) S else .ok true S).bind fun b S =>
      if b then (evalE cal e en S).bind fun x S => opt ((boolD x).map fun t => t != all) S else .ok false S) v S1)).bind fun b S2 => .ok (.bool (b != all)) S2
  | .gen2 all own t it hi c t' it' hi' c' e, env, S => (evalIt cal it env S).bind fun v S1 => (noX (anyItv (fun d S => (opt (asg t d (wipe env own)) S).bind fun en S =>
      (if hi then (evalE cal c en S).bind fun x S => opt (truD (rd S x)) S else .ok true S).bind fun b S =>
      if b then (evalIt cal it' en S).bind fun v' S => anyItv (fun d S => (opt (asg t' d (wipe en (slots t'))) S).bind fun en' S =>
        (if hi' then (evalE cal c' en' S).bind fun x S => opt (truD (rd S x)) S else .ok true S).bind fun b S =>
        if b then (evalE cal e en' S).bind fun x S => opt ((boolD x).map fun t => t != all) S else .ok false S) v' S else .ok false S) v S1)).bind fun b S2 => .ok (.bool (b != all)) S2
  | .frz i, env, S => (match env[i]? with
    | some (some (.dict [(.int (.ofNat l), .none)])) => (match S[l]? with
      | some (.lst ds) => .ok (.list ds) (S.set l .dead)
      | _ => .bad)
    | _ => .bad)
  | .edict, _, S => .ok (.dict []) S
  | .lamc wk xs e, env, S => evalW wk xs (evalE cal e env S)
  | .dcomp own t it k m, env, S => (evalIt cal it env S).bind fun v S1 => (noX (mapItv (fun d S => (opt (asg t d (wipe env own)) S).bind fun en S =>
      (evalE cal k en S).bind fun x S => (evalE cal m en S).bind fun y S => .ok [.tuple [x, y]] S) v S1)).bind fun ps S2 => opt (mkDct ps) S2
  | .dpairs a, env, S => (evalE cal a env S).bind fun x S1 => opt ((pairsOf S1 x).bind mkDct) S1
  | .dix a b, env, S => (evalE cal a env S).bind fun x S1 => (evalE cal b env S1).bind fun y S2 => opt (dixD x y) S2
  | .dgetD a b c, env, S => (evalE cal a env S).bind fun x S1 => (opt (dkvs x) S1).bind fun _ S1 => (evalE cal b env S1).bind fun y S2 => (evalE cal c env S2).bind fun z S3 => opt (dgetDD x y z) S3
  | .din neg a b, env, S => (evalE cal a env S).bind fun x S1 => (evalE cal b env S1).bind fun y S2 => opt ((dinB neg x y).map .bool) S2
  | .ktup es, env, S => (evalEs cal es env S).bind fun ds S1 => opt ((fits ds).map oTup) S1
  | .ktuple a, env, S => (evalE cal a env S).bind fun x S1 => opt (match rd S1 x with
      | .list ds => some (oTup ds)
      | _ => none) S1
  | .callv fs i es, env, S => (match env[i]? with
    | some (some d) => (opt (fnOf fs d) S).bind fun f S => (evalEs cal es env S).bind fun ds S1 => cal f ds S1
    | _ => .bad)
def evalEs (cal : CallF) : Es → EnvD → Store → R (List D)
  | .nil, _, S => .ok [] S
  | .cons e es, env, S => (evalE cal e env S).bind fun d S1 => (evalEs cal es env S1).bind fun ds S2 => .ok (d :: ds) S2
def evalIt (cal : CallF) : It → EnvD → Store → R Itv
  | .e a, env, S => (evalE cal a env S).bind fun x S1 => opt (itv x S1) S1
  | .r1 a, env, S => (evalE cal a env S).bind fun x S1 => opt ((asInt x).bind fun i => if inRng i then some (.items (rngL 0 i)) else none) S1
  | .r2 a b, env, S => (evalE cal a env S).bind fun x S1 => (evalE cal b env S1).bind fun y S2 => opt ((asInt x).bind fun i => (asInt y).bind fun j => if inRng i && inRng j then some (.items (rngL i j)) else none) S2
  | .en a, env, S => (evalE cal a env S).bind fun x S1 => opt ((itemsOf x).map fun ds => .items (pairs 0 ds)) S1
  | .zp a b, env, S => (evalE cal a env S).bind fun x S1 => (evalE cal b env S1).bind fun y S2 => opt ((zipO x y).map .items) S2
end
/-- the clause's test, the turn of a comprehension, of any | all -/
def test (cal : CallF) (c : E) (env : EnvD) (S : Store) : R Bool := (evalE cal c env S).bind fun x S1 => opt (truD (rd S1 x)) S1
def augD (o : Op) (x y : D) : Option D := match o, x, y with
  | .add, .int i, .int j => some (.int (i + j))
  | .mul, .int i, .int j => if small i || small j then some (.int (i * j)) else none
  | .add, .str x, .str y => if x.length + y.length ≤ lim then some (.str (x ++ y)) else none
  | _, _, _ => none
def extD (o : Op) (l : Nat) (y : D) (S : Store) : Option Store := match o, S[l]?, rd S y with
  | .add, some (.lst ds), .list es => if decide (ds.length + es.length ≤ lim) && oldAll l es then some (S.set l (.lst (ds ++ es))) else none
  | _, _, _ => none
def ipD (o : Op) (x y : D) (S : Store) : R D := match x with
  | .dict [(.int (.ofNat l), .none)] => (opt (extD o l y S) S).bind fun S2 _ => .ok x S2
  | _ => opt (augD o x (rd S y)) S
def getL (d i : D) : Option D := match d, i with
  | .list xs, .int (.ofNat k) => xs[k]?
  | _, _ => none
def setD (o i v : D) (S : Store) : Option Store := match o, i with
  | .dict [(.int (.ofNat l), .none)], .int (Int.ofNat k) => (match S[l]? with
    | some (.lst ds) => if decide (k < ds.length) && old l v then some (S.set l (.lst (ds.set k v))) else none
    | _ => none)
  | _, _ => none
mutual
def evalS (cal : CallF) (lf : Nat) : S → EnvD → Store → R (Fl × EnvD)
  | .expr e, env, S => (evalE cal e env S).bind fun _ S1 => .ok (.nx, env) S1
  | .asg t e, env, S => (evalE cal e env S).bind fun d S1 => (opt (asg t d env) S1).bind fun en S1 => .ok (.nx, en) S1
  | .par ts es, env, S => (evalEs cal es env S).bind fun ds S1 => (opt (asgs ts ds env) S1).bind fun en S1 => .ok (.nx, en) S1
  | .aug i o e, env, S => (match env[i]? with
    | some (some x) => (evalE cal e env S).bind fun y S1 => (ipD o x y S1).bind fun d S2 => .ok (.nx, env.set i (some d)) S2
    | _ => .bad)
  | .setix o i e, env, S => (evalE cal e env S).bind fun v S1 => (evalE cal o env S1).bind fun ov S2 => (evalE cal i env S2).bind fun iv S3 => (opt (setD ov iv v S3) S3).bind fun S4 _ => .ok (.nx, env) S4
  | .augix o i op e, env, S => (evalE cal o env S).bind fun ov S1 => (evalE cal i env S1).bind fun iv S2 => (opt (getL (rd S2 ov) iv) S2).bind fun x S2 => (evalE cal e env S2).bind fun y S3 =>
      (ipD op x y S3).bind fun z S4 => (opt (setD ov iv z S4) S4).bind fun S5 _ => .ok (.nx, env) S5
  | .ite c a b, env, S => (test cal c env S).bind fun t S1 => if t then evalSs cal lf a env S1 else evalSs cal lf b env S1
  | .for t it b, env, S => (evalIt cal it env S).bind fun v S1 => forItv (fun d env S => (opt (asg t d env) S).bind fun en S => evalSs cal lf b en S) v env S1
  | .while c b, env, S => whileF (test cal c) (evalSs cal lf b) lf env S
  | .tryC e b i c xs k d, env, S => (match evalE cal e env S with
    | .ok _ S1 => noX (evalSs cal lf b env S1)
    | .exc q S1 => if xs.contains q.cls then (if catchB q.cls c then (if decide (k < env.length) && decide (k ≠ i) then .ok (.nx, (env.set i none).set k (some d)) S1 else .bad) else .exc q S1) else .bad
    | .bad => .bad)
  | .nev, _, _ => .bad
  | .ret e, env, S => (evalE cal e env S).bind fun d S1 => .ok (.ret d, env) S1
  | .retN, env, S => .ok (.ret .none, env) S
  | .brk, env, S => .ok (.brk, env) S
  | .cont, env, S => .ok (.cont, env) S
  | .pass, env, S => .ok (.nx, env) S
  | .rais c a, env, S => (match a with
    | none => .exc ⟨c, none⟩ S
    | some (f, e) => (evalE cal e env S).bind fun d S1 => .exc ⟨c, some (f, d)⟩ S1)
def evalSs (cal : CallF) (lf : Nat) : Ss → EnvD → Store → R (Fl × EnvD)
  | .nil, env, S => .ok (.nx, env) S
  | .cons s ss, env, S => (evalS cal lf s env S).bind fun p S1 => match p.1 with
    | .nx => evalSs cal lf ss p.2 S1
    | _ => .ok p S1
end
/-! ### defs -/
structure Fd where
  name : Str
  np : Nat
  names : List Str
  body : Ss
def leave (n : Nat) (r : R (Fl × EnvD)) : R D := match r with
  | .ok (.ret d, _) S => if old n d then .ok d (S.take n) else .bad
  | .ok (.nx, _) S => .ok .none (S.take n)
  | .ok _ _ => .bad
  | .exc x S => (match x.arg with
    | none => .exc x (S.take n)
    | some (_, d) => if old n d then .exc x (S.take n) else .bad)
  | .bad => .bad
def callN (G : List Fd) (lf : Nat) : Nat → CallF
  | 0, _, _, _ => .bad
  | n + 1, f, as, S => match G[f]? with
    | some fd => if as.length = fd.np then leave S.length (evalSs (callN G lf n) lf fd.body (as.map some ++ List.replicate (fd.names.length - fd.np) none) S) else .bad
    | none => .bad
end Mp
set_option maxHeartbeats 200000
/-! Mp.Ky: keys that are nested tuples; dicts with such keys. -/
namespace Mp
open PySem PySem.Spec PyProof.Rows L2
mutual
def kyOf : D → NestedKey
  | .int i => .num i
  | .str x => .text x
  | .tuple ds => .tup (kyOfs ds)
  | _ => .none
def kyOfs : List D → List NestedKey
  | [] => []
  | d :: ds => kyOf d :: kyOfs ds
end
mutual
theorem key_eqv : ∀ a b : D, keyB a = true → keyB b = true → PyData.eqv a b = NestedKey.beq (kyOf a) (kyOf b)
  | .none, .none, _, _ => rfl
  | .int i, .int j, _, _ => by
    show (i == j) = decide (i = j)
    rfl
  | .str x, .str y, _, _ => by
    show (x == y) = decide (x = y)
    by_cases h : x = y <;> simp [h]
  | .tuple xs, .tuple ys, h, k => by
    have e := key_eqvs xs ys h k
    simpa only [PyData.eqv, kyOf, NestedKey.beq] using e
  | .none, .int _, _, _ => rfl
  | .none, .str _, _, _ => rfl
  | .none, .tuple _, _, _ => rfl
  | .int _, .none, _, _ => rfl
  | .int _, .str _, _, _ => rfl
  | .int _, .tuple _, _, _ => rfl
  | .str _, .none, _, _ => rfl
  | .str _, .int _, _, _ => rfl
  | .str _, .tuple _, _, _ => rfl
  | .tuple _, .none, _, _ => rfl
  | .tuple _, .int _, _, _ => rfl
  | .tuple _, .str _, _, _ => rfl
  | .bool _, _, h, _ => by cases h
  | .list _, _, h, _ => by cases h
  | .dict _, _, h, _ => by cases h
  | .none, .bool _, _, h => by cases h
  | .none, .list _, _, h => by cases h
  | .none, .dict _, _, h => by cases h
  | .int _, .bool _, _, h => by cases h
  | .int _, .list _, _, h => by cases h
  | .int _, .dict _, _, h => by cases h
  | .str _, .bool _, _, h => by cases h
  | .str _, .list _, _, h => by cases h
  | .str _, .dict _, _, h => by cases h
  | .tuple _, .bool _, _, h => by cases h
  | .tuple _, .list _, _, h => by cases h
  | .tuple _, .dict _, _, h => by cases h
theorem key_eqvs : ∀ as bs : List D, keyBs as = true → keyBs bs = true → PyData.eqvAll as bs = NestedKey.beqAll (kyOfs as) (kyOfs bs)
  | [], [], _, _ => rfl
  | a :: as, b :: bs, h, k => by
    have h : (keyB a && keyBs as) = true := h
    have k : (keyB b && keyBs bs) = true := k
    rw [Bool.and_eq_true] at h k
    show (PyData.eqv a b && PyData.eqvAll as bs) = (NestedKey.beq (kyOf a) (kyOf b) && NestedKey.beqAll (kyOfs as) (kyOfs bs))
    rw [key_eqv a b h.1 k.1, key_eqvs as bs h.2 k.2]
  | [], _ :: _, _, _ => rfl
  | _ :: _, [], _, _ => rfl
end
mutual
theorem key_deep : ∀ a : D, (kyOf a).depth ≤ a.depth
  | .none => Nat.le_refl _
  | .int _ => Nat.le_refl _
  | .str _ => Nat.le_refl _
  | .bool _ => Nat.zero_le _
  | .list _ => Nat.zero_le _
  | .dict _ => Nat.zero_le _
  | .tuple xs => by
    have e := key_deeps xs
    simp only [kyOf, NestedKey.depth, PyData.depth]
    omega
theorem key_deeps : ∀ as : List D, NestedKey.depthAll (kyOfs as) ≤ PyData.depthAll as
  | [] => Nat.le_refl _
  | a :: as => by
    have e := key_deep a
    have f := key_deeps as
    simp only [kyOfs, NestedKey.depthAll, PyData.depthAll]
    omega
end
theorem keyT_parts {d : D} (h : keyT d = true) : ∃ ds, d = .tuple ds ∧ keyB d = true ∧ (kyOf d).depth ≤ 8 := by
  unfold keyT at h
  split at h
  · rename_i ds
    rw [Bool.and_eq_true, decide_eq_true_eq] at h
    exact ⟨ds, rfl, h.1, Nat.le_trans (key_deep _) h.2⟩
  · cases h
theorem key_same {a b : D} (h : keyT a = true) (k : keyT b = true) : PyData.eqv a b = decide (kyOf a = kyOf b) := by
  obtain ⟨_, _, h1, _⟩ := keyT_parts h
  obtain ⟨_, _, h2, _⟩ := keyT_parts k
  rw [key_eqv a b h1 h2, NestedKey.decide_eq]
/-! ### keys in the heap -/
mutual
def KyR (K : PySem.W.Frag) (Z : Hp) : D → V → Prop
  | .int i, v => v = .int i
  | .str x, v => v = .str x
  | .none, v => v = .non
  | .tuple ds, v => ∃ a xs, v = .ref a ∧ SqT K Z a xs ∧ KyRs K Z ds xs
  | _, _ => False
def KyRs (K : PySem.W.Frag) (Z : Hp) : List D → List V → Prop
  | [], vs => vs = []
  | d :: ds, vs => ∃ v r, vs = v :: r ∧ KyR K Z d v ∧ KyRs K Z ds r
end
theorem rdz {Z Z' : Hp} {a : Addr} {u : HO} (z : ∀ a o, Z a = some o → Z' a = some o) (h : Rd Z a u) : Rd Z' a u := by
  rcases h with h | ⟨o, h⟩
  · exact .inl (z _ _ h)
  · exact .inr ⟨o, z _ _ h⟩
theorem sqz {K : PySem.W.Frag} {Z Z' : Hp} {a : Addr} {xs : List V} (z : ∀ a o, Z a = some o → Z' a = some o) (h : SqT K Z a xs) : SqT K Z' a xs := by
  rcases h with h | h
  · exact .inl (rdz z h)
  · exact .inr h
section
variable {K : PySem.W.Frag} {Z Z' : Hp}
mutual
theorem KyR.le (z : ∀ a o, Z a = some o → Z' a = some o) : ∀ (d : D) (v : V), KyR K Z d v → KyR K Z' d v
  | .int _, _, h => by simpa only [KyR] using h
  | .str _, _, h => by simpa only [KyR] using h
  | .none, _, h => by simpa only [KyR] using h
  | .bool _, _, h => by simp only [KyR] at h
  | .list _, _, h => by simp only [KyR] at h
  | .dict _, _, h => by simp only [KyR] at h
  | .tuple ds, _, h => by
    simp only [KyR] at h ⊢
    obtain ⟨a, xs, h1, h2, h3⟩ := h
    exact ⟨a, xs, h1, sqz z h2, KyRs.le z ds xs h3⟩
theorem KyRs.le (z : ∀ a o, Z a = some o → Z' a = some o) : ∀ (ds : List D) (vs : List V), KyRs K Z ds vs → KyRs K Z' ds vs
  | [], _, h => by simpa only [KyRs] using h
  | d :: ds, _, h => by
    simp only [KyRs] at h ⊢
    obtain ⟨v, r, h1, h2, h3⟩ := h
    exact ⟨v, r, h1, KyR.le z d v h2, KyRs.le z ds r h3⟩
end
end
section
variable {X : Cx} {pins : List (Addr × Obj)} {σ : L2.St} {H : Hp} {s : Shared}
mutual
theorem KyR.is (I : Inv X pins σ H s) : ∀ (d : D) (v : V) (u : Value), KyR X.K H d v → RelV v u → NestedIs s.heap (kyOf d) u
  | .int i, _, _, h, r => by
    simp only [KyR] at h
    subst h
    obtain ⟨t, rfl⟩ := r
    exact .int i t
  | .str x, _, _, h, r => by
    simp only [KyR] at h
    subst h
    obtain ⟨t, rfl⟩ := r
    exact .text x t
  | .none, _, _, h, r => by
    simp only [KyR] at h
    subst h
    cases r
    exact .none
  | .bool _, _, _, h, _ => by simp only [KyR] at h
  | .list _, _, _, h, _ => by simp only [KyR] at h
  | .dict _, _, _, h, _ => by simp only [KyR] at h
  | .tuple ds, _, _, h, r => by
    simp only [KyR] at h
    obtain ⟨a, xs, rfl, h2, h3⟩ := h
    cases r
    obtain ⟨its, rv, ⟨o, ho, hc, n, hd⟩, _⟩ := I.tuple h2
    exact .tup ho hc hd (by simpa using KyRs.is I ds xs its h3 rv)
theorem KyRs.is (I : Inv X pins σ H s) : ∀ (ds : List D) (vs : List V) (us : List Value), KyRs X.K H ds vs → Vals vs us → NestedAll s.heap (kyOfs ds) us
  | [], _, _, h, r => by
    simp only [KyRs] at h
    subst h
    cases r
    exact .nil
  | d :: ds, _, _, h, r => by
    simp only [KyRs] at h
    obtain ⟨v, q, rfl, h2, h3⟩ := h
    cases r with
    | cons r1 r2 => exact .cons (KyR.is I d v _ h2 r1) (KyRs.is I ds q _ h3 r2)
end
theorem KyR.key (I : Inv X pins σ H s) {d : D} {b : Addr} (h : KyR X.K H d (.ref b)) (hk : keyT d = true) : (nestedKind X.prog X.w).is s.heap (kyOf d) b := by
  obtain ⟨_, _, _, h2⟩ := keyT_parts hk
  exact ⟨h.is I d _ _ rfl, h2⟩
end
/-! ### dicts -/
abbrev Ent := NestedKey × Addr × Value
def RawD (w : World) (h : Heap) (a : Addr) (xs : List Ent) : Prop := ∃ o es ep, h.get? a = some o ∧ o.ExactDict ∧ o.data = .dict es ep ∧ es.toList = xs.map fun x => (⟨x.1.hash w, .ref x.2.1, x.2.2⟩ : DictEntry)
def DctO (w : World) (a : Addr) (xs : List Ent) : HO := .ext fun h => RawD w h a xs
structure DFine (a : Addr) (xs : List Ent) : Prop where
  sys : (a == sysModules) = false
  len : xs.length ≤ sizeLine
  nd : (xs.map (·.1)).Nodup
theorem RawD.stay {w : World} {h h' : Heap} {a : Addr} {xs : List Ent} (r : RawD w h a xs) (k : ∀ o, h.get? a = some o → h'.get? a = some o) : RawD w h' a xs := by
  obtain ⟨o, es, ep, h1, h2⟩ := r
  exact ⟨o, es, ep, k o h1, h2⟩
theorem dctO_ok {P : Program} {w : World} {H : Hp} {h : Heap} {a : Addr} {xs : List Ent} (r : RawD w h a xs) : ObjOk P w H h a (DctO w a xs) := by
  obtain ⟨o, es, ep, q1, q2⟩ := id r
  exact ⟨r, ⟨o, q1⟩, fun g1 g2 k1 k => k1.stay k⟩
/-- some heap where it stands -/
theorem RawD.some (w : World) (a : Addr) (xs : List Ent) : ∃ h : Heap, RawD w h a xs := by
  let ob : Obj := { cls := .type "dict", data := .dict (xs.map fun x => (⟨x.1.hash w, .ref x.2.1, x.2.2⟩ : DictEntry)).toArray 0 }
  let h0 : Heap := { objs := Array.replicate a ob }
  have hz : h0.objs.size = a := by simp [h0]
  refine ⟨h0.push ob, ob, _, 0, ?_, ⟨rfl, rfl, rfl⟩, rfl, by simp⟩
  have e := Heap.get?_push_size h0 (o := ob) rfl
  rw [hz] at e
  exact e
theorem dctO_neC {w : World} {a P : Addr} {xs : List Ent} : (.ext fun h => PySem.W.CodeHd h a P) ≠ DctO w a xs := fun e => by
  obtain ⟨h, hr⟩ := RawD.some w a xs
  have e2 := congrFun (HO.ext.inj e) h
  obtain ⟨o, es, ep, q1, _, q2, _⟩ := id hr
  rw [← e2] at hr
  obtain ⟨o', vs, _, _, _, _, _, _, _, k1, _, k2, _⟩ := hr
  rw [q1] at k1
  cases k1
  rw [q2] at k2
  cases k2
theorem dctO_neL {w : World} {a : Addr} {q : Str} {xs : List Ent} : LamX.CodeO a q ≠ DctO w a xs := fun e => by
  obtain ⟨h, hr⟩ := RawD.some w a xs
  have e2 := congrFun (HO.ext.inj e) h
  obtain ⟨o, es, ep, q1, _, q2, _⟩ := id hr
  rw [← e2] at hr
  obtain ⟨o', vs, _, k1, k2, _⟩ := hr
  rw [q1] at k1
  cases k1
  rw [q2] at k2
  cases k2
def AtR : D → V → Prop
  | .int i, v => v = .int i
  | .bool b, v => v = .bl b
  | .none, v => v = .non
  | .str x, v => v = .str x
  | _, _ => False
def DRel1 (K : PySem.W.Frag) (Z : Hp) (x : Ent) (p : D) : Prop := ∃ k v, p = .tuple [k, v] ∧ keyT k = true ∧ atomB v = true ∧ x.1 = kyOf k ∧ KyR K Z k (.ref x.2.1) ∧ ∃ u, AtR v u ∧ RelV u x.2.2
abbrev DRel (K : PySem.W.Frag) (Z : Hp) : List Ent → List D → Prop := Paired (DRel1 K Z)
theorem DRel.le {K : PySem.W.Frag} {Z Z' : Hp} (z : ∀ a o, Z a = some o → Z' a = some o) {xs : List Ent} {ps : List D} (r : DRel K Z xs ps) : DRel K Z' xs ps := L2.Paired.mapP r fun x p ⟨k, v, h1, h2, h3, h4, h5, h6⟩ => ⟨k, v, h1, h2, h3, h4, h5.le z _ _, h6⟩
theorem DRel.unP {K : PySem.W.Frag} {Z : Hp} : ∀ {xs : List Ent} {ps : List D}, DRel K Z xs ps → ∃ kvs, Mp.unP ps = some kvs ∧ ps = kvs.map pairD
  | _, _, .nil => ⟨[], rfl, rfl⟩
  | _, _, .cons ⟨k, v, h1, h2, h3, _⟩ t => by
    obtain ⟨kvs, e1, e2⟩ := DRel.unP t
    subst h1
    refine ⟨(k, v) :: kvs, ?_, by rw [e2]; rfl⟩
    show (if (keyT k && atomB v) = true then (Mp.unP _).map ((k, v) :: ·) else none) = _
    rw [h2, h3, e1]
    rfl
theorem unP_pairs : ∀ {ps : List D} {kvs : List (D × D)}, Mp.unP ps = some kvs → ps = kvs.map pairD ∧ ∀ p ∈ kvs, keyT p.1 = true ∧ atomB p.2 = true
  | [], kvs, h => by
    cases h
    exact ⟨rfl, fun p hp => by cases hp⟩
  | .tuple [k, v] :: r, kvs, h => by
    have h : (if (keyT k && atomB v) = true then (Mp.unP r).map ((k, v) :: ·) else none) = some kvs := h
    split at h
    · rename_i hk
      rw [Bool.and_eq_true] at hk
      obtain ⟨q, h1, rfl⟩ := Option.map_eq_some_iff.mp h
      obtain ⟨e1, e2⟩ := unP_pairs h1
      refine ⟨by rw [e1]; rfl, fun p hp => ?_⟩
      rcases List.mem_cons.mp hp with rfl | hp
      · exact hk
      · exact e2 p hp
    · cases h
  | .none :: _, _, h => by cases h
  | .bool _ :: _, _, h => by cases h
  | .int _ :: _, _, h => by cases h
  | .str _ :: _, _, h => by cases h
  | .list _ :: _, _, h => by cases h
  | .dict _ :: _, _, h => by cases h
  | .tuple [] :: _, _, h => by cases h
  | .tuple [_] :: _, _, h => by cases h
  | .tuple (_ :: _ :: _ :: _) :: _, _, h => by cases h
/-- what a look finds -/
theorem DRel.look {K : PySem.W.Frag} {Z : Hp} {k : D} (hk : keyT k = true) : ∀ {xs : List Ent} {kvs : List (D × D)}, DRel K Z xs (kvs.map pairD) → match dget kvs k with
    | some v => ∃ q, atKey xs (kyOf k) = some q ∧ ∃ u, AtR v u ∧ RelV u q.2
    | none => atKey xs (kyOf k) = none
  | [], [], _ => rfl
  | x :: xs, p :: kvs, .cons h t => by
    obtain ⟨k', v, h1, h2, h3, h4, h5, h6⟩ := h
    obtain ⟨p1, p2⟩ := p
    simp only [pairD, PyData.tuple.injEq, List.cons.injEq, and_true] at h1
    obtain ⟨rfl, rfl⟩ := h1
    have ih := DRel.look hk t
    have e := key_same h2 hk
    have e1 : decide (x.1 = kyOf k) = PyData.eqv p1 k := by rw [h4, e]
    unfold dget atKey
    rw [List.find?_cons, List.find?_cons]
    cases hq : PyData.eqv p1 k with
    | true =>
      rw [e1, hq]
      exact ⟨x.2, rfl, h6⟩
    | false =>
      rw [e1, hq]
      exact ih
theorem DRel.put {K : PySem.W.Frag} {Z : Hp} {k v : D} {b : Addr} {u : V} {r : Value} (hk : keyT k = true) (hv : atomB v = true) (hb : KyR K Z k (.ref b)) (hu : AtR v u) (hr : RelV u r) {xs : List Ent} {kvs : List (D × D)} (h : DRel K Z xs (kvs.map pairD)) : DRel K Z (storedH xs (kyOf k) b r) ((dput kvs k v).map pairD) := by
  have hl := h.look hk
  have e0 : (kvs.any fun p => PyData.eqv p.1 k) = (dget kvs k).isSome := by
    unfold dget
    rw [Option.isSome_map, List.isSome_find?]
  have e1 : (atKey xs (kyOf k)).isSome = (dget kvs k).isSome := by
    cases hd : dget kvs k with
    | none =>
      rw [hd] at hl
      rw [hl]
      rfl
    | some w =>
      rw [hd] at hl
      obtain ⟨q, h1, _⟩ := hl
      rw [h1]
      rfl
  unfold storedH dput
  rw [e0, e1]
  by_cases hs : (dget kvs k).isSome = true
  · rw [if_pos hs, if_pos hs]
    clear hl e0 e1 hs
    induction kvs generalizing xs with
    | nil =>
      cases h
      exact .nil
    | cons p kvs ih =>
      cases h with
      | @cons x _ xs' _ h t =>
        obtain ⟨k', v', h1, h2, h3, h4, h5, h6⟩ := h
        obtain ⟨p1, p2⟩ := p
        simp only [pairD, PyData.tuple.injEq, List.cons.injEq, and_true] at h1
        obtain ⟨rfl, rfl⟩ := h1
        have e := key_same h2 hk
        refine .cons ?_ (ih t)
        unfold putAt
        by_cases hq : x.1 = kyOf k
        · have hq' : PyData.eqv p1 k = true := by rw [e, ← h4]; exact decide_eq_true hq
          rw [if_pos hq]
          show DRel1 K Z _ (pairD (if PyData.eqv p1 k = true then (p1, v) else (p1, p2)))
          rw [if_pos hq']
          exact ⟨p1, v, rfl, h2, hv, h4, h5, u, hu, hr⟩
        · have hq' : ¬ PyData.eqv p1 k = true := by rw [e, ← h4]; simpa using hq
          rw [if_neg hq]
          show DRel1 K Z _ (pairD (if PyData.eqv p1 k = true then (p1, v) else (p1, p2)))
          rw [if_neg hq']
          exact ⟨p1, p2, rfl, h2, h3, h4, h5, h6⟩
  · rw [if_neg hs, if_neg hs, List.map_append]
    exact h.snoc ⟨k, v, rfl, hk, hv, rfl, hb, u, hu, hr⟩
section
variable {X : Cx} {pins : List (Addr × Obj)} {σ : L2.St} {H : Hp} {s : Shared} {a : Addr} {xs : List Ent} {ps : List D}
theorem DRel.keys (I : Inv X pins σ H s) : ∀ {xs : List Ent} {ps : List D}, DRel X.K H xs ps → ∀ x ∈ xs, (nestedKind X.prog X.w).is s.heap x.1 x.2.1
  | _, _, .nil, x, hx => by cases hx
  | _, _, .cons ⟨k, v, _, h2, _, h4, h5, _⟩ t, x, hx => by
    rcases List.mem_cons.mp hx with rfl | hx
    · rw [h4]
      exact KyR.key I h5 h2
    · exact DRel.keys I t x hx
theorem dict_of (I : Inv X pins σ H s) (h : H a = some (DctO X.w a xs)) (f : DFine a xs) (r : DRel X.K H xs ps) : s.heap.DictOfH (nestedKind X.prog X.w) a xs := by
  obtain ⟨⟨o, es, ep, h1, h2, h3, h4⟩, _, _⟩ := I.hok a _ h
  exact ⟨o, es, ep, h1, h2, h3, h4, r.keys I, f.nd⟩
theorem raw_of {P : Program} {w : World} {h : Heap} {a : Addr} {xs : List Ent} (x : h.DictOfH (nestedKind P w) a xs) : RawD w h a xs ∧ (xs.map (·.1)).Nodup := by
  obtain ⟨o, es, ep, h1, h2, h3, h4, h5, h6⟩ := x
  exact ⟨⟨o, es, ep, h1, h2, h3, h4⟩, h6⟩
end
end Mp
set_option maxHeartbeats 200000
/-! Mp.Rel: what stands for what. -/
namespace Mp
open PySem PySem.Spec PyProof.Rows L2

/-- the code object at c, its table at P -/
def CodeX (c P : Addr) : HO := .ext fun h => PySem.W.CodeHd h c P
/-- a code object's table: of generator expressions; of such ones that hold generator expressions; of a generator expression itself; of lambdas of a name -/
inductive TK where
  | gen | nest (B : List Addr) | dyn (c : Addr) | lam (q : Str)
/-- what stays through a run: the written part, the module's names, the tables of code objects -/
structure Wd where
  K : PySem.W.Frag
  mg : Str → Option Value
  T : List (Addr × TK)
  w : World
def TabG (H : Hp) (P : Addr) : Prop := ∃ ps : Array Value, H P = some (.tbl ps) ∧ TriplesOk ps.toList
def CodeAt (B : List Addr) (H : Hp) (cv : Value) : Prop := ∃ c P, cv = .ref c ∧ P ∉ B ∧ H c = some (CodeX c P) ∧ TabG H P
def TabK (H : Hp) (p : Addr × TK) : Prop := match p.2 with
  | .gen => TabG H p.1
  | .nest B => ∃ ps : Array Value, H p.1 = some (.tbl ps) ∧ TriplesOk ps.toList ∧ ∀ (pos : Pos) (cv : Value), codeAmong pos ps.toList = some cv → CodeAt B H cv
  | .dyn c => H c = some (CodeX c p.1) ∧ TabG H p.1
  | .lam q => LamX.TabS H p.1 q
def TabsK (T : List (Addr × TK)) (H : Hp) : Prop := ∀ p ∈ T, TabK H p
theorem CodeAt.keep {B : List Addr} {H H' : Hp} {cv : Value} (h : CodeAt B H cv) (e : ∀ b o, H b = some o → ((∃ ps, o = .tbl ps) ∨ ∃ φ, o = .ext φ) → H' b = some o) : CodeAt B H' cv := by
  obtain ⟨c, P, rfl, hB, h1, ps, h2, h3⟩ := h
  exact ⟨c, P, rfl, hB, e _ _ h1 (.inr ⟨_, rfl⟩), ps, e _ _ h2 (.inl ⟨_, rfl⟩), h3⟩
theorem TabK.keep {H H' : Hp} {p : Addr × TK} (h : TabK H p) (e : ∀ b o, H b = some o → ((∃ ps, o = .tbl ps) ∨ ∃ φ, o = .ext φ) → H' b = some o) : TabK H' p := by
  obtain ⟨P, k⟩ := p
  cases k with
  | gen =>
    obtain ⟨ps, h1, h2⟩ := h
    exact ⟨ps, e _ _ h1 (.inl ⟨_, rfl⟩), h2⟩
  | nest B =>
    obtain ⟨ps, h1, h2, h3⟩ := h
    exact ⟨ps, e _ _ h1 (.inl ⟨_, rfl⟩), h2, fun pos cv hc => (h3 pos cv hc).keep e⟩
  | dyn c =>
    obtain ⟨h0, ps, h1, h2⟩ := h
    exact ⟨e _ _ h0 (.inr ⟨_, rfl⟩), ps, e _ _ h1 (.inl ⟨_, rfl⟩), h2⟩
  | lam q =>
    obtain ⟨ps, h1, h2, h3⟩ := h
    refine ⟨ps, e _ _ h1 (.inl ⟨_, rfl⟩), h2, fun pos cv hc => ?_⟩
    obtain ⟨c, e1, e2⟩ := h3 pos cv hc
    exact ⟨c, e1, e _ _ e2 (.inr ⟨_, rfl⟩)⟩

mutual
inductive Rp (G : Wd) (Z : Hp) (A : List Addr) : V → D → Prop
  | non : Rp G Z A .non .none
  | bl (b : Bool) : Rp G Z A (.bl b) (.bool b)
  | int (i : Int) : Rp G Z A (.int i) (.int i)
  | str (x : Str) : Rp G Z A (.str x) (.str x)
  | lst {a : Addr} {xs : List V} {ds : List D} : Z a = some (.lst xs) → RpAll G Z A xs ds → Rp G Z A (.ref a) (.list ds)
  | tup {a : Addr} {xs : List V} {ds : List D} : SqT G.K Z a xs → RpAll G Z A xs ds → Rp G Z A (.ref a) (.tuple ds)
  | obj {a : Addr} {l : Nat} : A[l]? = some a → Rp G Z A (.ref a) (.dict [(.int (.ofNat l), .none)])
  | fn {f : Addr} {x : Str} : G.mg x = some (.ref f) → Rp G Z A (.ref f) (.dict [(.str x, .none)])
  | edc {a : Addr} : Z a = some (.dK []) → Rp G Z A (.ref a) (.dict [])
  | dct {a : Addr} {xs : List Ent} {ps : List D} : Z a = some (DctO G.w a xs) → DFine a xs → DRel G.K Z xs ps → Rp G Z A (.ref a) (.dict [(.bool false, .list ps)])
  | ktu {a : Addr} {o : Obj} {xs : List V} {ds : List D} : Z a = some (.frz o (.tup xs)) → o.dict = none → RpAll G Z A xs ds → Rp G Z A (.ref a) (.dict [(.none, .tuple ds)])
  | scr {a : Addr} {ns : List Int} : SqL G.K Z a (ns.map V.int) → Rp G Z A (.ref a) (.dict [(.bool true, .list (ns.map .int))])
inductive RpAll (G : Wd) (Z : Hp) (A : List Addr) : List V → List D → Prop
  | nil : RpAll G Z A [] []
  | cons {v : V} {vs : List V} {d : D} {ds : List D} : Rp G Z A v d → RpAll G Z A vs ds → RpAll G Z A (v :: vs) (d :: ds)
end
/-- more is frozen, more objects -/
structure Le (Z : Hp) (A : List Addr) (Z' : Hp) (A' : List Addr) : Prop where
  z : ∀ a o, Z a = some o → Z' a = some o
  ap : ∃ B, A' = A ++ B
section
variable {G : Wd} {Z Z' Z'' H H' : Hp} {A A' A'' : List Addr} {v : V} {vs ws : List V} {d : D} {ds es : List D}
theorem Le.refl : Le Z A Z A := ⟨fun _ _ e => e, [], by simp⟩
theorem Le.trans (x : Le Z A Z' A') (y : Le Z' A' Z'' A'') : Le Z A Z'' A'' := ⟨fun a o e => y.z a o (x.z a o e), by
  obtain ⟨B, rfl⟩ := x.ap
  obtain ⟨C, rfl⟩ := y.ap
  exact ⟨B ++ C, by rw [List.append_assoc]⟩⟩
theorem Le.at_ (x : Le Z A Z' A') {l : Nat} {a : Addr} (h : A[l]? = some a) : A'[l]? = some a := by
  obtain ⟨B, rfl⟩ := x.ap
  rw [List.getElem?_append_left (List.getElem?_eq_some_iff.mp h).1]
  exact h
theorem Le.take (x : Le Z A Z' A') {l : Nat} {a : Addr} (h : A[l]? = some a) : Le Z (A.take l) Z' (A'.take l) := ⟨x.z, [], by
  obtain ⟨B, rfl⟩ := x.ap
  rw [List.append_nil, List.take_append_of_le_length (Nat.le_of_lt (List.getElem?_eq_some_iff.mp h).1)]⟩
theorem Le.cut {l : Nat} : Le Z (A.take l) Z A := ⟨fun _ _ e => e, A.drop l, (List.take_append_drop l A).symm⟩
theorem rd_le {K : PySem.W.Frag} {a : Addr} {u : HO} (z : ∀ a o, Z a = some o → Z' a = some o) (h : Rd Z a u) : Rd Z' a u := by
  rcases h with h | ⟨o, h⟩
  · exact .inl (z _ _ h)
  · exact .inr ⟨o, z _ _ h⟩
theorem sqL_le {K : PySem.W.Frag} {a : Addr} {xs : List V} (z : ∀ a o, Z a = some o → Z' a = some o) (h : SqL K Z a xs) : SqL K Z' a xs := by
  rcases h with h | h
  · exact .inl (rd_le (K := K) z h)
  · exact .inr h
theorem sqT_le {K : PySem.W.Frag} {a : Addr} {xs : List V} (z : ∀ a o, Z a = some o → Z' a = some o) (h : SqT K Z a xs) : SqT K Z' a xs := by
  rcases h with h | h
  · exact .inl (rd_le (K := K) z h)
  · exact .inr h
mutual
theorem Rp.le0 (x : Le Z A Z' A') : ∀ {d : D} {v : V}, Rp G Z A v d → Rp G Z' A' v d
  | _, _, .non => .non
  | _, _, .bl b => .bl b
  | _, _, .int i => .int i
  | _, _, .str s => .str s
  | _, _, .lst h1 h2 => .lst (x.z _ _ h1) (RpAll.le0 x h2)
  | _, _, .tup h1 h2 => .tup (sqT_le x.z h1) (RpAll.le0 x h2)
  | _, _, .obj h1 => .obj (x.at_ h1)
  | _, _, .fn h1 => .fn h1
  | _, _, .edc h1 => .edc (x.z _ _ h1)
  | _, _, .dct h1 hf h2 => .dct (x.z _ _ h1) hf (h2.le x.z)
  | _, _, .ktu h1 h2 h3 => .ktu (x.z _ _ h1) h2 (RpAll.le0 x h3)
  | _, _, .scr h1 => .scr (sqL_le x.z h1)
theorem RpAll.le0 (x : Le Z A Z' A') : ∀ {ds : List D} {vs : List V}, RpAll G Z A vs ds → RpAll G Z' A' vs ds
  | _, _, .nil => .nil
  | _, _, .cons h1 h2 => .cons (Rp.le0 x h1) (RpAll.le0 x h2)
end
theorem Rp.le (x : Le Z A Z' A') (d : D) (v : V) (h : Rp G Z A v d) : Rp G Z' A' v d := Rp.le0 x h
theorem RpAll.le (x : Le Z A Z' A') (ds : List D) (vs : List V) (h : RpAll G Z A vs ds) : RpAll G Z' A' vs ds := RpAll.le0 x h
theorem Rp.mono (h : Rp G Z A v d) (x : Le Z A Z' A') : Rp G Z' A' v d := Rp.le x d v h
theorem RpAll.mono (h : RpAll G Z A vs ds) (x : Le Z A Z' A') : RpAll G Z' A' vs ds := RpAll.le x ds vs h
theorem RpAll.length : ∀ {ds : List D} {vs : List V}, RpAll G Z A vs ds → vs.length = ds.length
  | [], _, h => by cases h; rfl
  | d :: ds, _, h => by
    cases h with
    | cons h1 h2 => simp only [List.length_cons, RpAll.length h2]
theorem RpAll.app : ∀ {ds es : List D} {vs ws : List V}, RpAll G Z A vs ds → RpAll G Z A ws es → RpAll G Z A (vs ++ ws) (ds ++ es)
  | [], _, _, _, h, k => by cases h; exact k
  | d :: ds, _, _, _, h, k => by
    cases h with
    | cons h1 h2 => exact .cons h1 (RpAll.app h2 k)
theorem RpAll.get : ∀ {ds : List D} {vs : List V} {i : Nat} {d : D}, RpAll G Z A vs ds → ds[i]? = some d → ∃ v, vs[i]? = some v ∧ Rp G Z A v d
  | [], _, _, _, _, e => by simp at e
  | x :: ds, _, 0, d, h, e => by
    cases h with
    | cons h1 h2 =>
      simp at e
      subst e
      exact ⟨_, rfl, h1⟩
  | x :: ds, _, i + 1, d, h, e => by
    cases h with
    | cons h1 h2 =>
      obtain ⟨v, a, b⟩ := RpAll.get (i := i) h2 (by simpa using e)
      exact ⟨v, by simpa using a, b⟩
theorem RpAll.getV : ∀ {ds : List D} {vs : List V} {i : Nat} {v : V}, RpAll G Z A vs ds → vs[i]? = some v → ∃ d, ds[i]? = some d ∧ Rp G Z A v d
  | [], _, _, _, h, e => by cases h; simp at e
  | x :: ds, _, 0, v, h, e => by
    cases h with
    | cons h1 h2 =>
      simp at e
      subst e
      exact ⟨_, rfl, h1⟩
  | x :: ds, _, i + 1, v, h, e => by
    cases h with
    | cons h1 h2 =>
      obtain ⟨d, a, b⟩ := RpAll.getV (i := i) h2 (by simpa using e)
      exact ⟨d, by simpa using a, b⟩
theorem RpAll.take : ∀ (n : Nat) {ds : List D} {vs : List V}, RpAll G Z A vs ds → RpAll G Z A (vs.take n) (ds.take n)
  | 0, _, _, _ => .nil
  | n + 1, [], _, h => by cases h; exact .nil
  | n + 1, d :: ds, _, h => by
    cases h with
    | cons h1 h2 => exact .cons h1 (RpAll.take n h2)
theorem RpAll.drop : ∀ (n : Nat) {ds : List D} {vs : List V}, RpAll G Z A vs ds → RpAll G Z A (vs.drop n) (ds.drop n)
  | 0, _, _, h => h
  | n + 1, [], _, h => by cases h; exact .nil
  | n + 1, d :: ds, _, h => by
    cases h with
    | cons h1 h2 => exact RpAll.drop n h2
theorem RpAll.set : ∀ (i : Nat) {ds : List D} {vs : List V} {v : V} {d : D}, RpAll G Z A vs ds → Rp G Z A v d → RpAll G Z A (vs.set i v) (ds.set i d)
  | _, [], _, _, _, h, _ => by cases h; exact .nil
  | 0, d :: ds, _, _, _, h, r => by
    cases h with
    | cons h1 h2 => exact .cons r h2
  | i + 1, d :: ds, _, _, _, h, r => by
    cases h with
    | cons h1 h2 => exact .cons h1 (RpAll.set i h2 r)
theorem RpAll.eraseIdx : ∀ (i : Nat) {ds : List D} {vs : List V}, RpAll G Z A vs ds → RpAll G Z A (vs.eraseIdx i) (ds.eraseIdx i)
  | _, [], _, h => by cases h; exact .nil
  | 0, d :: ds, _, h => by
    cases h with
    | cons h1 h2 => exact h2
  | i + 1, d :: ds, _, h => by
    cases h with
    | cons h1 h2 => exact .cons h1 (RpAll.eraseIdx i h2)
theorem RpAll.one {v : V} {d : D} (h : Rp G Z A v d) : RpAll G Z A [v] [d] := .cons h .nil
theorem RpAll.dropLast : ∀ {ds : List D} {vs : List V}, RpAll G Z A vs ds → RpAll G Z A vs.dropLast ds.dropLast := fun {ds vs} h => by
  rw [List.dropLast_eq_take, List.dropLast_eq_take, h.length]
  exact h.take _
theorem RpAll.rev : ∀ {ds : List D} {vs : List V}, RpAll G Z A vs ds → RpAll G Z A vs.reverse ds.reverse
  | [], _, h => by cases h; exact .nil
  | d :: ds, _, h => by
    cases h with
    | cons h1 h2 =>
      rw [List.reverse_cons, List.reverse_cons]
      exact RpAll.app (RpAll.rev h2) (.one h1)
end

/-! ### the store -/
def FieldsR (G : Wd) (Z : Hp) (A : List Addr) : List (Str × V) → List (Str × D) → Prop
  | [], [] => True
  | (f, v) :: r, (g, d) :: q => f = g ∧ Rp G Z A v d ∧ FieldsR G Z A r q
  | _, _ => False
def MOk (G : Wd) (Z : Hp) (A : List Addr) (H : Hp) (a : Addr) : M → Prop
  | .lst ds => Z a = none ∧ ∃ vs, H a = some (.lst vs) ∧ RpAll G Z A vs ds
  | .ins c fs => Z a = none ∧ ∃ C dx gs, H a = some (.ins C dx gs) ∧ G.mg c = some (.ref C) ∧ FieldsR G Z A gs fs
  | .dead => ∃ vs, H a = some (.lst vs)
structure Rel (G : Wd) (Z : Hp) (A : List Addr) (S : Store) (H : Hp) : Prop where
  sub : ∀ a o, Z a = some o → H a = some o
  len : A.length = S.length
  nd : A.Nodup
  at_ : ∀ (l : Nat) (a : Addr) (m : M), A[l]? = some a → S[l]? = some m → MOk G Z (A.take l) H a m
  tabs : TabsK G.T H
  zt : ∀ a ps, Z a ≠ some (.tbl ps)
/-- what comes later: Z, A grow; what is no mutable object of ours and no table stays -/
structure Fut (H Z : Hp) (A : List Addr) (H' Z' : Hp) (A' : List Addr) : Prop where
  fr : ∀ a o, H a = some o → a ∉ A → (∀ ps, o ≠ .tbl ps) → H' a = some o
  th : ∀ a o, H a = some o → ∃ o', H' a = some o'
  z : ∀ a o, Z a = some o → Z' a = some o
  zn : ∀ a o, Z' a = some o → (∃ o', Z a = some o') ∨ H a = none ∨ a ∈ A
  ap : ∃ B, A' = A ++ B
  an : ∀ a, a ∈ A' → a ∈ A ∨ H a = none
  tb : ∀ a, TabG H a → TabG H' a
section
variable {G : Wd} {Z Z' Z'' H H' H'' : Hp} {A A' A'' : List Addr} {S S' : Store}
theorem Fut.le (f : Fut H Z A H' Z' A') : Le Z A Z' A' := ⟨f.z, f.ap⟩
theorem Fut.refl : Fut H Z A H Z A := ⟨fun _ _ e _ _ => e, fun _ o e => ⟨o, e⟩, fun _ _ e => e, fun _ o e => .inl ⟨o, e⟩, ⟨[], by simp⟩, fun _ h => .inl h, fun _ h => h⟩
theorem Fut.trans (f : Fut H Z A H' Z' A') (g : Fut H' Z' A' H'' Z'' A'') : Fut H Z A H'' Z'' A'' where
  fr := fun a o e n t => by
    refine g.fr a o (f.fr a o e n t) (fun m => ?_) t
    rcases f.an a m with h | h
    · exact n h
    · rw [e] at h; cases h
  th := fun a o e => by
    obtain ⟨o', e'⟩ := f.th a o e
    exact g.th a o' e'
  z := fun a o e => g.z a o (f.z a o e)
  zn := fun a o e => by
    rcases g.zn a o e with ⟨o', h⟩ | h | h
    · exact f.zn a o' h
    · cases q : H a with
      | none => exact .inr (.inl rfl)
      | some u =>
        obtain ⟨u', e'⟩ := f.th a u q
        rw [h] at e'; cases e'
    · rcases f.an a h with h | h
      · exact .inr (.inr h)
      · exact .inr (.inl h)
  ap := (f.le.trans g.le).ap
  an := fun a m => by
    rcases g.an a m with h | h
    · exact f.an a h
    · cases q : H a with
      | none => exact .inr rfl
      | some u =>
        obtain ⟨u', e'⟩ := f.th a u q
        rw [h] at e'; cases e'
  tb := fun a h => g.tb a (f.tb a h)
theorem Fut.rp {v : V} {d : D} (f : Fut H Z A H' Z' A') (r : Rp G Z A v d) : Rp G Z' A' v d := r.mono f.le
theorem Fut.rps {vs : List V} {ds : List D} (f : Fut H Z A H' Z' A') (r : RpAll G Z A vs ds) : RpAll G Z' A' vs ds := r.mono f.le

theorem TabK.ext {p : Addr × TK} (h : TabK H p) (e : ∀ b o, H b = some o → H' b = some o) : TabK H' p := h.keep fun b o q _ => e b o q
theorem upd_tabs {a : Addr} {vs : List V} {o : HO} (ha : H a = some (.lst vs)) : ∀ b u, H b = some u → ((∃ ps, u = .tbl ps) ∨ ∃ φ, u = .ext φ) → upd H a o b = some u := fun b u e k => by
  rw [upd_ne (fun z => by
    rw [z, ha] at e
    cases e
    rcases k with ⟨_, k⟩ | ⟨_, k⟩ <;> cases k)]
  exact e
/-- a new object that is not ours -/
theorem Rel.grow (r : Rel G Z A S H) (e : ∀ b o, H b = some o → H' b = some o) : Rel G Z A S H' where
  sub := fun a o q => e a o (r.sub a o q)
  len := r.len
  nd := r.nd
  at_ := fun l a m h1 h2 => by
    have q := r.at_ l a m h1 h2
    cases m with
    | lst ds =>
      obtain ⟨z, vs, h, k⟩ := q
      exact ⟨z, vs, e _ _ h, k⟩
    | ins c fs =>
      obtain ⟨z, C, dx, gs, h, k⟩ := q
      exact ⟨z, C, dx, gs, e _ _ h, k⟩
    | dead =>
      obtain ⟨vs, h⟩ := q
      exact ⟨vs, e _ _ h⟩
  tabs := fun p hp => (r.tabs p hp).ext e
  zt := r.zt
theorem FieldsR.mono (x : Le Z A Z' A') : ∀ {gs : List (Str × V)} {fs : List (Str × D)}, FieldsR G Z A gs fs → FieldsR G Z' A' gs fs
  | [], [], _ => trivial
  | (f, v) :: r, (g, d) :: q, h => ⟨h.1, h.2.1.mono x, FieldsR.mono x h.2.2⟩
  | [], _ :: _, h => h.elim
  | _ :: _, [], h => h.elim
theorem MOk.mono {a : Addr} {m : M} (h : MOk G Z A H a m) (x : Le Z A Z' A') (hz : Z a = none → Z' a = none) : MOk G Z' A' H a m := by
  cases m with
  | lst ds =>
    obtain ⟨z, vs, h, k⟩ := h
    exact ⟨hz z, vs, h, k.mono x⟩
  | ins c fs =>
    obtain ⟨z, C, dx, gs, h, k1, k2⟩ := h
    exact ⟨hz z, C, dx, gs, h, k1, FieldsR.mono x k2⟩
  | dead => exact h
theorem Rel.at0 (r : Rel G Z A S H) {l : Nat} {a : Addr} {m : M} (h1 : A[l]? = some a) (h2 : S[l]? = some m) : MOk G Z A H a m := (r.at_ l a m h1 h2).mono Le.cut fun z => z
mutual
/-- what refers to older objects alone -/
theorem Rp.cut0 {l : Nat} : ∀ {d : D} {v : V}, Rp G Z A v d → old l d = true → Rp G Z (A.take l) v d
  | _, _, .non, _ => .non
  | _, _, .bl b, _ => .bl b
  | _, _, .int i, _ => .int i
  | _, _, .str s, _ => .str s
  | _, _, .lst h1 h2, o => .lst h1 (RpAll.cut0 h2 (by simpa only [old] using o))
  | _, _, .tup h1 h2, o => .tup h1 (RpAll.cut0 h2 (by simpa only [old] using o))
  | _, _, .obj (l := k) h1, o => .obj (by
      have o : decide (k < l) = true := o
      rw [List.getElem?_take_of_lt (of_decide_eq_true o)]
      exact h1)
  | _, _, .fn h1, _ => .fn h1
  | _, _, .edc h1, _ => .edc h1
  | _, _, .dct h1 hf h2, _ => .dct h1 hf h2
  | _, _, .ktu h1 h2 h3, o => .ktu h1 h2 (RpAll.cut0 h3 (by simpa only [old] using o))
  | _, _, .scr h1, _ => .scr h1
theorem RpAll.cut0 {l : Nat} : ∀ {ds : List D} {vs : List V}, RpAll G Z A vs ds → oldAll l ds = true → RpAll G Z (A.take l) vs ds
  | _, _, .nil, _ => .nil
  | _, _, .cons (d := d) (ds := ds) h1 h2, o => by
    have o : (old l d && oldAll l ds) = true := o
    obtain ⟨o1, o2⟩ := Bool.and_eq_true_iff.mp o
    exact .cons (Rp.cut0 h1 o1) (RpAll.cut0 h2 o2)
end
theorem Rp.cut {l : Nat} (d : D) (v : V) (h : Rp G Z A v d) (o : old l d = true) : Rp G Z (A.take l) v d := Rp.cut0 h o
theorem RpAll.cut {l : Nat} (ds : List D) (vs : List V) (h : RpAll G Z A vs ds) (o : oldAll l ds = true) : RpAll G Z (A.take l) vs ds := RpAll.cut0 h o
/-- ours stand in the heap -/
theorem Rel.there (r : Rel G Z A S H) {a : Addr} (m : a ∈ A) : ∃ o, H a = some o ∧ ∀ ps, o ≠ .tbl ps := by
  obtain ⟨l, hl, e⟩ := List.getElem_of_mem m
  have h1 : A[l]? = some a := by rw [List.getElem?_eq_getElem hl, e]
  have h2 : l < S.length := by rw [← r.len]; exact hl
  have q := r.at_ l a S[l] h1 (List.getElem?_eq_getElem h2)
  cases hm : S[l] with
  | lst ds =>
    rw [hm] at q
    obtain ⟨z, vs, h, _⟩ := q
    exact ⟨_, h, fun ps z => by cases z⟩
  | ins c fs =>
    rw [hm] at q
    obtain ⟨z, C, dx, gs, h, _⟩ := q
    exact ⟨_, h, fun ps z => by cases z⟩
  | dead =>
    rw [hm] at q
    obtain ⟨vs, h⟩ := q
    exact ⟨_, h, fun ps z => by cases z⟩
theorem Rel.zfresh (r : Rel G Z A S H) {p : Addr} (h : H p = none) : Z p = none := by
  cases q : Z p with
  | none => rfl
  | some o =>
    have := r.sub p o q
    rw [h] at this; cases this
theorem Rel.afresh (r : Rel G Z A S H) {p : Addr} (h : H p = none) : p ∉ A := fun m => by
  obtain ⟨o, e, _⟩ := r.there m
  rw [h] at e; cases e
theorem upd_grow {p : Addr} {o : HO} (h : H p = none) : ∀ b u, H b = some u → upd H p o b = some u := fun b u e => by
  rw [upd_ne (ne_of_none e h)]; exact e
theorem tabG_grow {p : Addr} {o : HO} (h : H p = none) : ∀ a, TabG H a → TabG (upd H p o) a := fun a ⟨ps, e, t⟩ => ⟨ps, by rw [upd_ne (ne_of_none e h)]; exact e, t⟩
theorem tabG_write {p : Addr} {vs : List V} {o : HO} (h : H p = some (.lst vs)) : ∀ a, TabG H a → TabG (upd H p o) a := fun a ⟨ps, e, t⟩ => ⟨ps, by rw [upd_ne (fun z => by rw [z, h] at e; cases e)]; exact e, t⟩
/-- a fresh tuple or list, frozen at once -/
theorem Rel.freeze (r : Rel G Z A S H) {p : Addr} {o : HO} (hp : H p = none) (ho : ∀ ps, o ≠ .tbl ps) : Rel G (upd Z p o) A S (upd H p o) ∧ Fut H Z A (upd H p o) (upd Z p o) A := by
  have zp := r.zfresh hp
  have ap := r.afresh hp
  have ne : ∀ {b : Addr} {u : HO}, H b = some u → b ≠ p := fun e => ne_of_none e hp
  have le : Le Z A (upd Z p o) A := ⟨fun b u e => by rw [upd_ne (ne (r.sub b u e))]; exact e, [], by simp⟩
  refine ⟨⟨fun b u e => ?_, r.len, r.nd, fun l a m h1 h2 => ?_, fun q hq => (r.tabs q hq).ext (upd_grow hp), fun a ps e => ?_⟩, ⟨fun b u e _ _ => upd_grow hp b u e, fun b u e => ⟨u, upd_grow hp b u e⟩, le.z, fun b u e => ?_, ⟨[], by simp⟩, fun a m => .inl m, tabG_grow hp⟩⟩
  · by_cases hb : b = p
    · subst hb
      rw [upd_same] at e ⊢
      exact e
    · rw [upd_ne hb] at e ⊢
      exact r.sub b u e
  · have ma : a ∈ A := List.mem_of_getElem? h1
    obtain ⟨u, hu, _⟩ := r.there ma
    exact (((r.grow (upd_grow (o := o) hp)).at_ l a m h1 h2).mono (le.take h1) fun z => by rw [upd_ne (ne hu)]; exact z)
  · by_cases ha : a = p
    · subst ha
      rw [upd_same] at e
      exact ho ps (Option.some.inj e)
    · rw [upd_ne ha] at e
      exact r.zt a ps e
  · by_cases hb : b = p
    · subst hb
      exact .inr (.inl hp)
    · rw [upd_ne hb] at e
      exact .inl ⟨u, e⟩
/-- a fresh list, kept mutable -/
theorem Rel.alloc (r : Rel G Z A S H) {p : Addr} {vs : List V} {ds : List D} (hp : H p = none) (hv : RpAll G Z A vs ds) :
    Rel G Z (A ++ [p]) (S ++ [.lst ds]) (upd H p (.lst vs)) ∧ Fut H Z A (upd H p (.lst vs)) Z (A ++ [p]) := by
  have zp := r.zfresh hp
  have ap := r.afresh hp
  have le : Le Z A Z (A ++ [p]) := ⟨fun _ _ e => e, [p], rfl⟩
  refine ⟨⟨fun b u e => upd_grow hp b u (r.sub b u e), by simp [r.len], ?_, fun l a m h1 h2 => ?_, fun q hq => (r.tabs q hq).ext (upd_grow hp), r.zt⟩, ⟨fun b u e _ _ => upd_grow hp b u e, fun b u e => ⟨u, upd_grow hp b u e⟩, fun _ _ e => e, fun b u e => .inl ⟨u, e⟩, ⟨[p], rfl⟩, fun a m => ?_, tabG_grow hp⟩⟩
  · rw [List.nodup_append]
    refine ⟨r.nd, by simp, fun a ha b hb => ?_⟩
    have : b = p := by simpa using hb
    subst this
    rintro rfl
    exact ap ha
  · by_cases hl : l < A.length
    · rw [List.getElem?_append_left hl] at h1
      rw [List.getElem?_append_left (by rw [← r.len]; exact hl)] at h2
      exact ((r.grow (upd_grow (o := .lst vs) hp)).at_ l a m h1 h2).mono (le.take h1) fun z => z
    · have el : l = A.length := by
        have h3 := (List.getElem?_eq_some_iff.mp h1).1
        rw [List.length_append, List.length_singleton] at h3
        omega
      subst el
      rw [List.getElem?_append_right (Nat.le_refl _)] at h1
      rw [List.getElem?_append_right (by rw [r.len]; exact Nat.le_refl _)] at h2
      simp at h1
      rw [r.len] at h2
      simp at h2
      subst h1 h2
      refine ⟨zp, vs, upd_same, ?_⟩
      rw [List.take_append_of_le_length (Nat.le_refl _), List.take_length]
      exact hv
  · rcases List.mem_append.mp m with h | h
    · exact .inl h
    · have : a = p := by simpa using h
      subst this
      exact .inr hp
/-- a mutable list is written -/
theorem Rel.write (r : Rel G Z A S H) {l : Nat} {a : Addr} {ds' : List D} {vs' : List V} {ds : List D} (h1 : A[l]? = some a) (h2 : S[l]? = some (.lst ds)) (hv : RpAll G Z (A.take l) vs' ds') :
    Rel G Z A (S.set l (.lst ds')) (upd H a (.lst vs')) ∧ Fut H Z A (upd H a (.lst vs')) Z A := by
  obtain ⟨za, vs, ha, _⟩ := r.at_ l a _ h1 h2
  have ma : a ∈ A := List.mem_of_getElem? h1
  refine ⟨⟨fun b u e => ?_, by rw [List.length_set]; exact r.len, r.nd, fun k b m k1 k2 => ?_, fun q hq => ?_, r.zt⟩, ⟨fun b u e n _ => ?_, fun b u e => ?_, fun _ _ e => e, fun b u e => .inl ⟨u, e⟩, ⟨[], by simp⟩, fun b m => .inl m, tabG_write ha⟩⟩
  · rw [upd_ne (fun z => by rw [z, za] at e; cases e)]
    exact r.sub b u e
  · by_cases hk : k = l
    · subst hk
      rw [h1] at k1; cases k1
      rw [List.getElem?_set_self (List.getElem?_eq_some_iff.mp h2).1] at k2
      cases k2
      exact ⟨za, vs', upd_same, hv⟩
    · rw [List.getElem?_set_ne (Ne.symm hk)] at k2
      have hb : b ≠ a := fun z => by
        subst z
        obtain ⟨i1, e1⟩ := List.getElem?_eq_some_iff.mp k1
        obtain ⟨i2, e2⟩ := List.getElem?_eq_some_iff.mp h1
        exact hk ((List.getElem_inj r.nd).mp (e1.trans e2.symm))
      have q := r.at_ k b m k1 k2
      cases m with
      | lst es =>
        obtain ⟨z, ws, h, w⟩ := q
        exact ⟨z, ws, by rw [upd_ne hb]; exact h, w⟩
      | ins c fs =>
        obtain ⟨z, C, dx, gs, h, w⟩ := q
        exact ⟨z, C, dx, gs, by rw [upd_ne hb]; exact h, w⟩
      | dead =>
        obtain ⟨ws, h⟩ := q
        exact ⟨ws, by rw [upd_ne hb]; exact h⟩
  · exact (r.tabs q hq).keep (upd_tabs ha)
  · rw [upd_ne (fun z => n (by rw [z]; exact ma))]
    exact e
  · by_cases hb : b = a
    · subst hb
      exact ⟨_, upd_same⟩
    · exact ⟨u, by rw [upd_ne hb]; exact e⟩
/-- a mutable list is frozen -/
theorem Rel.kill (r : Rel G Z A S H) {l : Nat} {a : Addr} {ds : List D} (h1 : A[l]? = some a) (h2 : S[l]? = some (.lst ds)) :
    ∃ vs, H a = some (.lst vs) ∧ Rel G (upd Z a (.lst vs)) A (S.set l .dead) H ∧ Fut H Z A H (upd Z a (.lst vs)) A ∧ Rp G (upd Z a (.lst vs)) A (.ref a) (.list ds) := by
  obtain ⟨za, vs, ha, hv⟩ := r.at0 h1 h2
  have ma : a ∈ A := List.mem_of_getElem? h1
  have le : Le Z A (upd Z a (.lst vs)) A := ⟨fun b u e => by rw [upd_ne (fun z => by rw [z, za] at e; cases e)]; exact e, [], by simp⟩
  refine ⟨vs, ha, ⟨fun b u e => ?_, by rw [List.length_set]; exact r.len, r.nd, fun k b m k1 k2 => ?_, r.tabs, fun b ps e => ?_⟩, ⟨fun b u e _ _ => e, fun b u e => ⟨u, e⟩, le.z, fun b u e => ?_, ⟨[], by simp⟩, fun b m => .inl m, fun _ h => h⟩, .lst upd_same (hv.mono le)⟩
  · by_cases hb : b = a
    · subst hb
      rw [upd_same] at e
      rw [ha]; exact e
    · rw [upd_ne hb] at e
      exact r.sub b u e
  · by_cases hk : k = l
    · subst hk
      rw [h1] at k1; cases k1
      rw [List.getElem?_set_self (List.getElem?_eq_some_iff.mp h2).1] at k2
      cases k2
      exact ⟨vs, ha⟩
    · rw [List.getElem?_set_ne (Ne.symm hk)] at k2
      have hb : b ≠ a := fun z => by
        subst z
        obtain ⟨i1, e1⟩ := List.getElem?_eq_some_iff.mp k1
        obtain ⟨i2, e2⟩ := List.getElem?_eq_some_iff.mp h1
        exact hk ((List.getElem_inj r.nd).mp (e1.trans e2.symm))
      exact (r.at_ k b m k1 k2).mono (le.take k1) fun z => by rw [upd_ne hb]; exact z
  · by_cases hb : b = a
    · subst hb
      rw [upd_same] at e
      cases e
    · rw [upd_ne hb] at e
      exact r.zt b ps e
  · by_cases hb : b = a
    · subst hb
      exact .inr (.inr ma)
    · rw [upd_ne hb] at e
      exact .inl ⟨u, e⟩
end

/-! ### the slots -/
structure EnvR (G : Wd) (Z : Hp) (A : List Addr) (env : EnvD) (σ : L2.St) : Prop where
  len : env.length = σ.length
  at_ : ∀ (i : Nat) (d : D), env[i]? = some (some d) → ∃ v, σ[i]? = some (some v) ∧ Rp G Z A v d
section
variable {G : Wd} {Z Z' H H' : Hp} {A A' : List Addr} {S : Store} {env : EnvD} {σ : L2.St}
theorem EnvR.mono (e : EnvR G Z A env σ) (x : Le Z A Z' A') : EnvR G Z' A' env σ := ⟨e.len, fun i d h => by
  obtain ⟨v, h1, h2⟩ := e.at_ i d h
  exact ⟨v, h1, h2.mono x⟩⟩
theorem EnvR.set (e : EnvR G Z A env σ) {i : Nat} {v : V} {d : D} (r : Rp G Z A v d) : EnvR G Z A (env.set i (some d)) (σ.set i (some v)) := by
  refine ⟨by rw [List.length_set, List.length_set]; exact e.len, fun j d' h => ?_⟩
  by_cases hj : i = j
  · subst hj
    by_cases hi : i < env.length
    · rw [List.getElem?_set_self hi] at h
      cases h
      exact ⟨v, by rw [List.getElem?_set_self (by rw [← e.len]; exact hi)], r⟩
    · rw [List.getElem?_eq_none (by rw [List.length_set]; omega)] at h
      cases h
  · rw [List.getElem?_set_ne hj] at h
    obtain ⟨w, h1, h2⟩ := e.at_ j d' h
    exact ⟨w, by rw [List.getElem?_set_ne hj]; exact h1, h2⟩
theorem EnvR.unset (e : EnvR G Z A env σ) (i : Nat) : EnvR G Z A (env.set i none) (σ.set i none) := by
  refine ⟨by rw [List.length_set, List.length_set]; exact e.len, fun j d' h => ?_⟩
  by_cases hj : i = j
  · subst hj
    by_cases hi : i < env.length
    · rw [List.getElem?_set_self hi] at h
      cases h
    · rw [List.getElem?_eq_none (by rw [List.length_set]; omega)] at h
      cases h
  · rw [List.getElem?_set_ne hj] at h
    obtain ⟨w, h1, h2⟩ := e.at_ j d' h
    exact ⟨w, by rw [List.getElem?_set_ne hj]; exact h1, h2⟩
theorem EnvR.wipe (e : EnvR G Z A env σ) : ∀ is : List Nat, EnvR G Z A (Mp.wipe env is) (L2.wipe σ is)
  | [] => e
  | i :: is => (EnvR.wipe e is).unset i
end
end Mp
set_option maxHeartbeats 4000000
/-! Mp.Tup: a full tuple times one. -/
namespace Mp
open PySem PySem.Spec PyProof.Rows L2
theorem tuple_mul1 (l : Addr) (items : Array Value) (n : Nat) (dd : Option Addr) (sl : Array (Option Value)) (u : Tok) :
    Meets (Builtin.«tuple.__mul__» ⟨[.ref l, .int 1 u], []⟩) (fun _ R s => s.heap.get? l = some { cls := .type "tuple", dict := dd, data := .seq items n, slots := sl } ∧
      R (.ok (.ret (Value.ref l))) s) :=
  .of_wp fun prog w A R s h => by
    obtain ⟨hp, g, d, tk, os⟩ := s
    obtain ⟨hl, h⟩ := h
    have f1 := AutoSeq1.idx_int
    have c1 : (items.isEmpty || (1 : Int) == 1) = true := by simp
    wp_walk using wpAny_loadPart' hl
    repeat (first
      | (refine wpAny_ite_false (decide_eq_false (by decide)) ?_; wp_walk using wpAny_loadPart' hl)
      | (refine wpAny_ite_true (decide_eq_true (by rw [c1])) ?_; wp_walk using wpAny_loadPart' hl))
    exact ⟨_, rfl, h⟩
def rRep1 (K : PySem.W.Frag) : R2 := fun x y H Q => ∃ l xs, x = .ref l ∧ y = .int 1 ∧ SqT K H l xs ∧ Q (.ref l) H
theorem op_rep1 {X : Cx} : OpR X (binaryOp .Mult) (rRep1 X.K) := by
  intro pins s σ H x y v u Q I rx ry h
  obtain ⟨l, xs, rfl, rfl, hT, q⟩ := h
  cases rx
  obtain ⟨t, rfl⟩ := ry
  obtain ⟨its, r, ⟨⟨cls, dd, data, sl⟩, ho, hc, n, hd⟩, hs⟩ := I.tuple hT
  simp only at hc hd
  subst hc hd
  refine wpAny_binaryOp_repeat_ref (T := "tuple") (U := "int") (by decide) ⟨_, ho, rfl⟩ (fun s' => typeIs_int s' 1 t) noFill_tuple_mul F.fills_int_mul F.slot_int_rmul repeat_tuple F.slot_int_index.lookup
    (call_meets F.slot_int_rmul (typeIs_int s 1 t) F.entry_int_rmul (F.args_int_rmul_2 _ _) (int_rmul_tuple 1 t l its.toArray n dd sl)
      ⟨ho, rfl, ⟨_, ho, rfl⟩, call_meets F.slot_tuple_mul ⟨_, ho, rfl⟩ F.entry_tuple_mul (F.args_tuple_mul_2 _ _) (tuple_mul1 l its.toArray n dd sl t) ⟨ho, ?_⟩⟩)
  exact ⟨.ref l, H, I, rfl, q⟩
end Mp
set_option maxHeartbeats 200000
/-! Mp.Ops: the operations on data, by the layer's rules. -/
namespace Mp
open PySem PySem.Spec PyProof.Rows L2

/-- what is to hold of a value of d that comes in the store S' -/
def Kon (G : Wd) (H Z : Hp) (A : List Addr) (d : D) (S' : Store) (Q : VK) : Prop :=
  ∀ v H' Z' A', Fut H Z A H' Z' A' → Rel G Z' A' S' H' → Rp G Z' A' v d → Q v H'
theorem lim_eq : lim = sizeLine := by rw [sizeLine_eq]; rfl
section
variable {G : Wd} {Z Z' H H' : Hp} {A A' : List Addr} {S S' : Store} {v : V} {d e : D} {ds : List D} {vs : List V} {Q : VK}
theorem Kon.at_ (k : Kon G H Z A d S Q) (r : Rel G Z A S H) (p : Rp G Z A v d) : Q v H := k v H Z A .refl r p
theorem Kon.tup (k : Kon G H Z A (.tuple ds) S Q) (r : Rel G Z A S H) (hv : RpAll G Z A vs ds) : ∀ p, H p = none → Q (.ref p) (upd H p (.tup vs)) := fun p hp => by
  obtain ⟨r', f⟩ := r.freeze (o := .tup vs) hp (fun ps z => by cases z)
  exact k _ _ _ _ f r' (.tup (.of upd_same) (hv.mono f.le))
theorem Kon.lst (k : Kon G H Z A (.list ds) S Q) (r : Rel G Z A S H) (hv : RpAll G Z A vs ds) : ∀ p, H p = none → Q (.ref p) (upd H p (.lst vs)) := fun p hp => by
  obtain ⟨r', f⟩ := r.freeze (o := .lst vs) hp (fun ps z => by cases z)
  exact k _ _ _ _ f r' (.lst upd_same (hv.mono f.le))
theorem Kon.obj (k : Kon G H Z A (oRef S.length) (S ++ [.lst ds]) Q) (r : Rel G Z A S H) (hv : RpAll G Z A vs ds) : ∀ p, H p = none → Q (.ref p) (upd H p (.lst vs)) := fun p hp => by
  obtain ⟨r', f⟩ := r.alloc hp hv
  exact k _ _ _ _ f r' (.obj (by rw [← r.len]; simp))

/-! ### reading through a reference -/
theorem rd_obj {l : Nat} {ds : List D} (h : S[l]? = some (.lst ds)) : rd S (.dict [(.int (.ofNat l), .none)]) = .list ds := by
  simp only [rd, h]
theorem rd_list (r : Rel G Z A S H) (p : Rp G Z A v d) (h : rd S d = .list ds) : ∃ a vs, v = .ref a ∧ H a = some (.lst vs) ∧ RpAll G Z A vs ds := by
  cases p with
  | @lst a xs es h1 h2 =>
    have e : es = ds := by simpa [rd] using h
    subst e
    exact ⟨a, xs, rfl, r.sub _ _ h1, h2⟩
  | @obj a l h1 =>
    simp only [rd] at h
    split at h
    · rename_i es q
      cases h
      obtain ⟨_, ws, h3, h4⟩ := r.at0 h1 q
      exact ⟨a, ws, rfl, h3, h4⟩
    · cases h
  | non => simp [rd] at h
  | bl => simp [rd] at h
  | int => simp [rd] at h
  | str => simp [rd] at h
  | tup => simp [rd] at h
  | fn => simp [rd] at h
  | scr => simp [rd] at h
  | edc => simp [rd] at h
  | dct => simp [rd] at h
  | ktu => simp [rd] at h
theorem rd_self (p : Rp G Z A v d) (h : ∀ l, d ≠ .dict [(.int (.ofNat l), .none)]) (h2 : ∀ ds, d ≠ oTup ds) : rd S d = d := by
  cases p with
  | @obj a l h1 => exact absurd rfl (h l)
  | @ktu a o xs ds => exact absurd rfl (h2 ds)
  | _ => rfl
/-- a known tuple is one -/
theorem ktu_tup {a : Addr} {o : Obj} {xs : List V} {ds : List D} (h : Z a = some (.frz o (.tup xs))) (k : RpAll G Z A xs ds) : Rp G Z A (.ref a) (.tuple ds) := .tup (.inl (.inr ⟨o, h⟩)) k
theorem rd_tupR (p : Rp G Z A v d) (h : rd S d = .tuple ds) : Rp G Z A v (.tuple ds) := by
  cases p with
  | @obj a l h1 =>
    simp only [rd] at h
    split at h <;> cases h
  | @ktu a o xs es h1 h2 h3 =>
    have e : es = ds := by simpa [rd] using h
    subst e
    exact ktu_tup h1 h3
  | @tup a xs es h1 h2 =>
    have e : es = ds := by simpa [rd] using h
    subst e
    exact .tup h1 h2
  | _ => simp [rd] at h
theorem rd_tup (r : Rel G Z A S H) (p : Rp G Z A v d) (h : rd S d = .tuple ds) : ∃ a vs, v = .ref a ∧ SqT G.K H a vs ∧ RpAll G Z A vs ds := by
  cases p with
  | @tup a xs es h1 h2 =>
    have e : es = ds := by simpa [rd] using h
    subst e
    exact ⟨a, xs, rfl, sqT_le r.sub h1, h2⟩
  | @ktu a o xs es h1 h2 h3 =>
    have e : es = ds := by simpa [rd] using h
    subst e
    exact ⟨a, xs, rfl, .inl (.inr ⟨o, r.sub _ _ h1⟩), h3⟩
  | @obj a l h1 =>
    simp only [rd] at h
    split at h <;> cases h
  | non => simp [rd] at h
  | bl => simp [rd] at h
  | int => simp [rd] at h
  | str => simp [rd] at h
  | lst => simp [rd] at h
  | fn => simp [rd] at h
  | scr => simp [rd] at h
  | edc => simp [rd] at h
  | dct => simp [rd] at h
theorem rd_int {i : Int} (p : Rp G Z A v d) (h : rd S d = .int i) : v = .int i ∧ d = .int i := by
  cases p with
  | int j =>
    have e : j = i := by simpa [rd] using h
    subst e
    exact ⟨rfl, rfl⟩
  | @obj a l h1 =>
    simp only [rd] at h
    split at h <;> cases h
  | _ => simp [rd] at h
theorem rd_str {x : Str} (p : Rp G Z A v d) (h : rd S d = .str x) : v = .str x ∧ d = .str x := by
  cases p with
  | str j =>
    have e : j = x := by simpa [rd] using h
    subst e
    exact ⟨rfl, rfl⟩
  | @obj a l h1 =>
    simp only [rd] at h
    split at h <;> cases h
  | _ => simp [rd] at h
theorem rd_bool {b : Bool} (p : Rp G Z A v d) (h : rd S d = .bool b) : v = .bl b ∧ d = .bool b := by
  cases p with
  | bl j =>
    have e : j = b := by simpa [rd] using h
    subst e
    exact ⟨rfl, rfl⟩
  | @obj a l h1 =>
    simp only [rd] at h
    split at h <;> cases h
  | _ => simp [rd] at h
theorem rd_none (p : Rp G Z A v d) (h : rd S d = .none) : v = .non ∧ d = .none := by
  cases p with
  | non => exact ⟨rfl, rfl⟩
  | @obj a l h1 =>
    simp only [rd] at h
    split at h <;> cases h
  | _ => simp [rd] at h
/-- the script -/
theorem rd_scr (r : Rel G Z A S H) (p : Rp G Z A v d) (h : rd S d = .dict [(.bool true, .list ds)]) : ∃ (a : Addr) (ns : List Int), v = .ref a ∧ SqL G.K H a (ns.map V.int) ∧ ds = ns.map PyData.int := by
  cases p with
  | @scr a ns h1 =>
    have e : ns.map PyData.int = ds := by simpa [rd] using h
    exact ⟨a, ns, rfl, sqL_le r.sub h1, e.symm⟩
  | @obj a l h1 =>
    simp only [rd] at h
    split at h <;> cases h
  | _ => simp [rd] at h
mutual
theorem Rp.dp (hs : ∀ a o, Z a = some o → H a = some o) : ∀ (d : D) (v : V), d.canLay0 = true → Rp G Z A v d → Dp G.K H v d
  | .none, _, _, h => by cases h; exact .non
  | .bool _, _, _, h => by cases h; exact .bl _
  | .int _, _, _, h => by cases h; exact .int _
  | .str _, _, _, h => by cases h; exact .str _
  | .list ds, _, c, h => by
    cases h with
    | lst h1 h2 => exact .lst (.of (hs _ _ h1)) (RpAll.dp hs ds _ (by simpa [PyData.canLay0] using c) h2)
  | .tuple ds, _, c, h => by
    cases h with
    | tup h1 h2 => exact .tup (sqT_le hs h1) (RpAll.dp hs ds _ (by simpa [PyData.canLay0] using c) h2)
  | .dict kvs, _, c, _ => by simp [PyData.canLay0] at c
theorem RpAll.dp (hs : ∀ a o, Z a = some o → H a = some o) : ∀ (ds : List D) (vs : List V), PyData.canLayAll0 ds = true → RpAll G Z A vs ds → DpAll G.K H vs ds
  | [], _, _, h => by cases h; exact .nil
  | d :: ds, _, c, h => by
    have c' : d.canLay0 = true ∧ PyData.canLayAll0 ds = true := by simpa [PyData.canLayAll0] using c
    cases h with
    | cons h1 h2 => exact .cons (Rp.dp hs d _ c'.1 h1) (RpAll.dp hs ds _ c'.2 h2)
end
theorem shaped_lay {d : D} (h : SeqAt.shaped d = true) : d.canLay0 = true := SeqAt.canLay_of_shaped h
theorem rd_dp (r : Rel G Z A S H) (p : Rp G Z A v d) (c : (rd S d).canLay0 = true) : Dp G.K H v (rd S d) := by
  by_cases q : ∃ l, d = .dict [(.int (.ofNat l), .none)]
  · obtain ⟨l, rfl⟩ := q
    cases h : S[l]? with
    | none =>
      have e : rd S (.dict [(.int (.ofNat l), .none)]) = .dict [(.int (.ofNat l), .none)] := by simp only [rd, h]
      rw [e] at c
      simp [PyData.canLay0] at c
    | some m =>
      cases m with
      | lst ds =>
        have e := rd_obj h
        obtain ⟨a, vs, rfl, h1, h2⟩ := rd_list r p e
        rw [e] at c ⊢
        exact .lst (.of h1) (RpAll.dp r.sub ds vs (by simpa [PyData.canLay0] using c) h2)
      | ins c' fs =>
        have e : rd S (.dict [(.int (.ofNat l), .none)]) = .dict [(.int (.ofNat l), .none)] := by simp only [rd, h]
        rw [e] at c
        simp [PyData.canLay0] at c
      | dead =>
        have e : rd S (.dict [(.int (.ofNat l), .none)]) = .dict [(.int (.ofNat l), .none)] := by simp only [rd, h]
        rw [e] at c
        simp [PyData.canLay0] at c
  · by_cases q2 : ∃ ds, d = oTup ds
    · obtain ⟨ds, rfl⟩ := q2
      exact Rp.dp r.sub (.tuple ds) v c (rd_tupR (S := S) p rfl)
    have e := rd_self (S := S) p (fun l z => q ⟨l, z⟩) fun ds z => q2 ⟨ds, z⟩
    rw [e] at c ⊢
    exact Rp.dp r.sub d v c p
end

/-! ### two-place operations -/
def rD2 (G : Wd) (f : D → D → Option D) : R2 := fun x y H Q => ∃ Z A S d e r, Rel G Z A S H ∧ Rp G Z A x d ∧ Rp G Z A y e ∧ f (rd S d) (rd S e) = some r ∧ Kon G H Z A r S Q
def opOf : Op → Operator
  | .add => .Add
  | .sub => .Sub
  | .mul => .Mult
  | .mod => .Mod
  | .fdiv => .FloorDiv
  | .pow => .Pow
section
variable {G : Wd} {X : Cx}
theorem small_ok {i : Int} (h : small i = true) : -(2 ^ 64) < i ∧ i < 2 ^ 64 := by
  unfold small at h
  simpa [Bool.and_eq_true] using h
theorem op_D (hK : X.K = G.K) (o : Op) : OpR X (binaryOp (opOf o)) (rD2 G (opD o)) := by
  intro pins s σ H x y v u Q I rx ry h
  obtain ⟨Z, A, S, d, e, r, hR, hx, hy, hf, k⟩ := h
  generalize hd : rd S d = d' at hf
  generalize he : rd S e = e' at hf
  unfold opD at hf
  split at hf
  · cases hf
    obtain ⟨rfl, _⟩ := rd_int hx hd
    obtain ⟨rfl, _⟩ := rd_int hy he
    exact op_add pins s σ H _ _ v u Q I rx ry ⟨_, _, rfl, rfl, k.at_ hR (.int _)⟩
  · split at hf <;> cases hf
    rename_i hz
    obtain ⟨rfl, _⟩ := rd_str hx hd
    obtain ⟨rfl, _⟩ := rd_str hy he
    exact op_add_str pins s σ H _ _ v u Q I rx ry ⟨_, _, rfl, rfl, by rw [← lim_eq]; exact hz, k.at_ hR (.str _)⟩
  · split at hf <;> cases hf
    rename_i xs ys hz
    obtain ⟨a, vs, rfl, h1, h2⟩ := rd_tup hR hx hd
    obtain ⟨b, ws, rfl, h3, h4⟩ := rd_tup hR hy he
    refine op_catA pins s σ H _ _ v u Q I rx ry ⟨a, b, vs, ws, rfl, rfl, by rw [hK]; exact h1, by rw [hK]; exact h3, by rw [h2.length, h4.length, ← lim_eq]; exact hz, fun z => ?_, fun _ z => ?_, fun _ _ => k.tup hR (h2.app h4)⟩
    · subst z
      have e1 : xs = [] := List.length_eq_zero_iff.mp (by rw [← h2.length]; rfl)
      subst e1
      exact k.at_ hR (rd_tupR hy he)
    · subst z
      have e1 : ys = [] := List.length_eq_zero_iff.mp (by rw [← h4.length]; rfl)
      subst e1
      rw [List.append_nil] at k
      exact k.at_ hR (rd_tupR hx hd)
  · split at hf <;> cases hf
    rename_i xs ys hz
    obtain ⟨a, vs, rfl, h1, h2⟩ := rd_list hR hx hd
    obtain ⟨b, ws, rfl, h3, h4⟩ := rd_list hR hy he
    exact op_cat pins s σ H _ _ v u Q I rx ry ⟨a, b, vs, ws, rfl, rfl, h1, h3, by rw [h2.length, h4.length, ← lim_eq]; exact hz, k.lst hR (h2.app h4)⟩
  · cases hf
    obtain ⟨rfl, _⟩ := rd_int hx hd
    obtain ⟨rfl, _⟩ := rd_int hy he
    exact op_sub pins s σ H _ _ v u Q I rx ry ⟨_, _, rfl, rfl, k.at_ hR (.int _)⟩
  · split at hf <;> cases hf
    rename_i hz
    obtain ⟨rfl, _⟩ := rd_int hx hd
    obtain ⟨rfl, _⟩ := rd_int hy he
    refine op_mul pins s σ H _ _ v u Q I rx ry ⟨_, _, rfl, rfl, ?_, k.at_ hR (.int _)⟩
    rcases Bool.or_eq_true_iff.mp hz with q | q
    · exact .inl (small_ok q)
    · exact .inr (small_ok q)
  · split at hf <;> cases hf
    rename_i xs j hz
    simp only [Bool.and_eq_true, decide_eq_true_eq, Bool.not_eq_true'] at hz
    obtain ⟨⟨⟨z1, z2⟩, z3⟩, z4⟩ := hz
    obtain ⟨a, vs, rfl, h1, h2⟩ := rd_tup hR hx hd
    obtain ⟨rfl, _⟩ := rd_int hy he
    by_cases j1 : j = 1
    · subst j1
      have e1 : (List.replicate (1 : Int).toNat xs).flatten = xs := by simp
      rw [e1] at k
      exact op_rep1 pins s σ H _ _ v u Q I rx ry ⟨a, vs, rfl, rfl, by rw [hK]; exact h1, k.at_ hR (rd_tupR hx hd)⟩
    · have hr : RpAll G Z A (List.replicate j.toNat vs).flatten (List.replicate j.toNat xs).flatten := by
        generalize j.toNat = n
        induction n with
        | zero => exact .nil
        | succ n ih =>
          rw [List.replicate_succ, List.flatten_cons, List.replicate_succ, List.flatten_cons]
          exact h2.app ih
      refine op_repT pins s σ H _ _ v u Q I rx ry ⟨a, j, vs, rfl, rfl, by rw [hK]; exact h1, fun z => ?_, by omega, by omega, by rw [h2.length]; exact z3, k.tup hR hr⟩
      subst z
      have e1 : xs = [] := List.length_eq_zero_iff.mp (by rw [← h2.length]; rfl)
      subst e1
      cases z4
  · split at hf <;> cases hf
    rename_i xs j hz
    simp only [Bool.and_eq_true, decide_eq_true_eq] at hz
    obtain ⟨a, vs, rfl, h1, h2⟩ := rd_list hR hx hd
    obtain ⟨rfl, _⟩ := rd_int hy he
    have hr : RpAll G Z A (List.replicate j.toNat vs).flatten (List.replicate j.toNat xs).flatten := by
      generalize j.toNat = n
      induction n with
      | zero => exact .nil
      | succ n ih =>
        rw [List.replicate_succ, List.flatten_cons, List.replicate_succ, List.flatten_cons]
        exact h2.app ih
    exact op_rep pins s σ H _ _ v u Q I rx ry ⟨a, j, vs, rfl, rfl, h1, by omega, by omega, by rw [h2.length, ← lim_eq]; exact hz.2, k.lst hR hr⟩
  · split at hf <;> cases hf
    rename_i hz
    obtain ⟨rfl, _⟩ := rd_int hx hd
    obtain ⟨rfl, _⟩ := rd_int hy he
    exact op_mod pins s σ H _ _ v u Q I rx ry ⟨_, _, rfl, rfl, hz, k.at_ hR (.int _)⟩
  · split at hf <;> cases hf
    rename_i hz
    simp only [Bool.and_eq_true, decide_eq_true_eq] at hz
    obtain ⟨rfl, _⟩ := rd_int hx hd
    obtain ⟨rfl, _⟩ := rd_int hy he
    exact op_fdiv pins s σ H _ _ v u Q I rx ry ⟨_, _, rfl, rfl, hz, k.at_ hR (.int _)⟩
  · split at hf <;> cases hf
    rename_i hz
    simp only [Bool.and_eq_true, decide_eq_true_eq] at hz
    obtain ⟨rfl, _⟩ := rd_int hx hd
    obtain ⟨rfl, _⟩ := rd_int hy he
    exact op_pow pins s σ H _ _ v u Q I rx ry ⟨_, _, rfl, rfl, ⟨hz.1.1, hz.1.2, hz.2⟩, k.at_ hR (.int _)⟩
  · cases hf

/-! ### comparisons -/
def cmOf : Cm → CmpOp
  | .lt => .Lt
  | .le => .LtE
  | .gt => .Gt
  | .ge => .GtE
  | .eq => .Eq
  | .ne => .NotEq
  | .inn => .In
  | .nin => .NotIn
  | .isN => .Is
  | .ntN => .IsNot
theorem in_ctr {hu : X.A.units + 65 < cLine} {s : Shared} {c x : Value} {d : D} {ds : List D} {as bs : List Addr} {E : Value → Shared → Prop} {Q : Value → Shared → Prop} {e : D} (he : e = .list ds ∨ e = .tuple ds) (rc : Reads s.heap c e as) (rx : Reads s.heap x d bs) (hc : SeqAt.shaped e = true) (hd : SeqAt.shaped d = true)
    (q : Q (.bool (ds.any fun y => PyData.eqv y d)) s) : wpAny (model X.prog X.w) X.A (compareOp .In x c) Q E s := by
  rcases he with rfl | rfl
  · exact SeqAt.in_list_reads rc rx (SeqAt.canLay_of_shaped hc) (SeqAt.canLay_of_shaped hd) (room_in_shaped hd hu) q
  · exact SeqAt.in_tuple_reads rc rx (SeqAt.canLay_of_shaped hc) (SeqAt.canLay_of_shaped hd) (room_in_shaped hd hu) q
theorem nin_ctr {hu : X.A.units + 65 < cLine} {s : Shared} {c x : Value} {d : D} {ds : List D} {as bs : List Addr} {E : Value → Shared → Prop} {Q : Value → Shared → Prop} {e : D} (he : e = .list ds ∨ e = .tuple ds) (rc : Reads s.heap c e as) (rx : Reads s.heap x d bs) (hc : SeqAt.shaped e = true) (hd : SeqAt.shaped d = true)
    (q : Q (.bool (!ds.any fun y => PyData.eqv y d)) s) : wpAny (model X.prog X.w) X.A (compareOp .NotIn x c) Q E s := by
  rcases he with rfl | rfl
  · exact SeqAt.notIn_list_reads rc rx (SeqAt.canLay_of_shaped hc) (SeqAt.canLay_of_shaped hd) (room_in_shaped hd hu) q
  · exact SeqAt.notIn_tuple_reads rc rx (SeqAt.canLay_of_shaped hc) (SeqAt.canLay_of_shaped hd) (room_in_shaped hd hu) q
/-- alike data, the one less than the other -/
theorem lt_alikeD {hu : X.A.units + 65 < cLine} {s : Shared} {a b : Value} {d e : D} {as bs : List Addr} {E : Value → Shared → Prop} {Q : Value → Shared → Prop} (ra : Reads s.heap a d as) (rb : Reads s.heap b e bs) (hd : SeqAt.shaped d = true)
    (ha : PySem.W.alike d e = true) (hn : d ≠ .none) (q : Q (.bool (PySem.W.dataLt d e)) s) : wpAny (model X.prog X.w) X.A (compareOp .Lt a b) Q E s := by
  have hm : min d.depth e.depth ≤ d.depth := Nat.min_le_left _ _
  have hz := SeqAt.depth_of_shaped hd
  exact PySem.W.rcLt_alike d e X.A s a b as bs ra rb ha hn (by omega) X.prog X.w E Q q
theorem gt_alikeD {hu : X.A.units + 65 < cLine} {s : Shared} {a b : Value} {d e : D} {as bs : List Addr} {E : Value → Shared → Prop} {Q : Value → Shared → Prop} (ra : Reads s.heap a d as) (rb : Reads s.heap b e bs) (hd : SeqAt.shaped d = true)
    (ha : PySem.W.alike d e = true) (hn : d ≠ .none) (q : Q (.bool (PySem.W.dataLt d e)) s) : wpAny (model X.prog X.w) X.A (compareOp .Lt a b) Q E s := lt_alikeD (hu := hu) ra rb hd ha hn q
def rC2 (G : Wd) (f : D → D → Option Bool) : R2 := fun x y H Q => ∃ Z A S d e r, Rel G Z A S H ∧ Rp G Z A x d ∧ Rp G Z A y e ∧ f (rd S d) (rd S e) = some r ∧ Q (.bl r) H
theorem op_ltD (hK : X.K = G.K) (hu : X.A.units + 65 < cLine) : OpR X (compareOp .Lt) (rC2 G ltD) := by
  intro pins s σ H x y v u Q I rx ry h
  obtain ⟨Z, A, S, d, e, r, hR, hx, hy, hf, k⟩ := h
  generalize hd : rd S d = d' at hf
  generalize he : rd S e = e' at hf
  unfold ltD at hf
  split at hf
  · cases hf
    obtain ⟨rfl, _⟩ := rd_int hx hd
    obtain ⟨rfl, _⟩ := rd_int hy he
    exact op_lt pins s σ H _ _ v u Q I rx ry ⟨_, _, rfl, rfl, k⟩
  · split at hf
    · cases hf
      rename_i hz
      simp only [Bool.and_eq_true] at hz
      have h1 := rd_dp hR hx (by rw [hd]; exact shaped_lay hz.1.1)
      have h2 := rd_dp hR hy (by rw [he]; exact shaped_lay hz.1.2)
      rw [hd, ← hK] at h1
      rw [he, ← hK] at h2
      obtain ⟨as, r1⟩ := Dp.reads I _ x v h1 rx
      obtain ⟨bs, r2⟩ := Dp.reads I _ y u h2 ry
      exact lt_alikeD (hu := hu) r1 r2 hz.1.1 hz.2 (fun z => by cases z) ⟨.bl _, H, I, rfl, k⟩
    · cases hf
  · cases hf
theorem op_gtD (hK : X.K = G.K) : OpR X (compareOp .Gt) (rC2 G gtD) := by
  intro pins s σ H x y v u Q I rx ry h
  obtain ⟨Z, A, S, d, e, r, hR, hx, hy, hf, k⟩ := h
  generalize hd : rd S d = d' at hf
  generalize he : rd S e = e' at hf
  unfold gtD at hf
  split at hf
  · cases hf
    obtain ⟨rfl, _⟩ := rd_int hx hd
    obtain ⟨rfl, _⟩ := rd_int hy he
    exact op_gt pins s σ H _ _ v u Q I rx ry ⟨_, _, rfl, rfl, k⟩
  · cases hf
theorem op_leD (hK : X.K = G.K) : OpR X (compareOp .LtE) (rC2 G leD) := by
  intro pins s σ H x y v u Q I rx ry h
  obtain ⟨Z, A, S, d, e, r, hR, hx, hy, hf, k⟩ := h
  generalize hd : rd S d = d' at hf
  generalize he : rd S e = e' at hf
  unfold leD at hf
  split at hf
  · cases hf
    obtain ⟨rfl, _⟩ := rd_int hx hd
    obtain ⟨rfl, _⟩ := rd_int hy he
    exact op_le pins s σ H _ _ v u Q I rx ry ⟨_, _, rfl, rfl, k⟩
  · cases hf
theorem op_geD (hK : X.K = G.K) : OpR X (compareOp .GtE) (rC2 G fun d e => leD e d) := by
  intro pins s σ H x y v u Q I rx ry h
  obtain ⟨Z, A, S, d, e, r, hR, hx, hy, hf, k⟩ := h
  generalize hd : rd S d = d' at hf
  generalize he : rd S e = e' at hf
  have hf : leD e' d' = some r := hf
  unfold leD at hf
  split at hf
  · cases hf
    obtain ⟨rfl, _⟩ := rd_int hx hd
    obtain ⟨rfl, _⟩ := rd_int hy he
    exact op_ge pins s σ H _ _ v u Q I rx ry ⟨_, _, rfl, rfl, k⟩
  · cases hf
theorem eqD_some {d e : D} {r : Bool} (h : eqD d e = some r) : SeqAt.shaped d = true ∧ SeqAt.shaped e = true ∧ r = PyData.eqv d e := by
  unfold eqD at h
  split at h
  · cases h
    rename_i hz
    simp only [Bool.and_eq_true] at hz
    exact ⟨hz.1, hz.2, rfl⟩
  · cases h
theorem op_eqDD (hK : X.K = G.K) (hu : X.A.units + 65 < cLine) : OpR X (compareOp .Eq) (rC2 G eqD) := by
  intro pins s σ H x y v u Q I rx ry h
  obtain ⟨Z, A, S, d, e, r, hR, hx, hy, hf, k⟩ := h
  obtain ⟨s1, s2, rfl⟩ := eqD_some hf
  have h1 := rd_dp hR hx (shaped_lay s1)
  have h2 := rd_dp hR hy (shaped_lay s2)
  rw [← hK] at h1 h2
  exact op_eqD (by omega) pins s σ H x y v u Q I rx ry ⟨_, _, h1, h2, s1, s2, k⟩
theorem op_neDD (hK : X.K = G.K) (hu : X.A.units + 65 < cLine) : OpR X (compareOp .NotEq) (rC2 G fun d e => (eqD d e).map (!·)) := by
  intro pins s σ H x y v u Q I rx ry h
  obtain ⟨Z, A, S, d, e, r, hR, hx, hy, hf, k⟩ := h
  obtain ⟨r', hf', rfl⟩ := Option.map_eq_some_iff.mp hf
  obtain ⟨s1, s2, rfl⟩ := eqD_some hf'
  have h1 := rd_dp hR hx (shaped_lay s1)
  have h2 := rd_dp hR hy (shaped_lay s2)
  rw [← hK] at h1 h2
  exact op_neD (by omega) pins s σ H x y v u Q I rx ry ⟨_, _, h1, h2, s1, s2, k⟩
theorem inD_some {d e : D} {r : Bool} (h : inD d e = some r) : SeqAt.shaped d = true ∧ SeqAt.shaped e = true ∧ ∃ ds, (e = .list ds ∨ e = .tuple ds) ∧ r = ds.any fun z => PyData.eqv z d := by
  unfold inD at h
  split at h
  · split at h
    · cases h
      rename_i hz
      simp only [Bool.and_eq_true] at hz
      exact ⟨hz.1, hz.2, _, .inl rfl, rfl⟩
    · cases h
  · split at h
    · cases h
      rename_i hz
      simp only [Bool.and_eq_true] at hz
      exact ⟨hz.1, hz.2, _, .inr rfl, rfl⟩
    · cases h
  · cases h
theorem op_inDD (hK : X.K = G.K) (hu : X.A.units + 65 < cLine) : OpR X (compareOp .In) (rC2 G inD) := by
  intro pins s σ H x y v u Q I rx ry h
  obtain ⟨Z, A, S, d, e, r, hR, hx, hy, hf, k⟩ := h
  obtain ⟨s1, s2, ds, he, rfl⟩ := inD_some hf
  have h1 := rd_dp hR hx (shaped_lay s1)
  have h2 := rd_dp hR hy (shaped_lay s2)
  rw [← hK] at h1 h2
  obtain ⟨as, r1⟩ := Dp.reads I _ x v h1 rx
  obtain ⟨bs, r2⟩ := Dp.reads I _ y u h2 ry
  exact in_ctr (hu := hu) he r2 r1 s2 s1 ⟨.bl _, H, I, rfl, k⟩
theorem op_ninDD (hK : X.K = G.K) (hu : X.A.units + 65 < cLine) : OpR X (compareOp .NotIn) (rC2 G fun d e => (inD d e).map (!·)) := by
  intro pins s σ H x y v u Q I rx ry h
  obtain ⟨Z, A, S, d, e, r, hR, hx, hy, hf, k⟩ := h
  obtain ⟨r', hf', rfl⟩ := Option.map_eq_some_iff.mp hf
  obtain ⟨s1, s2, ds, he, rfl⟩ := inD_some hf'
  have h1 := rd_dp hR hx (shaped_lay s1)
  have h2 := rd_dp hR hy (shaped_lay s2)
  rw [← hK] at h1 h2
  obtain ⟨as, r1⟩ := Dp.reads I _ x v h1 rx
  obtain ⟨bs, r2⟩ := Dp.reads I _ y u h2 ry
  exact nin_ctr (hu := hu) he r2 r1 s2 s1 ⟨.bl _, H, I, rfl, k⟩
theorem isNone_rd {Z : Hp} {A : List Addr} {S : Store} {x : V} {d : D} (p : Rp G Z A x d) : isNone (rd S d) = decide (x = .non) := by
  cases p with
  | @obj a l h1 =>
    have e : isNone (rd S (.dict [(.int (.ofNat l), .none)])) = false := by
      simp only [rd]
      split <;> rfl
    rw [e]
    rfl
  | _ => rfl
theorem op_isND : OpR X (compareOp .Is) (rC2 G isD) := by
  intro pins s σ H x y v u Q I rx ry h
  obtain ⟨Z, A, S, d, e, r, hR, hx, hy, hf, k⟩ := h
  generalize he : rd S e = e' at hf
  unfold isD at hf
  split at hf
  · cases hf
    obtain ⟨rfl, _⟩ := rd_none hy he
    rw [isNone_rd hx] at k
    exact op_isN pins s σ H _ _ v u Q I rx ry ⟨rfl, k⟩
  · cases hf
theorem op_ntND : OpR X (compareOp .IsNot) (rC2 G ntD) := by
  intro pins s σ H x y v u Q I rx ry h
  obtain ⟨Z, A, S, d, e, r, hR, hx, hy, hf, k⟩ := h
  generalize he : rd S e = e' at hf
  unfold ntD at hf
  split at hf
  · cases hf
    obtain ⟨rfl, _⟩ := rd_none hy he
    rw [isNone_rd hx] at k
    exact op_notN pins s σ H _ _ v u Q I rx ry ⟨rfl, k⟩
  · cases hf
/-- every comparison -/
theorem op_C (hK : X.K = G.K) (hu : X.A.units + 65 < cLine) : ∀ o : Cm, OpR X (compareOp (cmOf o)) (rC2 G (cmpD o))
  | .lt => op_ltD hK hu
  | .gt => op_gtD hK
  | .le => op_leD hK
  | .ge => op_geD hK
  | .eq => op_eqDD hK hu
  | .ne => op_neDD hK hu
  | .inn => op_inDD hK hu
  | .nin => op_ninDD hK hu
  | .isN => op_isND
  | .ntN => op_ntND

/-! ### truth -/
theorem tru_D (hK : X.K = G.K) : TruR X (fun x H Q => ∃ Z A S d r, Rel G Z A S H ∧ Rp G Z A x d ∧ truD (rd S d) = some r ∧ Q r H) := by
  intro pins s σ H x v Q I rx h
  obtain ⟨Z, A, S, d, r, hR, hx, hf, k⟩ := h
  refine tru_ok pins s σ H x v Q I rx ⟨r, ?_, k⟩
  generalize hd : rd S d = d' at hf
  unfold truD at hf
  split at hf
  · cases hf
    obtain ⟨rfl, _⟩ := rd_none hx hd
    rfl
  · cases hf
    obtain ⟨rfl, _⟩ := rd_bool hx hd
    rfl
  · cases hf
    obtain ⟨rfl, _⟩ := rd_int hx hd
    rfl
  · split at hf <;> cases hf
    rename_i hz
    obtain ⟨rfl, _⟩ := rd_str hx hd
    refine ⟨by rw [← lim_eq]; exact hz, ?_⟩
    rename_i y _
    show decide (y.length ≠ 0) = ((y.length : Int) != 0)
    by_cases q : y.length = 0 <;> simp [q]
  · cases hf
    obtain ⟨a, vs, rfl, h1, h2⟩ := rd_list hR hx hd
    refine .inl ⟨vs, .of h1, ?_⟩
    cases h2 <;> rfl
  · cases hf
    obtain ⟨a, vs, rfl, h1, h2⟩ := rd_tup hR hx hd
    refine .inr (.inl ⟨vs, by rw [hK]; exact h1, ?_⟩)
    cases h2 <;> rfl
  · cases hf

/-! ### places, slices -/
theorem atD_atI {α : Type} {xs : List α} {i : Int} {x : α} (h : atD xs i = some x) : atI xs i = some x := by
  unfold atI ixN
  cases i with
  | ofNat n =>
    have h' : xs[n]? = some x := h
    have hl := (List.getElem?_eq_some_iff.mp h').1
    rw [if_pos (by exact Int.natCast_nonneg n), if_pos (by show (n : Int) < _; omega)]
    exact h'
  | negSucc n =>
    have h' : (if n < xs.length then xs[xs.length - 1 - n]? else none) = some x := h
    split at h'
    · rename_i hl
      rw [if_neg (by omega), if_pos (by omega)]
      have e : (Int.negSucc n + (xs.length : Int)).toNat = xs.length - 1 - n := by omega
      rw [e]
      exact h'
    · cases h'
theorem RpAll.atD {Z : Hp} {A : List Addr} : ∀ {ds : List D} {vs : List V} {i : Int} {d : D}, RpAll G Z A vs ds → Mp.atD ds i = some d → ∃ v, Mp.atD vs i = some v ∧ Rp G Z A v d := by
  intro ds vs i d h e
  cases i with
  | ofNat n => exact h.get (i := n) e
  | negSucc n =>
    have e' : (if n < ds.length then ds[ds.length - 1 - n]? else none) = some d := e
    split at e'
    · rename_i hl
      obtain ⟨v, h1, h2⟩ := h.get e'
      refine ⟨v, ?_, h2⟩
      show (if n < vs.length then vs[vs.length - 1 - n]? else none) = some v
      rw [h.length, if_pos hl]
      exact h1
    · cases e'
def rIxD (G : Wd) : R2 := fun x y H Q => ∃ Z A S d e r, Rel G Z A S H ∧ Rp G Z A x d ∧ Rp G Z A y e ∧ ixD (rd S d) e = some r ∧ ∀ v, Rp G Z A v r → Q v H
theorem ix_D (hK : X.K = G.K) : IxR X (rIxD G) := by
  intro value slice pins s σ H x y v u Q I rx ry h hs
  obtain ⟨Z, A, S, d, e, r, hR, hx, hy, hf, k⟩ := h
  generalize hd : rd S d = d' at hf
  unfold ixD at hf
  split at hf
  · cases hy
    obtain ⟨a, vs, rfl, h1, h2⟩ := rd_list hR hx hd
    obtain ⟨w, h3, h4⟩ := h2.atD hf
    exact ix_list value slice pins s σ H _ _ v u Q I rx ry ⟨a, vs, _, w, rfl, rfl, .of h1, atD_atI h3, k w h4⟩ hs
  · cases hy
    obtain ⟨a, vs, rfl, h1, h2⟩ := rd_tup hR hx hd
    obtain ⟨w, h3, h4⟩ := h2.atD hf
    exact ix_tup value slice pins s σ H _ _ v u Q I rx ry ⟨a, vs, _, w, rfl, rfl, by rw [hK]; exact h1, atD_atI h3, k w h4⟩ hs
  · cases hy
    obtain ⟨a, ns, rfl, h1, rfl⟩ := rd_scr hR hx hd
    rename_i i
    have h2 : RpAll G Z A (ns.map V.int) (ns.map PyData.int) := by
      clear hf h1 hd
      induction ns with
      | nil => exact .nil
      | cons n r ih => exact .cons (.int n) ih
    obtain ⟨w, h3, h4⟩ := h2.atD hf
    exact ix_list value slice pins s σ H _ _ v u Q I rx ry ⟨a, _, _, w, rfl, rfl, by rw [hK]; exact h1, atD_atI h3, k w h4⟩ hs
  · cases hf
theorem cutL_rp {Z : Hp} {A : List Addr} {ds : List D} {vs : List V} (lo hi : Option Int) (h : RpAll G Z A vs ds) : RpAll G Z A (cutV vs lo hi) (cutL ds lo hi) := by
  unfold cutV cutL
  rw [h.length]
  exact (h.drop _).take _
def rSlD (G : Wd) : V → Option Int → Option Int → Hp → VK → Prop := fun x lo hi H Q => ∃ Z A S d r, Rel G Z A S H ∧ Rp G Z A x d ∧ cutD (rd S d) lo hi = some r ∧ Kon G H Z A r S Q
theorem sl_D (hK : X.K = G.K) : SlR X (rSlD G) := by
  intro pins s σ H x v vl vu lo hi sl Q I rx hs pl pu h
  obtain ⟨Z, A, S, d, r, hR, hx, hf, k⟩ := h
  generalize hd : rd S d = d' at hf
  unfold cutD at hf
  split at hf
  · cases hf
    obtain ⟨a, vs, rfl, h1, h2⟩ := rd_list hR hx hd
    exact sl_list pins s σ H _ v vl vu lo hi sl Q I rx hs pl pu ⟨a, vs, rfl, .of h1, k.lst hR (cutL_rp lo hi h2)⟩
  · cases hf
    rename_i xs
    obtain ⟨a, vs, rfl, h1, h2⟩ := rd_tup hR hx hd
    refine sl_tupA pins s σ H _ v vl vu lo hi sl Q I rx hs pl pu ⟨a, vs, rfl, by rw [hK]; exact h1, fun z => ?_, fun _ => k.tup hR (cutL_rp lo hi h2)⟩
    have e1 : cutL xs lo hi = xs := by
      unfold cutL
      rw [← h2.length, z.1, z.2, List.drop_zero, Nat.sub_zero, h2.length]
      exact List.take_length
    rw [e1] at k
    exact k.at_ hR (rd_tupR hx hd)
  · split at hf <;> cases hf
    rename_i hz
    obtain ⟨rfl, _⟩ := rd_str hx hd
    exact sl_str pins s σ H _ v vl vu lo hi sl Q I rx hs pl pu ⟨_, rfl, by rw [← lim_eq]; exact hz, k.at_ hR (.str _)⟩
  · cases hf
end
end Mp
set_option maxHeartbeats 200000
/-! Mp.Snd: readings by the evaluator, rules for expressions. -/
namespace Mp
open PySem PySem.Spec PyProof.Rows L2

/-- what holds of a result -/
def PostR {α : Type} (r : R α) (k : α → Store → Prop) (w : Exc → Store → Prop) : Prop := match r with
  | .ok a S => k a S
  | .exc x S => w x S
  | .bad => False
theorem PostR.bind {α β : Type} {r : R α} {f : α → Store → R β} {k : β → Store → Prop} {w : Exc → Store → Prop} (h : PostR (r.bind f) k w) : PostR r (fun a S => PostR (f a S) k w) w := by
  cases r <;> exact h
theorem PostR.mono {α : Type} {r : R α} {k k' : α → Store → Prop} {w w' : Exc → Store → Prop} (h : PostR r k w) (hk : ∀ a S, r = .ok a S → k a S → k' a S) (hw : ∀ x S, w x S → w' x S) : PostR r k' w' := by
  cases r with
  | ok a S => exact hk a S rfl h
  | exc x S => exact hw x S h
  | bad => exact h
theorem PostR.opt {α : Type} {o : Option α} {S : Store} {k : α → Store → Prop} {w : Exc → Store → Prop} (h : PostR (opt o S) k w) : ∃ a, o = some a ∧ k a S := by
  cases o with
  | none => exact h.elim
  | some a => exact ⟨a, rfl, h⟩
/-- an exception of a module's class that comes: its own dict holds what is told -/
def ExcR (G : Wd) (Z : Hp) (A : List Addr) (H : Hp) (x : Exc) (cls : Value) (d : Option Addr) : Prop :=
  ∃ C, cls = .ref C ∧ G.mg x.cls = some (.ref C) ∧ match x.arg with
    | none => d = none
    | some (f, a) => ∃ dd fs v, d = some dd ∧ H dd = some (.xd fs) ∧ fs.lookup f = some v ∧ Rp G Z A v a
def KonX (G : Wd) (H Z : Hp) (A : List Addr) (x : Exc) (S' : Store) (w : XK) : Prop :=
  ∀ cls d H' Z' A', Fut H Z A H' Z' A' → Rel G Z' A' S' H' → ExcR G Z' A' H' x cls d → w cls d H'
section
variable {G : Wd} {Z Z' H H' : Hp} {A A' : List Addr} {S S' : Store} {d : D} {Q : VK} {w : XK}
theorem Kon.fut (k : Kon G H Z A d S Q) (f : Fut H Z A H' Z' A') : Kon G H' Z' A' d S Q := fun v H1 Z1 A1 g r p => k v H1 Z1 A1 (f.trans g) r p
theorem KonX.fut {x : Exc} (k : KonX G H Z A x S w) (f : Fut H Z A H' Z' A') : KonX G H' Z' A' x S w := fun c dd H1 Z1 A1 g r p => k c dd H1 Z1 A1 (f.trans g) r p
end

/-! ### readings -/
abbrev FE := EnvD → Store → R D
abbrev FT := EnvD → Store → R Bool
abbrev FA := EnvD → Store → R (List D)
def tD (G : Wd) (f : FE) (W : L2.St → XK) : TE := fun σ H Q => ∃ Z A env S, Rel G Z A S H ∧ EnvR G Z A env σ ∧ PostR (f env S) (fun d S' => Kon G H Z A d S' Q) (fun x S' => KonX G H Z A x S' (W σ))
def tT (G : Wd) (f : FT) (W : L2.St → XK) : TT := fun σ H Q => ∃ Z A env S, Rel G Z A S H ∧ EnvR G Z A env σ ∧ PostR (f env S) (fun b S' => ∀ H' Z' A', Fut H Z A H' Z' A' → Rel G Z' A' S' H' → Q b H') (fun x S' => KonX G H Z A x S' (W σ))
def tA (G : Wd) (f : FA) (W : L2.St → XK) : TA := fun σ H Q => ∃ Z A env S, Rel G Z A S H ∧ EnvR G Z A env σ ∧ PostR (f env S) (fun ds S' => ∀ vs H' Z' A', Fut H Z A H' Z' A' → Rel G Z' A' S' H' → RpAll G Z' A' vs ds → Q vs H') (fun x S' => KonX G H Z A x S' (W σ))
section
variable {G : Wd} {Z H : Hp} {A : List Addr} {S : Store} {W : L2.St → XK} {σ : L2.St} {env : EnvD}
theorem step {β : Type} {f : FE} {g : D → Store → R β} {k : β → Store → Prop} {Rr : VK} (hR : Rel G Z A S H) (hE : EnvR G Z A env σ) (hP : PostR ((f env S).bind g) k (fun x S' => KonX G H Z A x S' (W σ)))
    (next : ∀ v d S1 Z1 A1 H1, Fut H Z A H1 Z1 A1 → Rel G Z1 A1 S1 H1 → EnvR G Z1 A1 env σ → Rp G Z1 A1 v d → PostR (g d S1) k (fun x S' => KonX G H1 Z1 A1 x S' (W σ)) → Rr v H1) : tD G f W σ H Rr :=
  ⟨Z, A, env, S, hR, hE, hP.bind.mono (fun d S1 _ hg v H1 Z1 A1 fu r p => next v d S1 Z1 A1 H1 fu r (hE.mono fu.le) p (hg.mono (fun _ _ _ h => h) fun x S' hx => hx.fut fu)) fun _ _ h => h⟩
theorem stepT {β : Type} {f : FT} {g : Bool → Store → R β} {k : β → Store → Prop} {Rr : Bool → Hp → Prop} (hR : Rel G Z A S H) (hE : EnvR G Z A env σ) (hP : PostR ((f env S).bind g) k (fun x S' => KonX G H Z A x S' (W σ)))
    (next : ∀ b S1 Z1 A1 H1, Fut H Z A H1 Z1 A1 → Rel G Z1 A1 S1 H1 → EnvR G Z1 A1 env σ → PostR (g b S1) k (fun x S' => KonX G H1 Z1 A1 x S' (W σ)) → Rr b H1) : tT G f W σ H Rr :=
  ⟨Z, A, env, S, hR, hE, hP.bind.mono (fun b S1 _ hg H1 Z1 A1 fu r => next b S1 Z1 A1 H1 fu r (hE.mono fu.le) (hg.mono (fun _ _ _ h => h) fun x S' hx => hx.fut fu)) fun _ _ h => h⟩
theorem stepA {β : Type} {f : FA} {g : List D → Store → R β} {k : β → Store → Prop} {Rr : List V → Hp → Prop} (hR : Rel G Z A S H) (hE : EnvR G Z A env σ) (hP : PostR ((f env S).bind g) k (fun x S' => KonX G H Z A x S' (W σ)))
    (next : ∀ vs ds S1 Z1 A1 H1, Fut H Z A H1 Z1 A1 → Rel G Z1 A1 S1 H1 → EnvR G Z1 A1 env σ → RpAll G Z1 A1 vs ds → PostR (g ds S1) k (fun x S' => KonX G H1 Z1 A1 x S' (W σ)) → Rr vs H1) : tA G f W σ H Rr :=
  ⟨Z, A, env, S, hR, hE, hP.bind.mono (fun ds S1 _ hg vs H1 Z1 A1 fu r p => next vs ds S1 Z1 A1 H1 fu r (hE.mono fu.le) p (hg.mono (fun _ _ _ h => h) fun x S' hx => hx.fut fu)) fun _ _ h => h⟩
end
theorem PE.imp {X : Cx} {e : Expr} {t t' : TE} (h : PE X e t) (i : ∀ σ H Q, t' σ H Q → t σ H Q) : PE X e t' := ⟨fun pins s σ H Q I q => h.run pins s σ H Q I (i σ H Q q)⟩
theorem PT.imp {X : Cx} {e : Expr} {t t' : TT} (h : PT X e t) (i : ∀ σ H Q, t' σ H Q → t σ H Q) : PT X e t' := ⟨fun pins s σ H Q I q => h.run pins s σ H Q I (i σ H Q q)⟩
theorem PA.imp {X : Cx} {e : List Expr} {t t' : TA} (h : PA X e t) (i : ∀ σ H Q, t' σ H Q → t σ H Q) : PA X e t' := ⟨fun pos pins s σ H Q I q => h.run pos pins s σ H Q I (i σ H Q q)⟩
theorem PS.imp {X : Cx} {e : Stmt} {t t' : TS} (h : PS X e t) (i : ∀ D σ H, t' D σ H → t D σ H) : PS X e t' := ⟨fun pins s σ H D I q => h.run pins s σ H D I (i D σ H q)⟩
theorem PSs.imp {X : Cx} {e : List Stmt} {t t' : TS} (h : PSs X e t) (i : ∀ D σ H, t' D σ H → t D σ H) : PSs X e t' := ⟨fun pins s σ H D I q => h.run pins s σ H D I (i D σ H q)⟩

/-! ### the context -/
structure Cok (G : Wd) (P : Program) (w : World) (base : Heap) (N : List Str) (n : Nat) (W : L2.St → XK) (X : Cx) : Prop where
  prog : X.prog = P
  wo : X.w = w
  base : X.base = base
  K : X.K = G.K
  mg : X.mg = G.mg
  nm : X.N = N
  nd : N.Nodup
  calm : X.calm = true
  room : Room n X.A
  tk : Takes X (fun cls d σ H => W σ cls d H)
  own : PassesOwn (model X.prog X.w) X.A X.env X.xe
section
variable {G : Wd} {P : Program} {w : World} {base : Heap} {N : List Str} {n : Nat} {W : L2.St → XK} {X : Cx}
theorem Cok.units (c : Cok G P w base N n W X) : X.A.units + 65 < cLine := by have := c.room.un; omega
variable {a b e : Expr} {fa fb fc : FE} {pos : Pos}

/-! ### names, constants -/
theorem s_var (c : Cok G P w base N n W X) {i : Nat} {x : Str} (hN : N[i]? = some x) (hv : Vis X.env.scope x) (hd : (x == ("__debug__" : Str)) = false) (hcd : (x == ("__classdict__" : Str)) = false) (cal : CallF) : PE X (.Name x pos) (tD G (evalE cal (.var i)) W) := by
  refine PE.imp (pe_var (by rw [c.nm]; exact hN) hv hd hcd) fun σ H Q ⟨Z, A, env, S, hR, hE, hP⟩ => ?_
  simp only [evalE] at hP
  split at hP
  · rename_i d he
    obtain ⟨v, h1, h2⟩ := hE.at_ i d he
    exact ⟨v, h1, Kon.at_ hP hR h2⟩
  · exact hP.elim
theorem s_con {v : V} {d : D} (h : PE X e (tC v)) (hr : ∀ Z A, Rp G Z A v d) : PE X e (tD G (fun _ S => .ok d S) W) :=
  PE.imp h fun σ H Q ⟨Z, A, env, S, hR, hE, hP⟩ => Kon.at_ hP hR (hr Z A)
theorem s_bin (c : Cok G P w base N n W X) (o : Op) (ha : PE X a (tD G fa W)) (hb : PE X b (tD G fb W)) :
    PE X (.BinOp a (opOf o) b pos) (tD G (fun env S => (fa env S).bind fun x S1 => (fb env S1).bind fun y S2 => opt (opD o (rd S2 x) (rd S2 y)) S2) W) :=
  PE.imp (pe_op (op_D c.K o) ha hb) fun σ H Q ⟨Z, A, env, S, hR, hE, hP⟩ =>
    step hR hE hP fun v d S1 Z1 A1 H1 f1 R1 E1 r1 P1 => step R1 E1 P1 fun u e S2 Z2 A2 H2 f2 R2 E2 r2 P2 => by
      obtain ⟨r, hr, k⟩ := P2.opt
      exact ⟨Z2, A2, S2, d, e, r, R2, f2.rp r1, r2, hr, k.fut (f1.trans f2)⟩
theorem s_neg (ha : PE X a (tD G fa W)) : PE X (.UnaryOp .USub a pos) (tD G (fun env S => (fa env S).bind fun x S1 => opt ((asInt x).map fun i => .int (-i)) S1) W) :=
  PE.imp (pe_un un_neg ha) fun σ H Q ⟨Z, A, env, S, hR, hE, hP⟩ =>
    step hR hE hP fun v d S1 Z1 A1 H1 f1 R1 E1 r1 P1 => by
      obtain ⟨r, hr, k⟩ := P1.opt
      cases d <;> simp [asInt] at hr
      subst hr
      cases r1
      exact ⟨_, rfl, (k.fut f1).at_ R1 (.int _)⟩
/-! ### comparisons -/
theorem noMark_in (b : Expr) (o : Cm) (h : (o = .inn ∨ o = .nin) → behindInMarks (cmOf o) b = false) : behindInMarks (cmOf o) b = false := by
  cases o with
  | inn => exact h (.inl rfl)
  | nin => exact h (.inr rfl)
  | _ => exact nobehind _ (by decide) (by decide)
theorem s_cmp (c : Cok G P w base N n W X) (o : Cm) (ha : PE X a (tD G fa W)) (hb : PE X b (tD G fb W)) (hm : behindInMarks (cmOf o) b = false) :
    PE X (.Compare a [cmOf o] [b] pos) (tD G (fun env S => (fa env S).bind fun x S1 => (fb env S1).bind fun y S2 => opt ((cmpD o (rd S2 x) (rd S2 y)).map .bool) S2) W) :=
  PE.imp (pe_cmpR (op_C c.K c.units o) ha hb hm) fun σ H Q ⟨Z, A, env, S, hR, hE, hP⟩ =>
    step hR hE hP fun v d S1 Z1 A1 H1 f1 R1 E1 r1 P1 => step R1 E1 P1 fun u e S2 Z2 A2 H2 f2 R2 E2 r2 P2 => by
      obtain ⟨r, hr, k⟩ := P2.opt
      obtain ⟨q, hq, rfl⟩ := Option.map_eq_some_iff.mp hr
      exact ⟨Z2, A2, S2, d, e, q, R2, f2.rp r1, r2, hq, (k.fut (f1.trans f2)).at_ R2 (.bl q)⟩
theorem t_cmp (c : Cok G P w base N n W X) (o : Cm) (ha : PE X a (tD G fa W)) (hb : PE X b (tD G fb W)) (hm : behindInMarks (cmOf o) b = false) :
    PT X (.Compare a [cmOf o] [b] pos) (tT G (fun env S => ((fa env S).bind fun x S1 => (fb env S1).bind fun y S2 => opt ((cmpD o (rd S2 x) (rd S2 y)).map .bool) S2).bind fun x S1 => opt (truD (rd S1 x)) S1) W) :=
  PT.imp (pt_cmpR (op_C c.K c.units o) ha hb hm) fun σ H Q ⟨Z, A, env, S, hR, hE, hP⟩ => by
    have hP := hP.bind.bind
    refine ⟨Z, A, env, S, hR, hE, hP.mono (fun d S1 _ h1 v H1 Z1 A1 f1 R1 r1 => ?_) fun _ _ h => h⟩
    have h1 := h1.bind
    refine ⟨Z1, A1, env, S1, R1, hE.mono f1.le, h1.mono (fun e S2 _ h2 u H2 Z2 A2 f2 R2 r2 => ?_) fun _ _ h => KonX.fut h f1⟩
    obtain ⟨r, hr, k⟩ := h2.opt
    obtain ⟨q, hq, rfl⟩ := Option.map_eq_some_iff.mp hr
    obtain ⟨t, ht, k⟩ := PostR.opt k
    have et : q = t := by simpa [rd, truD] using ht
    subst et
    exact ⟨Z2, A2, S2, d, e, q, R2, f2.rp r1, r2, hq, q, rfl, k H2 Z2 A2 (f1.trans f2) R2⟩
theorem PostR.assoc {α β γ : Type} {r : R α} {f : α → Store → R β} {g : β → Store → R γ} {k : γ → Store → Prop} {w : Exc → Store → Prop} (h : PostR ((r.bind f).bind g) k w) : PostR (r.bind fun a S => (f a S).bind g) k w := by
  cases r <;> exact h
def chainD (o p : Cm) (fa fb fc : FE) : FE := fun env S => (fa env S).bind fun x S1 => (fb env S1).bind fun y S2 => (opt (cmpD o (rd S2 x) (rd S2 y)) S2).bind fun t S2 =>
      if t then (fc env S2).bind fun z S3 => opt ((cmpD p (rd S3 y) (rd S3 z)).map .bool) S3 else .ok (.bool false) S2
theorem chain_core (c : Cok G P w base N n W X) (o p : Cm) {Q : VK} {σ : L2.St} {H : Hp} {Z : Hp} {A : List Addr} {env : EnvD} {S : Store} (hR : Rel G Z A S H) (hE : EnvR G Z A env σ)
    (hP : PostR (chainD o p fa fb fc env S) (fun d S' => ∀ H' Z' A' k, Fut H Z A H' Z' A' → Rel G Z' A' S' H' → d = .bool k → Q (.bl k) H') (fun x S' => KonX G H Z A x S' (W σ))) :
    tChain (rC2 G (cmpD o)) (rC2 G (cmpD p)) (tD G fa W) (tD G fb W) (tD G fc W) σ H Q :=
  step hR hE hP fun v d S1 Z1 A1 H1 f1 R1 E1 r1 P1 => step R1 E1 P1 fun u e S2 Z2 A2 H2 f2 R2 E2 r2 P2 => by
    obtain ⟨t, ht, k⟩ := P2.bind.opt
    refine ⟨Z2, A2, S2, d, e, t, R2, f2.rp r1, r2, ht, t, rfl, ?_⟩
    cases t with
    | false => exact k H2 Z2 A2 false (f1.trans f2) R2 rfl
    | true =>
      exact step R2 E2 k fun z g S3 Z3 A3 H3 f3 R3 E3 r3 P3 => by
        obtain ⟨r, hr, k⟩ := P3.opt
        obtain ⟨q, hq, rfl⟩ := Option.map_eq_some_iff.mp hr
        exact ⟨Z3, A3, S3, e, g, q, R3, f3.rp r2, r3, hq, k H3 Z3 A3 q ((f1.trans f2).trans f3) R3 rfl⟩
theorem s_chain (c : Cok G P w base N n W X) (o p : Cm) {z : Expr} (ha : PE X a (tD G fa W)) (hb : PE X b (tD G fb W)) (hc : PE X z (tD G fc W)) (hm : lastMarks [cmOf o, cmOf p] [b, z] = false) :
    PE X (.Compare a [cmOf o, cmOf p] [b, z] pos) (tD G (chainD o p fa fb fc) W) :=
  PE.imp (pe_chain (op_C c.K c.units o) (op_C c.K c.units p) ha hb hc hm) fun σ H Q ⟨Z, A, env, S, hR, hE, hP⟩ => chain_core c o p hR hE (hP.mono (fun d S' _ k H' Z' A' q f R e => by
    subst e
    exact k _ H' Z' A' f R (.bl q)) fun _ _ h => h)
theorem t_chain (c : Cok G P w base N n W X) (o p : Cm) {z : Expr} (ha : PE X a (tD G fa W)) (hb : PE X b (tD G fb W)) (hc : PE X z (tD G fc W)) (hm : lastMarks [cmOf o, cmOf p] [b, z] = false) :
    PT X (.Compare a [cmOf o, cmOf p] [b, z] pos) (tT G (fun env S => (chainD o p fa fb fc env S).bind fun x S1 => opt (truD (rd S1 x)) S1) W) :=
  PT.imp (pt_chain (op_C c.K c.units o) (op_C c.K c.units p) ha hb hc hm) fun σ H Q ⟨Z, A, env, S, hR, hE, hP⟩ => chain_core c o p hR hE (hP.bind.mono (fun d S' _ k H' Z' A' q f R e => by
    subst e
    obtain ⟨t, ht, k⟩ := PostR.opt k
    have et : q = t := by simpa [rd, truD] using ht
    subst et
    exact ⟨q, rfl, k H' Z' A' f R⟩) fun _ _ h => h)

/-! ### truth, and, or, not -/
/-- the truth, by values -/
theorem tru_V (hK : X.K = G.K) {Z H : Hp} {A : List Addr} {S : Store} {x : V} {d : D} {r : Bool} (hR : Rel G Z A S H) (hx : Rp G Z A x d) (hf : truD (rd S d) = some r) : TruV X.K x H r := by
  generalize hd : rd S d = d' at hf
  unfold truD at hf
  split at hf
  · cases hf
    obtain ⟨rfl, _⟩ := rd_none hx hd
    rfl
  · cases hf
    obtain ⟨rfl, _⟩ := rd_bool hx hd
    rfl
  · cases hf
    obtain ⟨rfl, _⟩ := rd_int hx hd
    rfl
  · split at hf <;> cases hf
    rename_i hz
    obtain ⟨rfl, _⟩ := rd_str hx hd
    refine ⟨by rw [← lim_eq]; exact hz, ?_⟩
    rename_i y _
    show decide (y.length ≠ 0) = ((y.length : Int) != 0)
    by_cases q : y.length = 0 <;> simp [q]
  · cases hf
    obtain ⟨a, vs, rfl, h1, h2⟩ := rd_list hR hx hd
    refine .inl ⟨vs, .of h1, ?_⟩
    cases h2 <;> rfl
  · cases hf
    obtain ⟨a, vs, rfl, h1, h2⟩ := rd_tup hR hx hd
    refine .inr (.inl ⟨vs, by rw [hK]; exact h1, ?_⟩)
    cases h2 <;> rfl
  · cases hf
/-- the test of an expression that has no own form as a test -/
def testF (f : FE) : FT := fun env S => (f env S).bind fun x S1 => opt (truD (rd S1 x)) S1
theorem t_plain (c : Cok G P w base N n W X) (ha : PE X a (tD G fa W)) (hp : ∀ whole, isTrue a X.env whole = (do let v ← whole; standAt a.pos; holding [v] (truthy v))) : PT X a (tT G (testF fa) W) :=
  PT.imp (pt_truth ha hp) fun σ H Q ⟨Z, A, env, S, hR, hE, hP⟩ => step hR hE hP fun v d S1 Z1 A1 H1 f1 R1 E1 r1 P1 => by
    obtain ⟨r, hr, k⟩ := P1.opt
    exact ⟨r, tru_V c.K R1 r1 hr, k H1 Z1 A1 f1 R1⟩
def andD (fa fb : FE) : FE := fun env S => (fa env S).bind fun x S1 => (opt (truD (rd S1 x)) S1).bind fun t S1 => if t then fb env S1 else .ok x S1
def orD (fa fb : FE) : FE := fun env S => (fa env S).bind fun x S1 => (opt (truD (rd S1 x)) S1).bind fun t S1 => if t then .ok x S1 else fb env S1
theorem s_and (c : Cok G P w base N n W X) {rest : List Expr} (ha : PE X a (tD G fa W)) (hb : PE X (.BoolOp .And (b :: rest) pos) (tD G fb W)) : PE X (.BoolOp .And (a :: b :: rest) pos) (tD G (andD fa fb) W) :=
  PE.imp (pe_andT ha hb) fun σ H Q ⟨Z, A, env, S, hR, hE, hP⟩ => step hR hE hP fun v d S1 Z1 A1 H1 f1 R1 E1 r1 P1 => by
    obtain ⟨t, ht, k⟩ := P1.bind.opt
    refine ⟨t, tru_V c.K R1 r1 ht, ?_⟩
    cases t with
    | true => exact ⟨Z1, A1, env, S1, R1, E1, PostR.mono k (fun _ _ _ h => Kon.fut h f1) fun _ _ h => h⟩
    | false => exact Kon.at_ (Kon.fut k f1) R1 r1
theorem s_or (c : Cok G P w base N n W X) {rest : List Expr} (ha : PE X a (tD G fa W)) (hb : PE X (.BoolOp .Or (b :: rest) pos) (tD G fb W)) : PE X (.BoolOp .Or (a :: b :: rest) pos) (tD G (orD fa fb) W) :=
  PE.imp (pe_orT ha hb) fun σ H Q ⟨Z, A, env, S, hR, hE, hP⟩ => step hR hE hP fun v d S1 Z1 A1 H1 f1 R1 E1 r1 P1 => by
    obtain ⟨t, ht, k⟩ := P1.bind.opt
    refine ⟨t, tru_V c.K R1 r1 ht, ?_⟩
    cases t with
    | false => exact ⟨Z1, A1, env, S1, R1, E1, PostR.mono k (fun _ _ _ h => Kon.fut h f1) fun _ _ h => h⟩
    | true => exact Kon.at_ (Kon.fut k f1) R1 r1
theorem pt_pw {op : BoolOp} {es : List Expr} {t : TT} (h : PT X (.BoolOp op es pos) t) : PW X (.BoolOp op es pos) t := ⟨fun whole pins s σ H Q I q => h.run pins s σ H Q I q⟩
theorem R.bind_assoc {α β γ : Type} (r : R α) (f : α → Store → R β) (g : β → Store → R γ) : (r.bind f).bind g = r.bind fun a S => (f a S).bind g := by cases r <;> rfl
theorem opt_bind {α β : Type} (o : Option α) (S : Store) (g : α → Store → R β) : (opt o S).bind g = match o with
    | some a => g a S
    | none => .bad := by cases o <;> rfl
theorem testF_and (fa fb : FE) (env : EnvD) (S : Store) : testF (andD fa fb) env S = (testF fa env S).bind fun t S1 => if t then testF fb env S1 else .ok false S1 := by
  unfold testF andD
  rw [R.bind_assoc, R.bind_assoc]
  congr 1
  funext d S1
  rw [R.bind_assoc, opt_bind, opt_bind]
  cases ht : truD (rd S1 d) with
  | none => rfl
  | some t =>
    cases t with
    | true => rfl
    | false =>
      show (opt (truD (rd S1 d)) S1) = _
      rw [ht]
      rfl
theorem testF_or (fa fb : FE) (env : EnvD) (S : Store) : testF (orD fa fb) env S = (testF fa env S).bind fun t S1 => if t then .ok true S1 else testF fb env S1 := by
  unfold testF orD
  rw [R.bind_assoc, R.bind_assoc]
  congr 1
  funext d S1
  rw [R.bind_assoc, opt_bind, opt_bind]
  cases ht : truD (rd S1 d) with
  | none => rfl
  | some t =>
    cases t with
    | false => rfl
    | true =>
      show (opt (truD (rd S1 d)) S1) = _
      rw [ht]
      rfl
theorem t_and {rest : List Expr} (ha : PT X a (tT G (testF fa) W)) (hb : PT X (.BoolOp .And (b :: rest) pos) (tT G (testF fb) W)) : PT X (.BoolOp .And (a :: b :: rest) pos) (tT G (testF (andD fa fb)) W) :=
  PT.imp (pw_and ha (pt_pw hb)).pt fun σ H Q ⟨Z, A, env, S, hR, hE, hP⟩ => by
    rw [testF_and] at hP
    exact stepT hR hE hP fun t S1 Z1 A1 H1 f1 R1 E1 P1 => by
      cases t with
      | true => exact ⟨Z1, A1, env, S1, R1, E1, PostR.mono P1 (fun _ _ _ h H2 Z2 A2 f2 R2 => h H2 Z2 A2 (f1.trans f2) R2) fun _ _ h => h⟩
      | false => exact P1 H1 Z1 A1 f1 R1
theorem t_or {rest : List Expr} (ha : PT X a (tT G (testF fa) W)) (hb : PT X (.BoolOp .Or (b :: rest) pos) (tT G (testF fb) W)) : PT X (.BoolOp .Or (a :: b :: rest) pos) (tT G (testF (orD fa fb)) W) :=
  PT.imp (pw_or ha (pt_pw hb)).pt fun σ H Q ⟨Z, A, env, S, hR, hE, hP⟩ => by
    rw [testF_or] at hP
    exact stepT hR hE hP fun t S1 Z1 A1 H1 f1 R1 E1 P1 => by
      cases t with
      | false => exact ⟨Z1, A1, env, S1, R1, E1, PostR.mono P1 (fun _ _ _ h H2 Z2 A2 f2 R2 => h H2 Z2 A2 (f1.trans f2) R2) fun _ _ h => h⟩
      | true => exact P1 H1 Z1 A1 f1 R1
def notD (fa : FE) : FE := fun env S => (fa env S).bind fun x S1 => opt ((truD (rd S1 x)).map fun t => .bool (!t)) S1
theorem s_not (c : Cok G P w base N n W X) (ha : PE X a (tD G fa W)) : PE X (.UnaryOp .Not a pos) (tD G (notD fa) W) :=
  PE.imp (pe_notT ha) fun σ H Q ⟨Z, A, env, S, hR, hE, hP⟩ => step hR hE hP fun v d S1 Z1 A1 H1 f1 R1 E1 r1 P1 => by
    obtain ⟨r, hr, k⟩ := P1.opt
    obtain ⟨t, ht, rfl⟩ := Option.map_eq_some_iff.mp hr
    exact ⟨t, tru_V c.K R1 r1 ht, (k.fut f1).at_ R1 (.bl _)⟩
theorem testF_not (fa : FE) (env : EnvD) (S : Store) : testF (notD fa) env S = (testF fa env S).bind fun t S1 => .ok (!t) S1 := by
  unfold testF notD
  rw [R.bind_assoc, R.bind_assoc]
  congr 1
  funext d S1
  rw [opt_bind, opt_bind]
  cases ht : truD (rd S1 d) with
  | none => rfl
  | some t => rfl
theorem t_not (ha : PT X a (tT G (testF fa) W)) : PT X (.UnaryOp .Not a pos) (tT G (testF (notD fa)) W) :=
  PT.imp (pt_not ha) fun σ H Q ⟨Z, A, env, S, hR, hE, hP⟩ => by
    rw [testF_not] at hP
    exact stepT hR hE hP fun t S1 Z1 A1 H1 f1 R1 E1 P1 => P1 H1 Z1 A1 f1 R1
def iteD (fc fa fb : FE) : FE := fun env S => (fc env S).bind fun x S1 => (opt (truD (rd S1 x)) S1).bind fun t S1 => if t then fa env S1 else fb env S1
theorem iteD_eq (fc fa fb : FE) (env : EnvD) (S : Store) : iteD fc fa fb env S = (testF fc env S).bind fun t S1 => if t then fa env S1 else fb env S1 := by
  unfold testF iteD
  rw [R.bind_assoc]
theorem testF_ite (fc fa fb : FE) (env : EnvD) (S : Store) : testF (iteD fc fa fb) env S = (testF fc env S).bind fun t S1 => if t then testF fa env S1 else testF fb env S1 := by
  unfold testF
  rw [iteD_eq]
  unfold testF
  rw [R.bind_assoc]
  congr 1
  funext t S1
  cases t <;> rfl
theorem s_ite {z : Expr} (hc : PT X z (tT G (testF fc) W)) (ha : PE X a (tD G fa W)) (hb : PE X b (tD G fb W)) : PE X (.IfExp z a b pos) (tD G (iteD fc fa fb) W) :=
  PE.imp (pe_ifExp hc ha hb) fun σ H Q ⟨Z, A, env, S, hR, hE, hP⟩ => by
    rw [iteD_eq] at hP
    exact stepT hR hE hP fun t S1 Z1 A1 H1 f1 R1 E1 P1 => by
      cases t with
      | true => exact ⟨Z1, A1, env, S1, R1, E1, PostR.mono P1 (fun _ _ _ h => Kon.fut h f1) fun _ _ h => h⟩
      | false => exact ⟨Z1, A1, env, S1, R1, E1, PostR.mono P1 (fun _ _ _ h => Kon.fut h f1) fun _ _ h => h⟩
/-- the test of a conditional -/
theorem pt_ifE {z : Expr} {tc ta tb : TT} (hc : PT X z tc) (ha : PT X a ta) (hb : PT X b tb) : PT X (.IfExp z a b pos) (fun σ H Q => tc σ H fun t H1 => if t = true then ta σ H1 Q else tb σ H1 Q) := by
  refine ⟨fun pins s σ H Q I h => ?_⟩
  show wpAny _ _ (do if ← isTrue z X.env (eval z X.env) then isTrue a X.env (eval a X.env) else isTrue b X.env (eval b X.env)) _ _ _
  refine wpAny_bind (thn (hc.run pins s σ H _ I h) fun d s1 ⟨H1, I1, q1⟩ => ?_)
  cases d with
  | true => exact ha.run pins s1 σ H1 Q I1 q1
  | false => exact hb.run pins s1 σ H1 Q I1 q1
theorem t_ite {z : Expr} (hc : PT X z (tT G (testF fc) W)) (ha : PT X a (tT G (testF fa) W)) (hb : PT X b (tT G (testF fb) W)) : PT X (.IfExp z a b pos) (tT G (testF (iteD fc fa fb)) W) :=
  PT.imp (pt_ifE hc ha hb) fun σ H Q ⟨Z, A, env, S, hR, hE, hP⟩ => by
    rw [testF_ite] at hP
    exact stepT hR hE hP fun t S1 Z1 A1 H1 f1 R1 E1 P1 => by
      cases t with
      | true => exact ⟨Z1, A1, env, S1, R1, E1, PostR.mono P1 (fun _ _ _ h H2 Z2 A2 f2 R2 => h H2 Z2 A2 (f1.trans f2) R2) fun _ _ h => h⟩
      | false => exact ⟨Z1, A1, env, S1, R1, E1, PostR.mono P1 (fun _ _ _ h H2 Z2 A2 f2 R2 => h H2 Z2 A2 (f1.trans f2) R2) fun _ _ h => h⟩

/-! ### argument lists, displays -/
theorem a_nil : PA X [] (tA G (fun _ S => .ok [] S) W) :=
  PA.imp pa_nil fun σ H Q ⟨Z, A, env, S, hR, hE, hP⟩ => hP [] H Z A .refl hR .nil
theorem a_cons {es : List Expr} {fs : FA} (ha : PE X e (tD G fa W)) (hr : PA X es (tA G fs W)) (hs : starEach (e :: es) X.env = (false, eval e X.env) :: starEach es X.env) :
    PA X (e :: es) (tA G (fun env S => (fa env S).bind fun d S1 => (fs env S1).bind fun ds S2 => .ok (d :: ds) S2) W) :=
  PA.imp (pa_cons ha hr hs) fun σ H Q ⟨Z, A, env, S, hR, hE, hP⟩ => step hR hE hP fun v d S1 Z1 A1 H1 f1 R1 E1 r1 P1 => stepA R1 E1 P1 fun vs ds S2 Z2 A2 H2 f2 R2 E2 r2 P2 =>
    P2 (v :: vs) H2 Z2 A2 (f1.trans f2) R2 (.cons (f2.rp r1) r2)
variable {es : List Expr} {fs : FA}
theorem fits_some {ds : List D} {r : List D} (h : fits ds = some r) : r = ds ∧ ds.length ≤ lim := by
  unfold fits at h
  split at h
  · cases h
    rename_i hz
    exact ⟨rfl, hz⟩
  · cases h
theorem s_tup {x1} (h : PA X es (tA G fs W)) : PE X (.Tuple es x1 pos) (tD G (fun env S => (fs env S).bind fun ds S1 => opt ((fits ds).map .tuple) S1) W) :=
  PE.imp (pe_tup h) fun σ H Q ⟨Z, A, env, S, hR, hE, hP⟩ => stepA hR hE hP fun vs ds S1 Z1 A1 H1 f1 R1 E1 r1 P1 => by
    obtain ⟨r, hr, k⟩ := P1.opt
    obtain ⟨q, hq, rfl⟩ := Option.map_eq_some_iff.mp hr
    obtain ⟨rfl, hz⟩ := fits_some hq
    exact ⟨by rw [r1.length, ← lim_eq]; exact hz, (k.fut f1).tup R1 r1⟩
theorem give_post {mu : Bool} {ds : List D} {S1 : Store} {Z H Z1 H1 : Hp} {A A1 : List Addr} {Q : VK} {w : Exc → Store → Prop} {vs : List V} (k : PostR (give mu ds S1) (fun d S' => Kon G H Z A d S' Q) w) (f1 : Fut H Z A H1 Z1 A1) (R1 : Rel G Z1 A1 S1 H1) (r1 : RpAll G Z1 A1 vs ds) :
    ∀ p, H1 p = none → Q (.ref p) (upd H1 p (.lst vs)) := by
  unfold give at k
  cases mu with
  | true => exact (Kon.fut k f1).obj R1 r1
  | false => exact (Kon.fut k f1).lst R1 r1
theorem s_lst (mu : Bool) (h : PA X es (tA G fs W)) : PE X (.List es pos) (tD G (fun env S => (fs env S).bind fun ds S1 => if ds.length ≤ lim then give mu ds S1 else .bad) W) :=
  PE.imp (pe_lst h) fun σ H Q ⟨Z, A, env, S, hR, hE, hP⟩ => stepA hR hE hP fun vs ds S1 Z1 A1 H1 f1 R1 E1 r1 P1 => by
    by_cases hz : ds.length ≤ lim
    · rw [if_pos hz] at P1
      exact ⟨by rw [r1.length, ← lim_eq]; exact hz, give_post P1 f1 R1 r1⟩
    · rw [if_neg hz] at P1
      exact P1.elim
/-! ### subscripts -/
theorem s_ix (c : Cok G P w base N n W X) (ha : PE X a (tD G fa W)) (hb : PE X b (tD G fb W)) (hs : PlainIx b) :
    PE X (.Subscript a b pos) (tD G (fun env S => (fa env S).bind fun x S1 => (fb env S1).bind fun y S2 => opt (ixD (rd S2 x) y) S2) W) :=
  PE.imp (pe_ix (ix_D c.K) ha hb hs) fun σ H Q ⟨Z, A, env, S, hR, hE, hP⟩ =>
    step hR hE hP fun v d S1 Z1 A1 H1 f1 R1 E1 r1 P1 => step R1 E1 P1 fun u e S2 Z2 A2 H2 f2 R2 E2 r2 P2 => by
      obtain ⟨r, hr, k⟩ := P2.opt
      exact ⟨Z2, A2, S2, d, e, r, R2, f2.rp r1, r2, hr, fun v hv => (k.fut (f1.trans f2)).at_ R2 hv⟩
theorem asInt_rp {Z : Hp} {A : List Addr} {v : V} {d : D} {i : Int} (h : asInt d = some i) (r : Rp G Z A v d) : v = .int i := by
  cases d <;> simp [asInt] at h
  subst h
  cases r
  rfl
variable {lo hi : Expr} {p2 : Pos}
theorem s_slL (c : Cok G P w base N n W X) (ha : PE X a (tD G fa W)) (hb : PE X lo (tD G fb W)) :
    PE X (.Subscript a (.Slice (some lo) none none p2) pos) (tD G (fun env S => (fa env S).bind fun x S1 => (fb env S1).bind fun y S2 => opt ((asInt y).bind fun i => cutD (rd S2 x) (some i) none) S2) W) :=
  PE.imp (pe_slice (sl_D c.K) ha (po_some hb) po_none) fun σ H Q ⟨Z, A, env, S, hR, hE, hP⟩ =>
    step hR hE hP fun v d S1 Z1 A1 H1 f1 R1 E1 r1 P1 => step R1 E1 P1 fun u e S2 Z2 A2 H2 f2 R2 E2 r2 P2 => by
      obtain ⟨r, hr, k⟩ := P2.opt
      obtain ⟨i, hi, hr⟩ := Option.bind_eq_some_iff.mp hr
      exact ⟨i, asInt_rp hi r2, Z2, A2, S2, d, r, R2, f2.rp r1, hr, k.fut (f1.trans f2)⟩
theorem s_slH (c : Cok G P w base N n W X) (ha : PE X a (tD G fa W)) (hb : PE X hi (tD G fb W)) :
    PE X (.Subscript a (.Slice none (some hi) none p2) pos) (tD G (fun env S => (fa env S).bind fun x S1 => (fb env S1).bind fun y S2 => opt ((asInt y).bind fun i => cutD (rd S2 x) none (some i)) S2) W) :=
  PE.imp (pe_slice (sl_D c.K) ha po_none (po_some hb)) fun σ H Q ⟨Z, A, env, S, hR, hE, hP⟩ =>
    step hR hE hP fun v d S1 Z1 A1 H1 f1 R1 E1 r1 P1 => step R1 E1 P1 fun u e S2 Z2 A2 H2 f2 R2 E2 r2 P2 => by
      obtain ⟨r, hr, k⟩ := P2.opt
      obtain ⟨i, hi, hr⟩ := Option.bind_eq_some_iff.mp hr
      exact ⟨i, asInt_rp hi r2, Z2, A2, S2, d, r, R2, f2.rp r1, hr, k.fut (f1.trans f2)⟩
theorem s_slB (c : Cok G P w base N n W X) (ha : PE X a (tD G fa W)) (hb : PE X lo (tD G fb W)) (hc : PE X hi (tD G fc W)) :
    PE X (.Subscript a (.Slice (some lo) (some hi) none p2) pos) (tD G (fun env S => (fa env S).bind fun x S1 => (fb env S1).bind fun y S2 => (opt (asInt y) S2).bind fun i S2 => (fc env S2).bind fun z S3 =>
      opt ((asInt z).bind fun j => cutD (rd S3 x) (some i) (some j)) S3) W) :=
  PE.imp (pe_slice (sl_D c.K) ha (po_some hb) (po_some hc)) fun σ H Q ⟨Z, A, env, S, hR, hE, hP⟩ =>
    step hR hE hP fun v d S1 Z1 A1 H1 f1 R1 E1 r1 P1 => step R1 E1 P1 fun u e S2 Z2 A2 H2 f2 R2 E2 r2 P2 => by
      obtain ⟨i, hi, P2⟩ := P2.bind.opt
      exact ⟨i, asInt_rp hi r2, step R2 E2 P2 fun z g S3 Z3 A3 H3 f3 R3 E3 r3 P3 => by
        obtain ⟨r, hr, k⟩ := P3.opt
        obtain ⟨j, hj, hr⟩ := Option.bind_eq_some_iff.mp hr
        exact ⟨j, asInt_rp hj r3, Z3, A3, S3, d, r, R3, f3.rp (f2.rp r1), hr, k.fut ((f1.trans f2).trans f3)⟩⟩
end
end Mp
set_option maxHeartbeats 200000
/-! Mp.Prim: calls of built-ins by data. -/
namespace PySem.W
open PySem PyProof.Rows PySem.Calls
section
variable {prog : Program} {w : World} {A : Around} {E : Value → Shared → Prop} {s : Shared}
theorem mpCollectTup {l : Addr} {vs : List Value} {Q : List Value → Shared → Prop} (hl : IsTup s.heap l vs.toArray)
    (h : Q vs { s with heap := (s.heap.push (seqObj "list" #[] 0)).update s.heap.objs.size (Obj.mapSeq (· ++ vs.toArray)) }) (hsz : vs.length ≤ sizeLine) :
    wpAny (model prog w) A (collect (.ref l)) Q E s := by
  obtain ⟨o, ho, hc, n, hd⟩ := id hl
  unfold collect
  refine wpAny_bind (wpAny_runValue (codeAny_builtin entry_proto_collect' ?_))
  show wpAny _ _ (do again (.builtin "list.__iadd__" ⟨[← newList [], .ref l], []⟩)) _ _ s
  refine wpAny_bind (wpAny_newList (wpAny_pure ⟨Code.quiet_builtin _ (by decide +kernel), codeAny_builtin entry_list_iadd' ?_⟩))
  show wpAny _ _ (Builtin.List.listExtendWith (.ref s.heap.objs.size) (.ref l) (.ref s.heap.objs.size)) _ _ { s with heap := s.heap.push (seqObj "list" #[] 0) }
  unfold Builtin.List.listExtendWith
  have ho' : (s.heap.push (seqObj "list" #[] 0)).get? l = some o := Heap.get?_push_of_some _ ho
  refine wpAny_bind (wpAny_typeOf (T := "tuple") ⟨o, ho', hc⟩ ?_)
  have ht : (Value.type "tuple" == Value.type "tuple") = true := by rfl
  rw [if_pos (by rw [ht]; simp)]
  refine wpAny_bind (listItems_at ho' hd ?_)
  refine wpAny_bind (listItems_at (xs := #[]) (n := 0) (Heap.get?_push_size _ rfl) rfl ?_)
  rw [if_neg (by simp)]
  refine wpAny_bind (listUpdate_at (xs := #[]) (n := 0) (Heap.get?_push_size _ rfl) rfl ?_ (Nat.zero_le _) (by show (#[] ++ vs.toArray).size ≤ sizeLine + 1; simp only [Array.size_append, List.size_toArray, List.length_nil]; omega))
  refine wpAny_pure ?_
  show wpAny (model prog w) A (do
      let o ← load s.heap.objs.size
      match o.data with
      | .seq xs _ => pure xs.toList
      | _ => unsupported "internal:collect") Q E { s with heap := (s.heap.push (seqObj "list" #[] 0)).update s.heap.objs.size (Obj.mapSeq (· ++ vs.toArray)) }
  refine wpAny_bind (wpAny_load (get?_update_seq (Heap.get?_push_size _ rfl) _) ?_)
  show wpAny _ _ (pure ((#[] : Array Value) ++ vs.toArray).toList) Q E _
  rw [show ((#[] : Array Value) ++ vs.toArray).toList = vs by simp]
  exact wpAny_pure h
/-- collected -/
def MpColl (prog : Program) (w : World) (s : Shared) (l : Addr) (vs : List Value) : Prop := ∀ (A : Around) (E : Value → Shared → Prop) (Q : List Value → Shared → Prop),
  Q vs { s with heap := (s.heap.push (seqObj "list" #[] 0)).update s.heap.objs.size (Obj.mapSeq (· ++ vs.toArray)) } → wpAny (model prog w) A (collect (.ref l)) Q E s
theorem mpSortedOf {l : Addr} {vs : List Value} {kw : List (Str × Value)} {Q : Value → Shared → Prop} (hl : MpColl prog w s l vs) (hL : vs.length ≤ sizeLine) (ha1 : argsOk "sorted" ⟨[.ref l], kw⟩) (ha2 : ∀ x, argsOk "list.sort" ⟨[.ref x], kw⟩)
    (body : ∀ E' : Value → Shared → Prop, wpAny (model prog w) A.in1.in1 (Builtin.«list.sort» ⟨[.ref (s.heap.objs.size + 1)], kw⟩) (fun f s' => f = .done (.ret .none) ∧ Q (.ref (s.heap.objs.size + 1)) s') E' { s with heap := copyHeap s.heap vs }) :
    wpAny (model prog w) A (call (.builtin "sorted") [.ref l] kw) Q E s := by
  refine call_function_entry_kw kind_sorted plain_sorted entry_sorted ha1 ?_
  unfold Builtin.«sorted»
  refine wpAny_bind (m := checkCount "sorted" 1 1 _) (wpAny_pure ?_)
  refine wpAny_bind (hl _ _ _ ?_)
  refine wpAny_bind (wpAny_newList ?_ hL)
  have hsz : ((s.heap.push (seqObj "list" #[] 0)).update s.heap.objs.size (Obj.mapSeq (· ++ vs.toArray))).objs.size = s.heap.objs.size + 1 := by
    rw [Heap.size_update, size_push']
  show wpAny _ _ _ _ _ { s with heap := copyHeap s.heap vs }
  rw [hsz]
  refine wpAny_bind (wpAny_holding (wpAny_call_entry_kw slot_list_sort ⟨_, copyHeap_at s.heap vs, rfl⟩ entry_list_sort ?body (ha2 _)))
  case body =>
    show wpAny (model prog w) A.in1.in1 (Builtin.«list.sort» ⟨[.ref (s.heap.objs.size + 1)], kw⟩) _ _ _
    refine wpAny_mono (body _) (fun f s' hf => ?_) fun _ _ e => e
    obtain ⟨rfl, hq⟩ := hf
    exact ⟨_, rfl, wpAny_pure ⟨_, rfl, hq⟩⟩
/-- sorted(xs), a list or a tuple -/
theorem mpSorted {β : Type} {vs : List Value} {bs : List β} {enc : β → PyData} {R : Value → β → Prop} {l : Addr} {Q : Value → Shared → Prop} (hl : MpColl prog w s l vs) (e : EachIs R vs bs) (er : EachIs (fun v b => ∃ as, Reads s.heap v (enc b) as) vs bs) (hal : AllAlike (bs.map enc)) (hk : Sortable (bs.map enc)) (hL : bs.length ≤ sizeLine)
    (hu : ∀ b, b ∈ bs → A.units + 2 + (enc b).depth < cLine) (h : ∀ out, out.length = bs.length → EachIs R out (bs.mergeSort (dataLe false enc)) → Q (.ref (s.heap.objs.size + 1)) { s with heap := sortedAll s.heap vs (List.toArray out) }) :
    wpAny (model prog w) A (call (.builtin "sorted") [.ref l]) Q E s := by
  have er' : EachIs (fun v b => ∃ as, Reads (sortingHeap (copyHeap s.heap vs) (s.heap.objs.size + 1) vs) v (enc b) as) vs bs := er.mono fun _ _ ⟨as, r⟩ => ⟨as, PyProof.Rows.Reads.keeps (fun _ _ => sorting_copy_old) r⟩
  have hL' : vs.length ≤ sizeLine := by rw [e.length]; exact hL
  refine mpSortedOf hl hL' (args_sorted1 _) (fun _ => args_list_sort _) fun _ => list_sort_vals (s := { s with heap := copyHeap s.heap vs }) (copyHeap_at s.heap vs)
    (SortsAt.data (s := { s with heap := sortingHeap (copyHeap s.heap vs) (s.heap.objs.size + 1) vs }) (each_map (R := fun v d => ∃ as, Reads (sortingHeap (copyHeap s.heap vs) (s.heap.objs.size + 1) vs) v d as) enc er') hal hk (bound_map hu)) hL'
    ⟨rfl, h _ (by rw [sortVals_length false rfl]; exact e.length) (sortVals_data false e er' hal)⟩
end
end PySem.W
namespace Mp
open PySem PySem.Spec PyProof.Rows L2
/-! ### insertion is the stable sort -/
theorem isort_merge {β : Type} (k : β → D) : ∀ l : List β, (l.mergeSort (PySem.W.dataLe false k)).map k = isort tupleLt (l.map k)
  | [] => by simp [isort]
  | a :: l => by
    have T := PySem.W.sortLe_total (PyProof.Rows.listOrd PyProof.Rows.itemOrd) false fun b => PySem.W.keyToks (k b)
    obtain ⟨l1, l2, h1, h2, h3⟩ := List.mergeSort_cons (le := PySem.W.dataLe false k) (fun a b c => T.trans a b c) (fun a b => Bool.or_eq_true_iff.mpr (T.total a b)) a l
    have ih := isort_merge k l
    have hs := List.pairwise_mergeSort (le := PySem.W.dataLe false k) (fun a b c => T.trans a b c) (fun a b => Bool.or_eq_true_iff.mpr (T.total a b)) (a :: l)
    rw [h1] at hs
    rw [h1, List.map_cons]
    show _ = ins tupleLt (k a) (isort tupleLt (l.map k))
    rw [← ih, h2]
    have go : ∀ l1 : List β, (∀ b ∈ l1, (!PySem.W.dataLe false k a b) = true) → List.Pairwise (fun a b => PySem.W.dataLe false k a b = true) (l1 ++ a :: l2) →
        ins tupleLt (k a) ((l1 ++ l2).map k) = (l1 ++ a :: l2).map k := by
      intro l1
      induction l1 with
      | nil =>
        intro _ hs
        cases l2 with
        | nil => rfl
        | cons b r =>
          have q : PySem.W.dataLe false k a b = true := (List.pairwise_cons.mp hs).1 b List.mem_cons_self
          have q' : tupleLt (k b) (k a) = false := by
            have z : (!PySem.W.dataLt (k b) (k a)) = true := q
            simpa [tupleLt] using z
          show (if tupleLt (k b) (k a) then _ else _) = _
          rw [q']
          rfl
      | cons b r ih =>
        intro h hs
        have q := h b List.mem_cons_self
        have q' : tupleLt (k b) (k a) = true := by
          have z : (!(!PySem.W.dataLt (k b) (k a))) = true := q
          simpa [tupleLt] using z
        show (if tupleLt (k b) (k a) then k b :: ins tupleLt (k a) ((r ++ l2).map k) else _) = _
        rw [q', ih (fun c hc => h c (List.mem_cons_of_mem _ hc)) (List.pairwise_cons.mp hs).2]
        rfl
    exact (go l1 h3 hs).symm

def rP (G : Wd) (p : Pr) : List V → Hp → VK → Prop := fun vs H Q => ∃ Z A S ds d, Rel G Z A S H ∧ RpAll G Z A vs ds ∧ primD p (ds.map (rd S)) = some d ∧ PostR (giveD p.mut d S) (fun d S' => Kon G H Z A d S' Q) (fun _ _ => False)
section
variable {G : Wd} {X : Cx} {Z H : Hp} {A : List Addr} {S : Store} {ds : List D} {vs : List V} {x y : D}
theorem rp1 (hv : RpAll G Z A vs ds) (h : ds.map (rd S) = [x]) : ∃ v d, vs = [v] ∧ ds = [d] ∧ rd S d = x ∧ Rp G Z A v d := by
  match ds, h with
  | [d], h =>
    cases hv with
    | cons h1 h2 =>
      cases h2
      exact ⟨_, d, rfl, rfl, by simpa using h, h1⟩
theorem rp2 (hv : RpAll G Z A vs ds) (h : ds.map (rd S) = [x, y]) : ∃ v d w e, vs = [v, w] ∧ ds = [d, e] ∧ rd S d = x ∧ rd S e = y ∧ Rp G Z A v d ∧ Rp G Z A w e := by
  match ds, h with
  | [d, e], h =>
    have h' : rd S d = x ∧ rd S e = y := by simpa using h
    cases hv with
    | cons h1 h2 =>
      cases h2 with
      | cons h3 h4 =>
        cases h4
        exact ⟨_, d, _, e, rfl, rfl, h'.1, h'.2, h1, h3⟩
theorem asInts_map : ∀ {ds : List D} {ns : List Int}, asInts ds = some ns → ds = ns.map PyData.int
  | [], _, h => by
    simp [asInts] at h
    subst h
    rfl
  | d :: r, _, h => by
    cases d <;> simp [asInts] at h
    obtain ⟨ms, h1, rfl⟩ := h
    rw [List.map_cons, ← asInts_map h1]
theorem rpInts : ∀ {ns : List Int} {vs : List V}, RpAll G Z A vs (ns.map PyData.int) → vs = ns.map V.int
  | [], _, h => by cases h; rfl
  | n :: r, _, h => by
    cases h with
    | cons h1 h2 =>
      cases h1
      rw [List.map_cons, ← rpInts h2]
theorem intsRp : ∀ (ns : List Int), RpAll G Z A (ns.map V.int) (ns.map PyData.int)
  | [] => .nil
  | n :: r => .cons (.int n) (intsRp r)
theorem cr_len (hK : X.K = G.K) : CallR X (.builtin "len") (rP G .len) := by
  intro pins s σ H xs us Q I r h
  obtain ⟨Z, A, S, ds, d, hR, hv, hf, k⟩ := h
  replace k : Kon G H Z A d S Q := k
  replace hf : lenD (ds.map (rd S)) = some d := hf
  generalize hm : ds.map (rd S) = as at hf
  unfold lenD at hf
  split at hf
  · cases hf
    obtain ⟨v, d, rfl, rfl, h1, h2⟩ := rp1 hv hm
    obtain ⟨a, ws, rfl, h3, h4⟩ := rd_list hR h2 h1
    exact call_len pins s σ H _ us Q I r ⟨_, ws.length, rfl, .inl ⟨ws, .of h3, rfl⟩, by rw [h4.length]; exact k.at_ hR (.int _)⟩
  · cases hf
    obtain ⟨v, d, rfl, rfl, h1, h2⟩ := rp1 hv hm
    obtain ⟨a, ws, rfl, h3, h4⟩ := rd_tup hR h2 h1
    exact call_len pins s σ H _ us Q I r ⟨_, ws.length, rfl, .inr ⟨ws, by rw [hK]; exact h3, rfl⟩, by rw [h4.length]; exact k.at_ hR (.int _)⟩
  · cases hf
    obtain ⟨v, d, rfl, rfl, h1, h2⟩ := rp1 hv hm
    obtain ⟨a, ns, rfl, h3, rfl⟩ := rd_scr hR h2 h1
    exact call_len pins s σ H _ us Q I r ⟨_, (ns.map V.int).length, rfl, .inl ⟨_, by rw [hK]; exact h3, rfl⟩, by
      rw [List.length_map] at k ⊢
      exact k.at_ hR (.int _)⟩
  · split at hf <;> cases hf
    rename_i hz
    obtain ⟨v, d, rfl, rfl, h1, h2⟩ := rp1 hv hm
    obtain ⟨rfl, _⟩ := rd_str h2 h1
    exact call_len pins s σ H _ us Q I r ⟨_, _, rfl, ⟨by rw [← lim_eq]; exact hz, rfl⟩, k.at_ hR (.int _)⟩
  · cases hf
theorem cr_min2 (hc : X.calm = true) : CallR X (.builtin "min") (rP G .min2) := by
  intro pins s σ H xs us Q I r h
  obtain ⟨Z, A, S, ds, d, hR, hv, hf, k⟩ := h
  replace k : Kon G H Z A d S Q := k
  replace hf : min2D (ds.map (rd S)) = some d := hf
  generalize hm : ds.map (rd S) = as at hf
  unfold min2D at hf
  split at hf
  · cases hf
    obtain ⟨v, d, w, e, rfl, rfl, h1, h2, h3, h4⟩ := rp2 hv hm
    obtain ⟨rfl, _⟩ := rd_int h3 h1
    obtain ⟨rfl, _⟩ := rd_int h4 h2
    exact call_min2 hc pins s σ H _ us Q I r ⟨_, _, rfl, k.at_ hR (.int _)⟩
  · cases hf
theorem cr_max2 (hc : X.calm = true) : CallR X (.builtin "max") (rP G .max2) := by
  intro pins s σ H xs us Q I r h
  obtain ⟨Z, A, S, ds, d, hR, hv, hf, k⟩ := h
  replace k : Kon G H Z A d S Q := k
  replace hf : max2D (ds.map (rd S)) = some d := hf
  generalize hm : ds.map (rd S) = as at hf
  unfold max2D at hf
  split at hf
  · cases hf
    obtain ⟨v, d, w, e, rfl, rfl, h1, h2, h3, h4⟩ := rp2 hv hm
    obtain ⟨rfl, _⟩ := rd_int h3 h1
    obtain ⟨rfl, _⟩ := rd_int h4 h2
    exact call_max2 hc pins s σ H _ us Q I r ⟨_, _, rfl, k.at_ hR (.int _)⟩
  · cases hf
theorem maxI_is {ns : List Int} {m : Int} (h : maxI ns = some m) : m ∈ ns ∧ ∀ y ∈ ns, y ≤ m := by
  have go : ∀ (r : List Int) (x : Int), (r.foldl (fun a b => if b > a then b else a) x) ∈ x :: r ∧ ∀ y ∈ x :: r, y ≤ r.foldl (fun a b => if b > a then b else a) x := by
    intro r
    induction r with
    | nil => intro x; exact ⟨List.mem_cons_self, fun y hy => by simp at hy; subst hy; exact Int.le_refl _⟩
    | cons b r ih =>
      intro x
      rw [List.foldl_cons]
      obtain ⟨h1, h2⟩ := ih (if b > x then b else x)
      refine ⟨?_, fun y hy => ?_⟩
      · rcases List.mem_cons.mp h1 with h | h
        · rw [h]
          split
          · exact List.mem_cons_of_mem _ List.mem_cons_self
          · exact List.mem_cons_self
        · exact List.mem_cons_of_mem _ (List.mem_cons_of_mem _ h)
      · have h0 := h2 _ List.mem_cons_self
        rcases List.mem_cons.mp hy with h | h
        · subst h
          split at h0 <;> rename_i hb
          · split <;> omega
          · split <;> omega
        · rcases List.mem_cons.mp h with h | h
          · subst h
            split at h0 <;> rename_i hb
            · split <;> omega
            · split <;> omega
          · exact h2 y (List.mem_cons_of_mem _ h)
  cases ns with
  | nil => cases h
  | cons x r =>
    have h : some (r.foldl (fun a b => if b > a then b else a) x) = some m := h
    cases h
    exact go r x
theorem minI_is {ns : List Int} {m : Int} (h : minI ns = some m) : m ∈ ns ∧ ∀ y ∈ ns, m ≤ y := by
  have go : ∀ (r : List Int) (x : Int), (r.foldl (fun a b => if b < a then b else a) x) ∈ x :: r ∧ ∀ y ∈ x :: r, r.foldl (fun a b => if b < a then b else a) x ≤ y := by
    intro r
    induction r with
    | nil => intro x; exact ⟨List.mem_cons_self, fun y hy => by simp at hy; subst hy; exact Int.le_refl _⟩
    | cons b r ih =>
      intro x
      rw [List.foldl_cons]
      obtain ⟨h1, h2⟩ := ih (if b < x then b else x)
      refine ⟨?_, fun y hy => ?_⟩
      · rcases List.mem_cons.mp h1 with h | h
        · rw [h]
          split
          · exact List.mem_cons_of_mem _ List.mem_cons_self
          · exact List.mem_cons_self
        · exact List.mem_cons_of_mem _ (List.mem_cons_of_mem _ h)
      · have h0 := h2 _ List.mem_cons_self
        rcases List.mem_cons.mp hy with h | h
        · subst h
          split at h0 <;> rename_i hb
          · split <;> omega
          · split <;> omega
        · rcases List.mem_cons.mp h with h | h
          · subst h
            split at h0 <;> rename_i hb
            · split <;> omega
            · split <;> omega
          · exact h2 y (List.mem_cons_of_mem _ h)
  cases ns with
  | nil => cases h
  | cons x r =>
    have h : some (r.foldl (fun a b => if b < a then b else a) x) = some m := h
    cases h
    exact go r x
theorem rd_ints (hR : Rel G Z A S H) {v : V} {d : D} {es : List D} {ns : List Int} (h2 : Rp G Z A v d) (h1 : rd S d = .list es) (hn : asInts es = some ns) : ∃ a, v = .ref a ∧ H a = some (.lst (ns.map V.int)) := by
  obtain ⟨a, ws, rfl, h3, h4⟩ := rd_list hR h2 h1
  rw [asInts_map hn] at h4
  rw [rpInts h4] at h3
  exact ⟨a, rfl, h3⟩
theorem rd_intsT (hR : Rel G Z A S H) {v : V} {d : D} {es : List D} {ns : List Int} (h2 : Rp G Z A v d) (h1 : rd S d = .tuple es) (hn : asInts es = some ns) : ∃ a, v = .ref a ∧ SqT G.K H a (ns.map V.int) := by
  obtain ⟨a, ws, rfl, h3, h4⟩ := rd_tup hR h2 h1
  rw [asInts_map hn] at h4
  rw [rpInts h4] at h3
  exact ⟨a, rfl, h3⟩
theorem cr_max1 (hc : X.calm = true) : CallR X (.builtin "max") (rP G .max1) := by
  intro pins s σ H xs us Q I r h
  obtain ⟨Z, A, S, ds, d, hR, hv, hf, k⟩ := h
  replace k : Kon G H Z A d S Q := k
  replace hf : max1D (ds.map (rd S)) = some d := hf
  generalize hm : ds.map (rd S) = as at hf
  unfold max1D at hf
  split at hf
  · obtain ⟨m, hb, rfl⟩ := Option.map_eq_some_iff.mp hf
    obtain ⟨ns, hn, hx⟩ := Option.bind_eq_some_iff.mp hb
    obtain ⟨v, d, rfl, rfl, h1, h2⟩ := rp1 hv hm
    obtain ⟨a, rfl, h3⟩ := rd_ints hR h2 h1 hn
    obtain ⟨m1, m2⟩ := maxI_is hx
    exact cr_max hc pins s σ H _ us Q I r ⟨a, ns, rfl, .of h3, List.length_pos_of_mem m1, fun m' e1 e2 => by
      have e : m' = m := Int.le_antisymm (m2 m' e1) (e2 m m1)
      rw [e]
      exact k.at_ hR (.int _)⟩
  · cases hf
theorem cr_min1 (hc : X.calm = true) : CallR X (.builtin "min") (rP G .min1) := by
  intro pins s σ H xs us Q I r h
  obtain ⟨Z, A, S, ds, d, hR, hv, hf, k⟩ := h
  replace k : Kon G H Z A d S Q := k
  replace hf : min1D (ds.map (rd S)) = some d := hf
  generalize hm : ds.map (rd S) = as at hf
  unfold min1D at hf
  split at hf
  · obtain ⟨m, hb, rfl⟩ := Option.map_eq_some_iff.mp hf
    obtain ⟨ns, hn, hx⟩ := Option.bind_eq_some_iff.mp hb
    obtain ⟨v, d, rfl, rfl, h1, h2⟩ := rp1 hv hm
    obtain ⟨a, rfl, h3⟩ := rd_ints hR h2 h1 hn
    obtain ⟨m1, m2⟩ := minI_is hx
    exact cr_min hc pins s σ H _ us Q I r ⟨a, ns, rfl, .of h3, List.length_pos_of_mem m1, fun m' e1 e2 => by
      have e : m' = m := Int.le_antisymm (e2 m m1) (m2 m' e1)
      rw [e]
      exact k.at_ hR (.int _)⟩
  · cases hf
theorem cr_sum1 (hc : X.calm = true) : CallR X (.builtin "sum") (rP G .sum1) := by
  intro pins s σ H xs us Q I r h
  obtain ⟨Z, A, S, ds, d, hR, hv, hf, k⟩ := h
  replace k : Kon G H Z A d S Q := k
  replace hf : sum1D (ds.map (rd S)) = some d := hf
  generalize hm : ds.map (rd S) = as at hf
  unfold sum1D at hf
  split at hf
  · obtain ⟨ns, hn, rfl⟩ := Option.map_eq_some_iff.mp hf
    obtain ⟨v, d, rfl, rfl, h1, h2⟩ := rp1 hv hm
    obtain ⟨a, rfl, h3⟩ := rd_ints hR h2 h1 hn
    exact cr_sum hc pins s σ H _ us Q I r ⟨a, ns, rfl, .of h3, k.at_ hR (.int _)⟩
  · cases hf
theorem cr_tuple (hK : X.K = G.K) : CallR X (.type "tuple") (rP G .tuple) := by
  intro pins s σ H xs us Q I r h
  obtain ⟨Z, A, S, ds, d, hR, hv, hf, k⟩ := h
  replace k : Kon G H Z A d S Q := k
  replace hf : tupleD (ds.map (rd S)) = some d := hf
  generalize hm : ds.map (rd S) = as at hf
  unfold tupleD at hf
  split at hf
  · cases hf
    obtain ⟨v, d, rfl, rfl, h1, h2⟩ := rp1 hv hm
    obtain ⟨a, ws, rfl, h3, h4⟩ := rd_list hR h2 h1
    exact call_tuple_of pins s σ H _ us Q I r ⟨a, ws, rfl, .inl ⟨.of h3, k.tup hR h4⟩⟩
  · cases hf
    obtain ⟨v, d, rfl, rfl, h1, h2⟩ := rp1 hv hm
    obtain ⟨a, ws, rfl, h3, h4⟩ := rd_tup hR h2 h1
    exact call_tuple_of pins s σ H _ us Q I r ⟨a, ws, rfl, .inr ⟨by rw [hK]; exact h3, k.at_ hR (rd_tupR h2 h1)⟩⟩
  · cases hf
theorem cr_int1 : CallR X (.type "int") (rP G .int1) := by
  intro pins s σ H xs us Q I r h
  obtain ⟨Z, A, S, ds, d, hR, hv, hf, k⟩ := h
  replace k : Kon G H Z A d S Q := k
  replace hf : int1D (ds.map (rd S)) = some d := hf
  generalize hm : ds.map (rd S) = as at hf
  unfold int1D at hf
  split at hf
  · cases hf
    obtain ⟨v, d, rfl, rfl, h1, h2⟩ := rp1 hv hm
    obtain ⟨rfl, _⟩ := rd_int h2 h1
    exact call_int1 pins s σ H _ us Q I r (.inl ⟨_, rfl, k.at_ hR (.int _)⟩)
  · cases hf
    obtain ⟨v, d, rfl, rfl, h1, h2⟩ := rp1 hv hm
    obtain ⟨rfl, _⟩ := rd_bool h2 h1
    exact call_int1 pins s σ H _ us Q I r (.inr ⟨_, rfl, k.at_ hR (.int _)⟩)
  · cases hf
theorem cr_str1 : CallR X (.type "str") (rP G .str1) := by
  intro pins s σ H xs us Q I r h
  obtain ⟨Z, A, S, ds, d, hR, hv, hf, k⟩ := h
  replace k : Kon G H Z A d S Q := k
  replace hf : str1D (ds.map (rd S)) = some d := hf
  generalize hm : ds.map (rd S) = as at hf
  unfold str1D at hf
  split at hf
  · split at hf <;> cases hf
    rename_i hz
    obtain ⟨v, d, rfl, rfl, h1, h2⟩ := rp1 hv hm
    obtain ⟨rfl, _⟩ := rd_int h2 h1
    exact call_str_int pins s σ H _ us Q I r ⟨_, rfl, hz, k.at_ hR (.str _)⟩
  · cases hf
theorem cr_list1 (hK : X.K = G.K) (mu : Bool) : CallR X (.type "list") (rP G (.list1 mu)) := by
  intro pins s σ H xs us Q I r h
  obtain ⟨Z, A, S, ds, d, hR, hv, hf, k⟩ := h
  replace hf : list1D (ds.map (rd S)) = some d := hf
  generalize hm : ds.map (rd S) = as at hf
  have fin : ∀ (ws : List V) (es : List D), d = .list es → RpAll G Z A ws es → ∀ p, H p = none → Q (.ref p) (upd H p (.lst ws)) := by
    intro ws es e hw p hp
    subst e
    cases mu with
    | true => exact Kon.obj (show Kon G H Z A (oRef S.length) (S ++ [.lst es]) Q from k) hR hw p hp
    | false => exact Kon.lst (show Kon G H Z A (.list es) S Q from k) hR hw p hp
  unfold list1D at hf
  split at hf
  · cases hf
    obtain ⟨v, d, rfl, rfl, h1, h2⟩ := rp1 hv hm
    obtain ⟨a, ws, rfl, h3, h4⟩ := rd_list hR h2 h1
    exact call_list_of pins s σ H _ us Q I r ⟨a, ws, rfl, .inl (.of h3), fin ws _ rfl h4⟩
  · cases hf
    obtain ⟨v, d, rfl, rfl, h1, h2⟩ := rp1 hv hm
    obtain ⟨a, ws, rfl, h3, h4⟩ := rd_tup hR h2 h1
    exact call_list_of pins s σ H _ us Q I r ⟨a, ws, rfl, .inr (by rw [hK]; exact h3), fin ws _ rfl h4⟩
  · cases hf
end
end Mp
set_option maxHeartbeats 200000
/-! Mp.Prim2: sorted, len(set(..)), isinstance, tuple | list of ranges. -/
namespace Mp
open PySem PySem.Spec PyProof.Rows L2

section
variable {G : Wd} {X : Cx} {Z H : Hp} {A : List Addr} {S : Store} {ds : List D} {vs : List V}
theorem insI_map (x : Int) : ∀ l : List Int, ins tupleLt (.int x) (l.map PyData.int) = (insI x l).map PyData.int
  | [] => rfl
  | y :: r => by
    show (if tupleLt (.int y) (.int x) then _ else _) = _
    have e : tupleLt (.int y) (.int x) = decide (y < x) := PySem.W.dataLt_int y x
    have e2 : insI x (y :: r) = if y < x then y :: insI x r else x :: y :: r := rfl
    rw [e, insI_map x r, e2]
    by_cases h : y < x <;> simp [h]
theorem sortI_map : ∀ l : List Int, isort tupleLt (l.map PyData.int) = (sortI l).map PyData.int
  | [] => rfl
  | x :: r => by
    show ins tupleLt (.int x) (isort tupleLt (r.map PyData.int)) = _
    rw [sortI_map r, insI_map]
    rfl
theorem mem_ints {ns : List Int} {d : D} (h : d ∈ ns.map PyData.int) : ∃ n, d = .int n := by
  obtain ⟨n, _, rfl⟩ := List.mem_map.mp h
  exact ⟨n, rfl⟩
theorem fullInts_is {d : D} (h : fullInts d = true) : ∃ n ns, d = .tuple ((n :: ns).map PyData.int) := by
  unfold fullInts at h
  split at h
  · rename_i n xs
    cases e : asInts xs with
    | none => rw [e] at h; cases h
    | some ns => exact ⟨n, ns, by rw [asInts_map e]; rfl⟩
  · cases h
theorem alikeAll_ints : ∀ (ns ms : List Int), PySem.W.alikeAll (ns.map PyData.int) (ms.map PyData.int) = true
  | [], _ => by cases ‹List Int› <;> rfl
  | n :: ns, [] => rfl
  | n :: ns, m :: ms => by
    show (PySem.W.alike (.int n) (.int m) && PySem.W.alikeAll (ns.map PyData.int) (ms.map PyData.int)) = true
    rw [alikeAll_ints ns ms]
    rfl
theorem canLay_ints : ∀ ns : List Int, PyData.canLayAll0 (ns.map PyData.int) = true
  | [] => by simp [PyData.canLayAll0]
  | n :: ns => by
    rw [List.map_cons, PyData.canLayAll0, canLay_ints ns]
    simp [PyData.canLay0]
theorem depth_ints : ∀ ns : List Int, PyData.depthAll (ns.map PyData.int) = 0
  | [] => by simp [PyData.depthAll]
  | n :: ns => by
    rw [List.map_cons, PyData.depthAll, depth_ints ns]
    simp [PyData.depth]
/-- what a sort needs -/
theorem sortD_ok {ds es : List D} (h : sortD ds = some es) : es = isort tupleLt ds ∧ PySem.W.AllAlike ds ∧ PySem.W.Sortable ds ∧ (∀ d ∈ ds, d.canLay0 = true ∧ d.depth ≤ 64) := by
  unfold sortD at h
  split at h
  · rename_i ns hn
    cases h
    have e := asInts_map hn
    subst e
    refine ⟨(sortI_map ns).symm, fun d hd d' hd' => ?_, .inr fun d hd => ?_, fun d hd => ?_⟩
    · obtain ⟨n, rfl⟩ := mem_ints hd
      obtain ⟨m, rfl⟩ := mem_ints hd'
      rfl
    · obtain ⟨n, rfl⟩ := mem_ints hd
      exact ⟨(fun z => by cases z), (fun xs z => by cases z)⟩
    · obtain ⟨n, rfl⟩ := mem_ints hd
      exact ⟨by simp [PyData.canLay0], by simp [PyData.depth]⟩
  · split at h
    · rename_i hf
      cases h
      have hf := List.all_eq_true.mp hf
      refine ⟨rfl, fun d hd d' hd' => ?_, .inl fun d hd => ?_, fun d hd => ?_⟩
      · obtain ⟨n, ns, rfl⟩ := fullInts_is (hf d hd)
        obtain ⟨m, ms, rfl⟩ := fullInts_is (hf d' hd')
        exact alikeAll_ints _ _
      · obtain ⟨n, ns, rfl⟩ := fullInts_is (hf d hd)
        exact ⟨_, _, rfl⟩
      · obtain ⟨n, ns, rfl⟩ := fullInts_is (hf d hd)
        refine ⟨by rw [PyData.canLay0]; exact canLay_ints _, by rw [PyData.depth, depth_ints]; omega⟩
    · split at h
      · cases h
        rename_i hf
        simp only [Bool.and_eq_true] at hf
        obtain ⟨⟨h1, h2⟩, h3⟩ := hf
        have h1 := List.all_eq_true.mp h1
        have h2 := List.all_eq_true.mp h2
        have h3 := List.all_eq_true.mp h3
        refine ⟨rfl, fun d hd d' hd' => List.all_eq_true.mp (h3 d hd) d' hd', .inl fun d hd => ?_, fun d hd => ⟨SeqAt.canLay_of_shaped (h2 d hd), SeqAt.depth_of_shaped (h2 d hd)⟩⟩
        have q := h1 d hd
        unfold fullTup at q
        split at q
        · exact ⟨_, _, rfl⟩
        · cases q
      · cases h
theorem zip_each {us : List Value} : ∀ {vs : List V} {ds : List D}, RpAll G Z A vs ds → ∀ {us : List Value}, Vals vs us → PySem.W.EachIs (fun u (b : V × D) => RelV b.1 u) us (vs.zip ds)
  | _, _, .nil, _, .nil => .nil
  | _, _, .cons h1 h2, _, .cons r t => .cons r (zip_each h2 (us := us) t)
theorem zip_snd : ∀ {vs : List V} {ds : List D}, RpAll G Z A vs ds → (vs.zip ds).map Prod.snd = ds
  | _, _, .nil => rfl
  | _, _, .cons h1 h2 => by
    rw [List.zip_cons_cons, List.map_cons, zip_snd h2]
theorem zip_rp : ∀ {vs : List V} {ds : List D}, RpAll G Z A vs ds → ∀ b ∈ vs.zip ds, Rp G Z A b.1 b.2
  | _, _, .nil => fun b hb => by cases hb
  | _, _, .cons h1 h2 => fun b hb => by
    rw [List.zip_cons_cons] at hb
    rcases List.mem_cons.mp hb with e | e
    · subst e
      exact h1
    · exact zip_rp h2 b e
theorem rp_zip : ∀ (bs : List (V × D)), (∀ b ∈ bs, Rp G Z A b.1 b.2) → RpAll G Z A (bs.map Prod.fst) (bs.map Prod.snd)
  | [], _ => .nil
  | b :: bs, h => .cons (h b List.mem_cons_self) (rp_zip bs fun c hc => h c (List.mem_cons_of_mem _ hc))
theorem each_vals : ∀ {us : List Value} {bs : List (V × D)}, PySem.W.EachIs (fun u (b : V × D) => RelV b.1 u) us bs → Vals (bs.map Prod.fst) us
  | _, _, .nil => .nil
  | _, _, .cons h t => .cons h (each_vals t)
theorem zip_reads {pins : List (Addr × Obj)} {σ : L2.St} {s : Shared} {us : List Value} (I : Inv X pins σ H s) (hK : X.K = G.K) (hs : ∀ a o, Z a = some o → H a = some o) : ∀ {vs : List V} {ds : List D}, RpAll G Z A vs ds → (∀ d ∈ ds, d.canLay0 = true) → ∀ {us : List Value}, Vals vs us →
    PySem.W.EachIs (fun u (b : V × D) => ∃ as, Reads s.heap u b.2 as) us (vs.zip ds)
  | _, _, .nil, _, _, .nil => .nil
  | _, _, .cons (d := d) h1 h2, hc, _, .cons r t => by
    refine .cons ?_ (zip_reads (us := us) I hK hs h2 (fun d hd => hc d (List.mem_cons_of_mem _ hd)) t)
    have dp := Rp.dp hs d _ (hc d List.mem_cons_self) h1
    rw [← hK] at dp
    exact Dp.reads I _ _ _ dp r
theorem sorted_core {pins : List (Addr × Obj)} {σ : L2.St} {s : Shared} {a : Addr} {us : List Value} {es : List D} {Q : VK} (hK : X.K = G.K) (hu : X.A.units + 66 < cLine) (I : Inv X pins σ H s) (hR : Rel G Z A S H) (hv : RpAll G Z A vs ds) (r : Vals vs us) (hz : ds.length ≤ sizeLine) (hl : PySem.W.MpColl X.prog X.w s a us)
    (he : sortD ds = some es) (k : Kon G H Z A (.list es) S Q) : wpAny (model X.prog X.w) X.A (call (.builtin "sorted") [.ref a]) (EP X pins σ Q) X.xe s := by
  obtain ⟨rfl, h1, h2, h3⟩ := sortD_ok he
  have ez := zip_snd hv
  have hl2 : (vs.zip ds).length = ds.length := by
    have := congrArg List.length ez
    rwa [List.length_map] at this
  refine PySem.W.mpSorted (bs := vs.zip ds) (enc := Prod.snd) (R := fun u b => RelV b.1 u) hl (zip_each (us := us) hv r) (zip_reads (us := us) I hK hR.sub hv (fun d hd => (h3 d hd).1) r) (by rw [ez]; exact h1) (by rw [ez]; exact h2) (by rw [hl2]; exact hz) (fun b hb => ?_) fun out ho eo => ?_
  · have hd : b.2 ∈ ds := by
      rw [← ez]
      exact List.mem_map_of_mem hb
    have := (h3 _ hd).2
    omega
  · have hrp := rp_zip _ fun b (hb : b ∈ (vs.zip ds).mergeSort (PySem.W.dataLe false Prod.snd)) => zip_rp hv b (List.mem_mergeSort.mp hb)
    rw [isort_merge Prod.snd (vs.zip ds), ez] at hrp
    obtain ⟨ep, he'⟩ := PyProof.Rows.sortedAll_at s.heap us out.toArray
    have ev := each_vals eo
    have hlen : (((vs.zip ds).mergeSort (PySem.W.dataLe false Prod.snd)).map Prod.fst).length ≤ sizeLine := by
      rw [List.length_map, List.length_mergeSort, hl2]
      exact hz
    exact ⟨.ref _, upd H (s.heap.objs.size + 1) (.lst _), I.laid (t' := s.toks) (fun _ _ => PyProof.Rows.sortedAll_old) (Nat.le_succ _) ⟨hlen, out, ep, ev, he'⟩, rfl, k.lst hR hrp _ (I.hok.fresh (Nat.le_succ _))⟩
theorem cr_sortedD (hK : X.K = G.K) (hu : X.A.units + 66 < cLine) : CallR X (.builtin "sorted") (rP G .sorted) := by
  intro pins s σ H xs us Q I r h
  obtain ⟨Z, A, S, ds, d, hR, hv, hf, k⟩ := h
  replace k : Kon G H Z A d S Q := k
  replace hf : sortedD (ds.map (rd S)) = some d := hf
  generalize hm : ds.map (rd S) = as at hf
  unfold sortedD at hf
  split at hf
  · split at hf
    · rename_i hz
      obtain ⟨es, he, rfl⟩ := Option.map_eq_some_iff.mp hf
      obtain ⟨v, d, rfl, rfl, h1, h2⟩ := rp1 hv hm
      obtain ⟨a, ws, rfl, h3, h4⟩ := rd_list hR h2 h1
      obtain ⟨its, rv, hl, _⟩ := I.list (.of h3)
      rw [Vals.ref1 r]
      have hw := rv.length
      have hw2 := h4.length
      rw [← lim_eq] at *
      exact sorted_core hK hu I hR h4 rv (by rw [← lim_eq]; exact hz) (fun A' E' Q' q => PyProof.Rows.collect_list hl.isList q (by rw [← lim_eq]; omega)) he k
    · cases hf
  · split at hf
    · rename_i hz
      obtain ⟨es, he, rfl⟩ := Option.map_eq_some_iff.mp hf
      obtain ⟨v, d, rfl, rfl, h1, h2⟩ := rp1 hv hm
      obtain ⟨a, ws, rfl, h3, h4⟩ := rd_tup hR h2 h1
      obtain ⟨its, rv, hl, _⟩ := I.tuple (show SqT X.K H a ws by rw [hK]; exact h3)
      rw [Vals.ref1 r]
      have hw := rv.length
      have hw2 := h4.length
      exact sorted_core hK hu I hR h4 rv (by rw [← lim_eq]; exact hz) (fun A' E' Q' q => PySem.W.mpCollectTup hl q (by rw [← lim_eq]; omega)) he k
    · cases hf
  · cases hf

/-! ### len(set(xs)) -/
theorem dedupI_mem : ∀ (l : List Int) (k : Int), k ∈ dedupI l ↔ k ∈ l
  | [], k => by simp [dedupI]
  | x :: r, k => by
    unfold dedupI
    split
    · rename_i h
      have hx : x ∈ r := by simpa using h
      rw [dedupI_mem r k, List.mem_cons]
      exact ⟨.inr, fun q => q.elim (fun e => by rw [e]; exact hx) id⟩
    · rw [List.mem_cons, List.mem_cons, dedupI_mem r k]
theorem dedupI_nodup : ∀ l : List Int, (dedupI l).Nodup
  | [] => List.nodup_nil
  | x :: r => by
    unfold dedupI
    split
    · exact dedupI_nodup r
    · rename_i h
      refine List.nodup_cons.mpr ⟨fun q => h ?_, dedupI_nodup r⟩
      simpa using (dedupI_mem r x).mp q
theorem nodup_len {l m : List Int} (hl : l.Nodup) (hm : m.Nodup) (h : ∀ k, k ∈ l ↔ k ∈ m) : l.length = m.length :=
  ((List.perm_ext_iff_of_nodup hl hm).mpr h).length_eq
theorem firstMet_nd (f : Nat → Int) : ∀ i, (PyProof.Rows.firstMet f i).Nodup
  | 0 => List.nodup_nil
  | i + 1 => by
    rw [PyProof.Rows.firstMet_succ]
    show (if (PyProof.Rows.firstMet f i).any (· == f i) then PyProof.Rows.firstMet f i else PyProof.Rows.firstMet f i ++ [f i]).Nodup
    split
    · exact firstMet_nd f i
    · rename_i h
      rw [List.nodup_append]
      refine ⟨firstMet_nd f i, by simp, fun a ha b hb => ?_⟩
      have e : b = f i := by simpa using hb
      subst e
      intro z
      subst z
      exact h (List.any_eq_true.mpr ⟨_, ha, by simp⟩)
theorem firstMet_mem (ns : List Int) (k : Int) : k ∈ PyProof.Rows.firstMet (fun i => ns.getD i 0) ns.length ↔ k ∈ ns := by
  have h := PyProof.Rows.firstMet_any (fun i => ns.getD i 0) ns.length k
  have e : (List.range ns.length).map (fun i => ns.getD i 0) = ns := by
    refine List.ext_getElem (by simp) fun i h1 h2 => ?_
    simp [List.getD_eq_getElem?_getD, List.getElem?_eq_getElem h2]
  rw [e] at h
  constructor
  · intro q
    have : (PyProof.Rows.firstMet (fun i => ns.getD i 0) ns.length).any (· == k) = true := List.any_eq_true.mpr ⟨k, q, by simp⟩
    rw [h] at this
    obtain ⟨y, hy, e⟩ := List.any_eq_true.mp this
    have e : y = k := by simpa using e
    exact e ▸ hy
  · intro q
    have : ns.any (· == k) = true := List.any_eq_true.mpr ⟨k, q, by simp⟩
    rw [← h] at this
    obtain ⟨y, hy, e⟩ := List.any_eq_true.mp this
    have e : y = k := by simpa using e
    exact e ▸ hy
theorem setR_count {w : World} {h : Heap} {a : Addr} {ns : List Int} {c : Nat} (hS : SetR w h a (fun j => decide (j ∈ ns)) c) : c = (dedupI ns).length := by
  obtain ⟨o, es, ep, t, _, _, _, _, hn, hk, _, _, hc, _⟩ := hS
  rw [← hc, ← nodup_len hn (dedupI_nodup ns) fun k => by rw [← hk k, dedupI_mem]; simp, List.length_map, Array.length_toList]
def tLenSetD (K : PySem.W.Frag) (ta : TE) : TE := fun σ H Q => ta σ H fun x H1 => ∃ (l : Addr) (ns : List Int), x = .ref l ∧ (SqL K H1 l (ns.map V.int) ∨ SqT K H1 l (ns.map V.int)) ∧ ns.length < 4000 ∧ Q (.int ((dedupI ns).length : Nat)) H1
theorem pe_lenSetD {a : Expr} {ta : TE} {p p2 q pos : Pos} (hg : Gl X "len") (hm : X.mg "len" = none) (hg2 : Gl X "set") (hm2 : X.mg "set" = none) (ha : PE X a ta) (hc : X.calm = true)
    (na : starEach [a] X.env = (false, eval a X.env) :: starEach [] X.env) : PE X (.Call (.Name "len" p) [.Call (.Name "set" p2) [a] [] q] [] pos) (tLenSetD X.K ta) := by
  refine ⟨fun pins s σ H Q I h => ?_⟩
  refine Call_ (ld_blt I hg hm boot_len ?_)
  refine PyProof.Rows.callWith_builtin1 (PyProof.Rows.args_cons ?_ rfl) rfl rfl
  refine Call_ (ld_blt I hg2 hm2 boot_set ?_)
  refine PyProof.Rows.callWith_type1 (PyProof.Rows.args_cons (thn (ha.run pins s σ H _ I h) fun v s1 ⟨x, H1, I1, r1, q1⟩ => PyProof.Rows.args_nil ?_) na) na rfl
  obtain ⟨l, ns, rfl, hq, hl, q1⟩ := q1
  cases r1
  rcases hq with hq | hq
  · obtain ⟨its, r, pl, hz⟩ := I1.list hq
    have hlen : its.toArray.size = ns.length := by rw [List.size_toArray, ← r.length, List.length_map]
    refine call_set_list (I1.ok.hd hc) pl.isList (by simpa using RZ.intsAre_vals r) (by rw [hlen]; unfold scanBound; omega) fun h' tk hS hk => ?_
    refine PyProof.Rows.args_nil ?_
    rw [hlen] at hS
    obtain ⟨o, es, ep, t, ho, hex, hd, _, _, _, hf, hn⟩ := hS
    have ec : (PyProof.Rows.firstMet (fun i => ns.getD i 0) ns.length).length = (dedupI ns).length := nodup_len (firstMet_nd _ _) (dedupI_nodup ns) fun k => by rw [firstMet_mem, dedupI_mem]
    have hle := PyProof.Rows.firstMet_length_le (fun i => ns.getD i 0) ns.length
    have I2 : Inv X pins σ H1 { s1 with heap := h', toks := tk } := I1.kept fun b o e => hk b o (Heap.lt_size e) e
    exact PySem.call_len_set ho hex hd hf (by rw [hn] <;> omega) ⟨.int (dedupI ns).length, H1, I2.tok _, ⟨_, by rw [hn, ec]⟩, q1⟩
  · obtain ⟨its, r, pl, hz⟩ := I1.tuple hq
    have hlen : its.toArray.size = ns.length := by rw [List.size_toArray, ← r.length, List.length_map]
    refine call_set_tupI ns (I1.ok.hd hc) (show s1.heap.IsTuple l its.toArray from pl) (by simpa using RZ.intsAre_vals r) (by unfold scanBound; omega) fun h' tk c hS hcl hk => ?_
    refine PyProof.Rows.args_nil ?_
    have ec := setR_count hS
    obtain ⟨o, es, ep, t, ho, hex, hd, _, _, _, _, hf, hn, _⟩ := hS
    have I2 : Inv X pins σ H1 { s1 with heap := h', toks := tk } := I1.kept fun b o e => hk b o e
    exact PySem.call_len_set ho hex hd hf (by rw [hn] <;> omega) ⟨.int (dedupI ns).length, H1, I2.tok _, ⟨_, by rw [hn, ec]⟩, q1⟩

/-! ### isinstance -/
def tyNm : D → Option String
  | .none => some "NoneType"
  | .bool _ => some "bool"
  | .int _ => some "int"
  | .str _ => some "str"
  | .list _ => some "list"
  | .tuple _ => some "tuple"
  | .dict [] => some "dict"
  | .dict _ => none
def tyTo : Ty → String
  | .int => "int"
  | .bool => "bool"
  | .tuple => "tuple"
  | .list => "list"
  | .str => "str"
theorem kit_tab : ∀ (n : String), n ∈ ["NoneType", "bool", "int", "str", "list", "tuple", "dict"] → ∀ t : Ty, kitB n (tyTo t) = some (decide (n = tyTo t ∨ (n = "bool" ∧ tyTo t = "int"))) := by
  intro n hn t
  simp only [List.mem_cons, List.mem_nil_iff, or_false] at hn
  rcases hn with rfl | rfl | rfl | rfl | rfl | rfl | rfl <;> cases t <;> decide +kernel
theorem tyD_nm {t : Ty} {d : D} {b : Bool} (h : tyD t d = some b) : ∃ n, tyNm d = some n ∧ n ∈ ["NoneType", "bool", "int", "str", "list", "tuple", "dict"] ∧ kitB n (tyTo t) = some b := by
  have key : ∀ n, tyNm d = some n → n ∈ ["NoneType", "bool", "int", "str", "list", "tuple", "dict"] → decide (n = tyTo t ∨ (n = "bool" ∧ tyTo t = "int")) = b → ∃ n, tyNm d = some n ∧ n ∈ ["NoneType", "bool", "int", "str", "list", "tuple", "dict"] ∧ kitB n (tyTo t) = some b := fun n h1 h2 h3 => ⟨n, h1, h2, by rw [kit_tab n h2, h3]⟩
  cases d with
  | dict kvs =>
    cases kvs with
    | nil =>
      refine key "dict" rfl (by decide) ?_
      cases t <;> · simp [tyD] at h; subst h; decide
    | cons a r => cases t <;> simp [tyD] at h
  | none => exact key "NoneType" rfl (by decide) (by cases t <;> · simp [tyD] at h; subst h; decide)
  | bool x => exact key "bool" rfl (by decide) (by cases t <;> · simp [tyD] at h; subst h; decide)
  | int x => exact key "int" rfl (by decide) (by cases t <;> · simp [tyD] at h; subst h; decide)
  | str x => exact key "str" rfl (by decide) (by cases t <;> · simp [tyD] at h; subst h; decide)
  | list x => exact key "list" rfl (by decide) (by cases t <;> · simp [tyD] at h; subst h; decide)
  | tuple x => exact key "tuple" rfl (by decide) (by cases t <;> · simp [tyD] at h; subst h; decide)
theorem rp_tyX {v : V} {d : D} {n : String} (hK : X.K = G.K) (hR : Rel G Z A S H) (p : Rp G Z A v d) (h : tyNm (rd S d) = some n) : TyX X.K H v (.type n) := by
  generalize hd : rd S d = d' at h
  cases d' with
  | none =>
    obtain ⟨rfl, _⟩ := rd_none p hd
    cases h
    exact .base .non
  | bool b =>
    obtain ⟨rfl, _⟩ := rd_bool p hd
    cases h
    exact .base (.bl b)
  | int i =>
    obtain ⟨rfl, _⟩ := rd_int p hd
    cases h
    exact .base (.int i)
  | str x =>
    obtain ⟨rfl, _⟩ := rd_str p hd
    cases h
    exact .base (.str x)
  | list xs =>
    obtain ⟨a, ws, rfl, h1, _⟩ := rd_list hR p hd
    cases h
    exact .base (.lst h1)
  | tuple xs =>
    obtain ⟨a, ws, rfl, h1, _⟩ := rd_tup hR p hd
    cases h
    rcases h1 with (h1 | ⟨o, h1⟩) | ⟨o, its, n, h1, h2, _⟩
    · exact .base (.tup h1)
    · exact .fTuple h1
    · exact .kTuple (by rw [hK]; exact h1) h2
  | dict kvs =>
    cases kvs with
    | cons a r => cases h
    | nil =>
      cases h
      cases p with
      | edc h1 => exact .base (.dK (hR.sub _ _ h1))
      | @obj a l h1 =>
        simp only [rd] at hd
        split at hd <;> cases hd
      | _ => simp [rd] at hd
end
end Mp
set_option maxHeartbeats 200000
/-! Mp.Prim3: calls of built-ins as expressions; methods of lists. -/
namespace Mp
open PySem PySem.Spec PyProof.Rows L2

/-- no starred item -/
def noStar : Expr → Bool
  | .Starred .. => false
  | _ => true
theorem star_cons {e : Expr} (h : noStar e = true) (es : List Expr) (env : Env) : starEach (e :: es) env = (false, eval e env) :: starEach es env := by
  cases e <;> first | rfl | cases h
theorem star_any {pos : Pos} {env : Env} : ∀ {es : List Expr}, es.all noStar = true → (backTo pos (starEach es env)).any (·.1) = false
  | [], _ => rfl
  | e :: es, h => by
    simp only [List.all_cons, Bool.and_eq_true] at h
    rw [star_cons h.1]
    show (false || (backTo pos (starEach es env)).any (·.1)) = false
    rw [star_any h.2]
    rfl
theorem star_all {pos : Pos} {env : Env} : ∀ {es : List Expr}, es.all noStar = true → (backTo pos (starEach es env)).all (fun x => !x.1) = true
  | [], _ => rfl
  | e :: es, h => by
    simp only [List.all_cons, Bool.and_eq_true] at h
    rw [star_cons h.1]
    show (true && (backTo pos (starEach es env)).all (fun x => !x.1)) = true
    rw [star_all h.2]
    rfl
section
variable {G : Wd} {P : Program} {w : World} {base : Heap} {N : List Str} {n : Nat} {W : L2.St → XK} {X : Cx}
variable {a b e : Expr} {fa fb fc : FE} {pos p p2 q : Pos} {es : List Expr} {fs : FA} {x : Str}
/-- f(..), f a built-in by name, not bound in the module -/
structure Bn (X : Cx) (x : Str) (u : Value) : Prop where
  gl : Gl X x
  mg : X.mg x = none
  boot : bootBuiltins x = some u
  nm : x ≠ "__name__"
  db : (x == ("__debug__" : Str)) = false
def primF (p : Pr) (fs : FA) : FE := fun env S => (fs env S).bind fun ds S1 => (opt (primD p (ds.map (rd S1))) S1).bind fun d S1 => giveD p.mut d S1
theorem giveD_w {mu : Bool} {d : D} {S : Store} {k k' : D → Store → Prop} {w w' : Exc → Store → Prop} (h : PostR (giveD mu d S) k w) (hk : ∀ d S, k d S → k' d S) : PostR (giveD mu d S) k' w' := by
  cases mu with
  | false => exact hk d S h
  | true =>
    unfold giveD at h ⊢
    rw [if_pos rfl] at h ⊢
    cases d with
    | list ds => exact hk _ _ h
    | _ => exact h.elim
theorem prim_core {pr : Pr} {σ : L2.St} {H : Hp} {Q : VK} (h : tD G (primF pr fs) W σ H Q) : tA G fs W σ H fun vs H1 => rP G pr vs H1 Q := by
  obtain ⟨Z, A, env, S, hR, hE, hP⟩ := h
  exact stepA hR hE hP fun vs ds S1 Z1 A1 H1 f1 R1 E1 r1 P1 => by
    obtain ⟨d, hd, k⟩ := P1.bind.opt
    exact ⟨Z1, A1, S1, ds, d, R1, r1, hd, giveD_w k fun d S h => Kon.fut h f1⟩
theorem s_primB {id : String} {pr : Pr} (hc : CallR X (.builtin id) (rP G pr)) (hb : Bn X x (.builtin id)) (ha : PA X (e :: es) (tA G fs W)) (hs : (e :: es).all noStar = true) : PE X (.Call (.Name x p) (e :: es) [] pos) (tD G (primF pr fs) W) := by
  have h2 : noStar e = true ∧ es.all noStar = true := by simpa [List.all_cons, Bool.and_eq_true] using hs
  exact PE.imp (pe_callB hc hb.gl hb.mg hb.boot ha hb.nm hb.db (star_cons h2.1 _ _) (star_any h2.2)) fun σ H Q h => prim_core h
theorem s_primT {T : String} {pr : Pr} (hc : CallR X (.type T) (rP G pr)) (hb : Bn X x (.type T)) (ha : PA X (e :: es) (tA G fs W)) (hs : (e :: es).all noStar = true) : PE X (.Call (.Name x p) (e :: es) [] pos) (tD G (primF pr fs) W) := by
  have h2 : noStar e = true ∧ es.all noStar = true := by simpa [List.all_cons, Bool.and_eq_true] using hs
  exact PE.imp (pe_callTy hc hb.gl hb.mg hb.boot ha hb.nm hb.db (star_cons h2.1 _ _) (star_any h2.2)) fun σ H Q h => prim_core h
/-- one argument -/
def oneF (fa : FE) : FA := fun env S => (fa env S).bind fun d S1 => R.bind (.ok [] S1) fun ds S2 => .ok (d :: ds) S2
theorem s_lenSet (c : Cok G P w base N n W X) (h1 : Bn X "len" (.builtin "len")) (h2 : Bn X "set" (.type "set")) (ha : PE X a (tD G fa W)) (hs : noStar a = true) :
    PE X (.Call (.Name "len" p) [.Call (.Name "set" p2) [a] [] q] [] pos) (tD G (primF .lenSet (oneF fa)) W) :=
  PE.imp (pe_lenSetD h1.gl h1.mg h2.gl h2.mg ha c.calm (star_cons hs _ _)) fun σ H Q ⟨Z, A, env, S, hR, hE, hP⟩ => by
    unfold primF oneF at hP
    rw [R.bind_assoc] at hP
    exact step hR hE hP fun v d S1 Z1 A1 H1 f1 R1 E1 r1 P1 => by
      have P1 : PostR ((opt (lenSetD [rd S1 d]) S1).bind fun d S1 => .ok d S1) _ _ := P1
      obtain ⟨r, hr, k⟩ := P1.bind.opt
      generalize hd : rd S1 d = d' at hr
      unfold lenSetD at hr
      split at hr
      · rename_i ds e
        obtain ⟨ns, hn, hr⟩ := Option.bind_eq_some_iff.mp hr
        split at hr <;> cases hr
        rename_i hz
        have e : d' = .list ds := by simpa using e
        subst e
        obtain ⟨l, rfl, h3⟩ := rd_ints R1 r1 hd hn
        exact ⟨l, ns, rfl, .inl (.of h3), hz, Kon.at_ (Kon.fut k f1) R1 (.int _)⟩
      · rename_i ds e
        obtain ⟨ns, hn, hr⟩ := Option.bind_eq_some_iff.mp hr
        split at hr <;> cases hr
        rename_i hz
        have e : d' = .tuple ds := by simpa using e
        subst e
        obtain ⟨l, rfl, h3⟩ := rd_intsT R1 r1 hd hn
        exact ⟨l, ns, rfl, .inr (by rw [c.K]; exact h3), hz, Kon.at_ (Kon.fut k f1) R1 (.int _)⟩
      · cases hr
/-! ### isinstance -/
theorem s_isi1 (c : Cok G P w base N n W X) {t : Ty} {b : Expr} (hb : Bn X "isinstance" (.builtin "isinstance")) (ha : PE X a (tD G fa W)) (ht : PE X b (tC (.ty (tyTo t)))) (hs : noStar a = true) (hs2 : noStar b = true) :
    PE X (.Call (.Name "isinstance" p) [a, b] [] pos) (tD G (primF (.isi [t]) (oneF fa)) W) :=
  PE.imp (pe_callB call_isi hb.gl hb.mg hb.boot (pa_cons ha (pa_cons ht pa_nil (star_cons hs2 _ _)) (star_cons hs _ _)) hb.nm hb.db (star_cons hs _ _) (star_any (by simp [hs2]))) fun σ H Q ⟨Z, A, env, S, hR, hE, hP⟩ => by
    unfold primF oneF at hP
    rw [R.bind_assoc] at hP
    exact step hR hE hP fun v d S1 Z1 A1 H1 f1 R1 E1 r1 P1 => by
      have P1 : PostR ((opt (isiD [t] [rd S1 d]) S1).bind fun d S1 => .ok d S1) _ _ := P1
      obtain ⟨r, hr, k⟩ := P1.bind.opt
      have hr : (((tyD t (rd S1 d)).bind fun b => if b then some true else some false).map .bool) = some r := hr
      obtain ⟨b, hb, rfl⟩ := Option.map_eq_some_iff.mp hr
      obtain ⟨b', hb', e⟩ := Option.bind_eq_some_iff.mp hb
      have e : b' = b := by cases b' <;> cases b <;> simp at e ⊢
      subst e
      obtain ⟨nm, h1, h2, h3⟩ := tyD_nm hb'
      exact ⟨v, .ty (tyTo t), .type nm, .type (tyTo t), b', rfl, .ty _, rp_tyX c.K R1 r1 h1, kit_ty h3, Kon.at_ (Kon.fut k f1) R1 (.bl _)⟩
/-- two types -/
theorem kit_two {K : PySem.W.Frag} {nm : String} {t u : Ty} {b : Bool} {d : D} (hn : tyNm d = some nm) (hnm : nm ∈ ["NoneType", "bool", "int", "str", "list", "tuple", "dict"]) (h : tysD [t, u] d = some b) : PySem.W.kitAny K (.type nm) [.type (tyTo t), .type (tyTo u)] = some b := by
  obtain ⟨b1, h1, h⟩ := Option.bind_eq_some_iff.mp (show ((tyD t d).bind fun b => if b then some true else tysD [u] d) = some b from h)
  have kk : ∀ {v : Ty} {b : Bool}, tyD v d = some b → kitB nm (tyTo v) = some b := fun hv => by
    obtain ⟨nm', e1, _, e3⟩ := tyD_nm hv
    rw [hn] at e1
    cases e1
    exact e3
  cases b1 with
  | true =>
    cases h
    exact kitAny_cons (kit_ty (kk h1)) (fun z => by cases z) fun _ => rfl
  | false =>
    obtain ⟨b2, h2, h⟩ := Option.bind_eq_some_iff.mp (show ((tyD u d).bind fun b => if b then some true else some false) = some b from h)
    have e : b2 = b := by cases b2 <;> cases b <;> simp at h ⊢
    subst e
    refine kitAny_cons (kit_ty (kk h1)) (fun _ => ?_) fun z => by cases z
    cases b2 with
    | true => exact kitAny_cons (kit_ty (kk h2)) (fun z => by cases z) fun _ => rfl
    | false => exact kitAny_cons (kit_ty (kk h2)) (fun _ => kitAny_nil) fun z => by cases z
theorem s_isi2 (c : Cok G P w base N n W X) {t u : Ty} {b1 b2 : Expr} {kk : Nat} {p3 : Pos} (hb : Bn X "isinstance" (.builtin "isinstance")) (ha : PE X a (tD G fa W)) (ht : PE X b1 (tC (.ty (tyTo t)))) (hu : PE X b2 (tC (.ty (tyTo u)))) (hs : noStar a = true) (hs1 : noStar b1 = true) (hs2 : noStar b2 = true) :
    PE X (.Call (.Name "isinstance" p) [a, .Tuple [b1, b2] kk p3] [] pos) (tD G (primF (.isi [t, u]) (oneF fa)) W) :=
  PE.imp (pe_callB call_isiT hb.gl hb.mg hb.boot (pa_cons ha (pa_cons (pe_tup (pa_cons ht (pa_cons hu pa_nil (star_cons hs2 _ _)) (star_cons hs1 _ _))) pa_nil (star_cons rfl _ _)) (star_cons hs _ _)) hb.nm hb.db (star_cons hs _ _) (star_any rfl)) fun σ H Q ⟨Z, A, env, S, hR, hE, hP⟩ => by
    unfold primF oneF at hP
    rw [R.bind_assoc] at hP
    exact step hR hE hP fun v d S1 Z1 A1 H1 f1 R1 E1 r1 P1 => by
      have P1 : PostR ((opt (isiD [t, u] [rd S1 d]) S1).bind fun d S1 => .ok d S1) _ _ := P1
      obtain ⟨r, hr, k⟩ := P1.bind.opt
      have hr : ((tysD [t, u] (rd S1 d)).map .bool) = some r := hr
      obtain ⟨b, hb, rfl⟩ := Option.map_eq_some_iff.mp hr
      obtain ⟨b1, h1, _⟩ := Option.bind_eq_some_iff.mp (show ((tyD t (rd S1 d)).bind fun b => if b then some true else tysD [u] (rd S1 d)) = some b from hb)
      obtain ⟨nm, e1, e2, _⟩ := tyD_nm h1
      have hz : (2 : Nat) ≤ sizeLine := by rw [← lim_eq]; decide
      refine ⟨hz, fun tp htp => ?_⟩
      obtain ⟨R2, f2⟩ := R1.freeze (o := .tup [.ty (tyTo t), .ty (tyTo u)]) htp (fun ps z => by cases z)
      have e1' : tyNm (rd S1 d) = some nm := e1
      exact ⟨v, tp, [.ty (tyTo t), .ty (tyTo u)], .type nm, [.type (tyTo t), .type (tyTo u)], b, rfl, upd_same, .cons (.ty _) (.cons (.ty _) .nil), rp_tyX c.K R2 (f2.rp r1) e1', kit_two e1 e2 hb, Kon.at_ (Kon.fut k (f1.trans f2)) R2 (.bl _)⟩
/-! ### tuple | list of a range -/
theorem rngL_rp {Z : Hp} {A : List Addr} (i j : Int) : RpAll G Z A (rgV i j) (rngL i j) := by
  unfold rgV rngL
  generalize List.range (j - i).toNat = l
  induction l with
  | nil => exact .nil
  | cons k r ih => exact .cons (.int _) ih
theorem inRng_is {i : Int} (h : inRng i = true) : -(2 ^ 62) ≤ i ∧ i < 2 ^ 62 := by
  unfold inRng at h
  simpa [Bool.and_eq_true] using h
theorem s_tupR1 (c : Cok G P w base N n W X) (h1 : Bn X "tuple" (.type "tuple")) (h2 : Bn X "range" (.type "range")) (ha : PE X a (tD G fa W)) (hs : noStar a = true) :
    PE X (.Call (.Name "tuple" p) [.Call (.Name "range" p2) [a] [] q] [] pos) (tD G (primF .tupRng1 (oneF fa)) W) :=
  PE.imp (pe_tupRg c.calm h1.gl h1.mg (prg_1 h2.gl h2.mg ha (star_cons hs _ _)) (star_cons rfl _ _)) fun σ H Q ⟨Z, A, env, S, hR, hE, hP⟩ => by
    unfold primF oneF at hP
    rw [R.bind_assoc] at hP
    exact step hR hE hP fun v d S1 Z1 A1 H1 f1 R1 E1 r1 P1 => by
      have P1 : PostR ((opt (tupRng1D [rd S1 d]) S1).bind fun d S1 => .ok d S1) _ _ := P1
      obtain ⟨r, hr, k⟩ := P1.bind.opt
      generalize hd : rd S1 d = d' at hr
      unfold tupRng1D at hr
      split at hr
      · rename_i i e
        have e : d' = .int i := by simpa using e
        subst e
        split at hr <;> cases hr
        rename_i hz
        simp only [Bool.and_eq_true, decide_eq_true_eq] at hz
        obtain ⟨z1, z2⟩ := inRng_is hz.1
        obtain ⟨rfl, _⟩ := rd_int r1 hd
        exact ⟨i, rfl, ⟨by omega, by omega, z1, z2, by omega⟩, Kon.tup (Kon.fut k f1) R1 (rngL_rp 0 i)⟩
      · cases hr
theorem s_lstR1 (c : Cok G P w base N n W X) (mu : Bool) (h1 : Bn X "list" (.type "list")) (h2 : Bn X "range" (.type "range")) (ha : PE X a (tD G fa W)) (hs : noStar a = true) :
    PE X (.Call (.Name "list" p) [.Call (.Name "range" p2) [a] [] q] [] pos) (tD G (primF (.lrng1 mu) (oneF fa)) W) :=
  PE.imp (pe_listRg c.calm h1.gl h1.mg (prg_1 h2.gl h2.mg ha (star_cons hs _ _)) (star_cons rfl _ _)) fun σ H Q ⟨Z, A, env, S, hR, hE, hP⟩ => by
    unfold primF oneF at hP
    rw [R.bind_assoc] at hP
    exact step hR hE hP fun v d S1 Z1 A1 H1 f1 R1 E1 r1 P1 => by
      have P1 : PostR ((opt (lrng1D [rd S1 d]) S1).bind fun d S1 => giveD mu d S1) _ _ := P1
      obtain ⟨r, hr, k⟩ := P1.bind.opt
      generalize hd : rd S1 d = d' at hr
      unfold lrng1D at hr
      split at hr
      · rename_i i e
        have e : d' = .int i := by simpa using e
        subst e
        split at hr <;> cases hr
        rename_i hz
        simp only [Bool.and_eq_true, decide_eq_true_eq] at hz
        obtain ⟨z1, z2⟩ := inRng_is hz.1
        obtain ⟨rfl, _⟩ := rd_int r1 hd
        exact ⟨i, rfl, ⟨by omega, by omega, z1, z2, by omega⟩, give_post (mu := mu) (by cases mu <;> exact k) f1 R1 (rngL_rp 0 i)⟩
      · cases hr

/-! ### methods of lists -/
def meId : Me → String
  | .append => "list.append"
  | .pop => "list.pop"
  | .popAt => "list.pop"
  | .remove => "list.remove"
  | .index => "list.index"
  | .count => "list.count"
def meNm : Me → Str
  | .append => "append"
  | .pop => "pop"
  | .popAt => "pop"
  | .remove => "remove"
  | .index => "index"
  | .count => "count"
def rMe (G : Wd) (m : Me) : V → List V → Hp → VK → Prop := fun x vs H Q => ∃ Z A S d ds, Rel G Z A S H ∧ Rp G Z A x d ∧ RpAll G Z A vs ds ∧ PostR (methD m d ds S) (fun d S' => Kon G H Z A d S' Q) (fun _ _ => False)
theorem erase_mapD : ∀ (l : List Int) (j : Nat), (l.map PyData.int).eraseIdx j = (l.eraseIdx j).map PyData.int
  | [], j => by simp
  | a :: r, 0 => by simp
  | a :: r, j + 1 => by simp [erase_mapD r j]
theorem findI_is {k : Int} : ∀ {ns : List Int} {i : Nat}, findI k ns = some i → ns[i]? = some k ∧ ∀ m : Nat, m < i → ns[m]? ≠ some k
  | [], i, h => by cases h
  | n :: r, i, h => by
    unfold findI at h
    split at h
    · rename_i e
      cases h
      subst e
      exact ⟨rfl, fun m hm => by omega⟩
    · rename_i e
      obtain ⟨j, hj, rfl⟩ := Option.map_eq_some_iff.mp h
      obtain ⟨h1, h2⟩ := findI_is hj
      refine ⟨by simpa using h1, fun m hm => ?_⟩
      cases m with
      | zero => simpa using e
      | succ m => simpa using h2 m (by omega)
theorem mt_D (m : Me) : MtR X (meId m) (rMe G m) := by
  intro pins s σ H x vs v us Q I rx rs h
  obtain ⟨Z, A, S, d, ds, hR, hx, hv, k⟩ := h
  unfold methD at k
  split at k
  · rename_i l
    split at k
    · rename_i es he
      cases hx with
      | @obj a l h1 =>
        obtain ⟨_, ws, h3, h4⟩ := hR.at_ l a _ h1 he
        have wr : ∀ {ds' : List D} {vs' : List V} {y : V} {d' : D}, RpAll G Z (A.take l) vs' ds' → Rp G Z A y d' → Kon G H Z A d' (S.set l (.lst ds')) Q → Q y (upd H a (.lst vs')) := fun hv' hy kk => by
          obtain ⟨R1, f1⟩ := hR.write h1 he hv'
          exact kk _ _ _ _ f1 R1 (hy.mono f1.le)
        unfold methL at k
        split at k
        · split at k
          · rename_i d _ hz
            simp only [Bool.and_eq_true, decide_eq_true_eq] at hz
            obtain ⟨hz, ho⟩ := hz
            cases hv with
            | cons hv1 hv2 =>
              cases hv2
              exact mt_append pins s σ H _ _ v us Q I rx rs ⟨a, ws, _, rfl, rfl, h3, by rw [h4.length, ← lim_eq]; exact hz, wr (h4.app (.one (Rp.cut _ _ hv1 ho))) .non k⟩
          · exact k.elim
        · split at k
          · rename_i d hd
            cases hv
            obtain ⟨y, hy, hr⟩ := h4.get hd
            exact mt_pop pins s σ H _ _ v us Q I rx rs ⟨a, ws, y, rfl, rfl, h3, by rw [h4.length]; exact hy, wr h4.dropLast (hr.mono Le.cut) k⟩
          · exact k.elim
        · split at k
          · rename_i i hz
            split at k
            · rename_i d hd
              cases hv with
              | cons hv1 hv2 =>
                cases hv2
                cases hv1
                obtain ⟨y, hy, hr⟩ := h4.get hd
                have hl := (List.getElem?_eq_some_iff.mp hy).1
                refine mt_popAt pins s σ H _ _ v us Q I rx rs ⟨a, ws, (i : Int), i, y, rfl, rfl, h3, by omega, by omega, ?_, hy, wr (h4.eraseIdx i) (hr.mono Le.cut) k⟩
                rw [seqIndex_of (by omega) (by omega)]
                simp
            · exact k.elim
          · exact k.elim
        · split at k
          · rename_i ns hn
            split at k
            · rename_i i hi
              cases hv with
              | cons hv1 hv2 =>
                cases hv2
                cases hv1
                have e := asInts_map hn
                subst e
                have e2 := rpInts h4
                subst e2
                obtain ⟨q1, q2⟩ := findI_is hi
                have e3 : (ns.map PyData.int).eraseIdx i = (ns.eraseIdx i).map PyData.int := erase_mapD _ _
                rw [e3] at k
                exact mt_remove pins s σ H _ _ v us Q I rx rs ⟨a, ns, _, i, rfl, rfl, h3, q1, q2, wr (intsRp _) .non k⟩
            · exact k.elim
          · exact k.elim
        · exact k.elim
      | _ => exact k.elim
    · exact k.elim
  · exact k.elim
/-- no call without arguments (super()) -/
def noCall0 : Expr → Bool
  | .Call (.Name _ _) [] [] _ => false
  | _ => true
theorem base_plain {o : Expr} (h : noCall0 o = true) (name : Str) (env : Env) : attributeBase o name env (eval o env) = eval o env := by
  unfold noCall0 at h
  unfold attributeBase
  split at h
  · cases h
  · rename_i hn
    split
    · rename_i id p1 p2
      exact absurd rfl (hn id p1 p2)
    · rfl
theorem meSlot : ∀ m : Me, m ≠ .index → m ≠ .count → Slot "list" (meNm m) (meId m) ∧ typeOf (.builtin (meId m)) = pure (.type "method_descriptor") := by
  intro m h1 h2
  cases m with
  | append => exact ⟨F.slot_list_append, F.type_list_append⟩
  | pop => exact ⟨F.slot_list_pop, F.type_list_pop⟩
  | popAt => exact ⟨F.slot_list_pop, F.type_list_pop⟩
  | remove => exact ⟨F.slot_list_remove, F.type_list_remove⟩
  | index => exact absurd rfl h1
  | count => exact absurd rfl h2
def methF (m : Me) (fo : FE) (fs : FA) : FE := fun env S => (fo env S).bind fun x S1 => (opt (isLst (rd S1 x)) S1).bind fun _ S1 => (fs env S1).bind fun ds S2 => methD m x ds S2
theorem methL_w {m : Me} {l : Nat} {es ds : List D} {S : Store} {k k' : D → Store → Prop} {w w' : Exc → Store → Prop} (h : PostR (methL m l es ds S) k w) (hk : ∀ d S, k d S → k' d S) : PostR (methL m l es ds S) k' w' := by
  unfold methL at h ⊢
  split at h
  · split at h
    · rename_i hz
      rw [if_pos hz]
      exact hk _ _ h
    · exact h.elim
  · split at h
    · exact hk _ _ h
    · exact h.elim
  · split at h
    · rename_i hz
      rw [if_pos hz]
      split at h
      · exact hk _ _ h
      · exact h.elim
    · exact h.elim
  · split at h
    · split at h
      · exact hk _ _ h
      · exact h.elim
    · exact h.elim
  · exact h.elim
theorem methD_w {m : Me} {d : D} {ds : List D} {S : Store} {k k' : D → Store → Prop} {w w' : Exc → Store → Prop} (h : PostR (methD m d ds S) k w) (hk : ∀ d S, k d S → k' d S) : PostR (methD m d ds S) k' w' := by
  unfold methD at h ⊢
  split at h
  · split at h
    · exact methL_w h hk
    · exact h.elim
  · exact h.elim
theorem isLst_ty {K : PySem.W.Frag} {Z H : Hp} {A : List Addr} {S : Store} {x : V} {d : D} (hR : Rel G Z A S H) (p : Rp G Z A x d) (h : isLst (rd S d) = some ()) : tyV K "list" x H := by
  generalize hd : rd S d = d' at h
  cases d' with
  | list ds =>
    obtain ⟨a, vs, rfl, h1, _⟩ := rd_list hR p hd
    exact .inl ⟨rfl, vs, .of h1⟩
  | _ => simp [isLst] at h
theorem few_all {cpos : Pos} {env : Env} {es : List Expr} (hs : es.all noStar = true) (hl : es.length < 29) : ((backTo cpos (starEach es env)).all (fun x => !x.1) && (backToKw cpos (keywordEach [] env)).all (fun x => x.1.isSome)
      && decide (es.length + ([] : List Keyword).length + (if ([] : List Keyword).isEmpty then 0 else 1) < 30)) = true := by
  rw [star_all hs]
  have e : decide (es.length + ([] : List Keyword).length + (if ([] : List Keyword).isEmpty then 0 else 1) < 30) = true := by
    simp
    omega
  rw [e]
  rfl
theorem s_meth {m : Me} {o : Expr} {fo : FE} {apos cpos : Pos} (h1 : m ≠ .index) (h2 : m ≠ .count) (ho : PE X o (tD G fo W)) (ha : PA X (e :: es) (tA G fs W)) (hs : (e :: es).all noStar = true) (hl : (e :: es).length < 29) (hb : noCall0 o = true) (hline : (apos.endLine == cpos.line) = true) :
    PE X (.Call (.Attribute o (meNm m) apos) (e :: es) [] cpos) (tD G (methF m fo fs) W) := by
  have h3 : noStar e = true ∧ es.all noStar = true := by simpa [List.all_cons, Bool.and_eq_true] using hs
  obtain ⟨sl, ty⟩ := meSlot m h1 h2
  exact PE.imp (pe_bm F.plainAttrs_list sl ty (mt_D m) ho ha (base_plain hb _ _) (few_all hs hl) hline (star_cons h3.1 _ _) (star_any h3.2)) fun σ H Q ⟨Z, A, env, S, hR, hE, hP⟩ =>
    step hR hE hP fun v d S1 Z1 A1 H1 f1 R1 E1 r1 P1 => by
      obtain ⟨_, hi, P1⟩ := P1.bind.opt
      exact ⟨isLst_ty R1 r1 hi, stepA R1 E1 P1 fun vs ds S2 Z2 A2 H2 f2 R2 E2 r2 P2 => ⟨Z2, A2, S2, d, ds, R2, f2.rp r1, r2, methD_w P2 fun d S h => Kon.fut h (f1.trans f2)⟩⟩
theorem s_meth0 {m : Me} {o : Expr} {fo : FE} {apos cpos : Pos} (h1 : m ≠ .index) (h2 : m ≠ .count) (ho : PE X o (tD G fo W)) (hb : noCall0 o = true) (hline : (apos.endLine == cpos.line) = true) :
    PE X (.Call (.Attribute o (meNm m) apos) [] [] cpos) (tD G (methF m fo (fun _ S => .ok [] S)) W) := by
  obtain ⟨sl, ty⟩ := meSlot m h1 h2
  exact PE.imp (pe_bm0 F.plainAttrs_list sl ty (mt_D m) ho (base_plain hb _ _) hline) fun σ H Q ⟨Z, A, env, S, hR, hE, hP⟩ =>
    step hR hE hP fun v d S1 Z1 A1 H1 f1 R1 E1 r1 P1 => by
      obtain ⟨_, hi, P1⟩ := P1.bind.opt
      have P1 : PostR (methD m d [] S1) _ _ := P1
      exact ⟨isLst_ty R1 r1 hi, Z1, A1, S1, d, [], R1, r1, .nil, methD_w P1 fun d S h => Kon.fut h f1⟩
end
end Mp
/-! Mp.It: what is walked. -/
namespace PySem
open Sem (wp)
set_option maxHeartbeats 1000000 in
theorem mpEnumNew {v : Value} {o : Obj} {H : Heap → Prop} (B : Begins v o H) :
    Meets (Builtin.«enumerate.__new__» ⟨[.type "enumerate", v], []⟩) (fun _ R s => H s.heap ∧
      R (.ok (.ret (.ref (s.heap.push o).objs.size))) { s with heap := (s.heap.push o).push { cls := .type "enumerate", data := .fields #[.none, .bool false, .ref s.heap.objs.size, rawInt 0, .none, .none] } }) :=
  .of_wp fun prog w A R s h => by
    obtain ⟨hp, g, d, tk, os⟩ := s; obtain ⟨h1, h⟩ := h
    have hsub := sub_enumerate
    have q1 : ∀ {A' : Around} {E : Value → Shared → Prop} {Q : Value → Shared → Prop}, Q (.ref hp.objs.size) ⟨hp.push o, g, d, tk, os⟩ → wpAny (model prog w) A' (pyIter v) Q E ⟨hp, g, d, tk, os⟩ :=
      fun q => B.iter prog w _ _ ⟨hp, g, d, tk, os⟩ _ h1 q
    wp_walk using q1
    refine wpAny_stack_any fun st => wpAny_pure ?_
    split
    · rename_i c _ _ _ _ _
      cases (c == Value.type "enumerate")
      · wp_walk using q1
        exact ⟨_, rfl, h⟩
      · wp_walk using q1
        exact ⟨_, rfl, h⟩
    · wp_walk using q1
      exact ⟨_, rfl, h⟩
section
variable {prog : Program} {w : World} {A : Around} {E : Value → Shared → Prop} {s : Shared}
/-- enumerate(v): its two new cells -/
theorem mpEnumCall {v : Value} {o : Obj} {H : Heap → Prop} {Q : Value → Shared → Prop} (B : Begins v o H) (h1 : H s.heap)
    (h : ∀ h', IsEnum h' (s.heap.objs.size + 1) s.heap.objs.size 0 .none → h'.get? s.heap.objs.size = some o → h'.objs.size = s.heap.objs.size + 2 →
      (∀ b o, s.heap.get? b = some o → h'.get? b = some o) → Q (.ref (s.heap.objs.size + 1)) { s with heap := h' }) :
    wpAny (model prog w) A (call (.type "enumerate") [v]) Q E s := by
  refine callType_new F.called_enumerate (by decide) (F.typeCall_enumerate_1 _) (F.newCall_enumerate_1 _) (fun obj => F.args_object_init_2 obj _) F.entry_enumerate_new
    (mpEnumNew B) ⟨h1, ?_⟩
  have hz : (s.heap.push o).objs.size = s.heap.objs.size + 1 := Heap.size_push ..
  show _ ∧ _
  rw [hz]
  have he : IsEnum ((s.heap.push o).push { cls := .type "enumerate", data := .fields #[.none, .bool false, .ref s.heap.objs.size, rawInt 0, .none, .none] }) (s.heap.objs.size + 1) s.heap.objs.size 0 .none := by
    have := Heap.get?_push_size (s.heap.push o) (o := { cls := .type "enumerate", data := .fields #[.none, .bool false, .ref s.heap.objs.size, rawInt 0, .none, .none] }) rfl
    rw [hz] at this; exact this
  refine ⟨⟨_, he, rfl⟩, h _ he (Heap.get?_push_of_some _ (Heap.get?_push_size _ B.free)) (by rw [Heap.size_push, hz]) fun b o x => Heap.get?_push_of_some _ (Heap.get?_push_of_some _ x)⟩
theorem mpEnumEndT {e it l : Addr} {i : Nat} {items : Array Value} {old : Value} {Q : Option Value → Shared → Prop} (hh : A.handled = none)
    (he : IsEnum s.heap e it i old) (hit : s.heap.IsTupleIter it l i) (hl : s.heap.IsTuple l items) (hx : items[i]? = none)
    (hQ : ∀ h', Heap.ExtBut it s.heap h' → Q none { s with heap := h' }) : wpAny (model prog w) A (pyNext (.ref e)) Q E s := by
  have hT : s.TypeIs (.ref e) "enumerate" := ⟨_, he, rfl⟩
  unfold pyNext
  refine wpAny_bind (wpAny_attempt (wpAny_callSpecial?_slot (name := Str.ofString "__next__") hT F.slot_enumerate_next
    (wpAny_call_entry F.slot_enumerate_next hT F.entry_enumerate_next ?_ (F.args_enumerate_next_1 _))))
  show wpAny _ _ (field (.ref e) 2 >>= _) _ _ _
  refine wpAny_bind (wpAny_field he rfl (x := .ref it) rfl ?_)
  refine wpAny_bind (RZ.nextOf_tuple_end hh hit hl hx fun h' x he' hx' => ?_)
  obtain ⟨o, ho, hc⟩ := hx'
  refine wpAny_bind (wpAny_isInstance (T := "StopIteration") (b := true) ⟨o, ho, hc⟩ isSubtype_stop ?_)
  exact wpAny_pure (hQ _ he')
end
end PySem
namespace Mp
open PySem PySem.Spec PyProof.Rows L2
/-! ### enumerate of a tuple -/
def IteT (K : PySem.W.Frag) (a : Addr) : L2.It :=
  ⟨fun i H => ∃ xs x, SqT K H a xs ∧ xs[i]? = some x, fun i H v H' => ∃ T x, v = .ref T ∧ H T = none ∧ H' = upd H T (.tup [.int (i : Nat), x]) ∧ ∀ xs, SqT K H a xs → xs[i]? = some x, fun i H => ∃ xs, SqT K H a xs ∧ xs.length ≤ i⟩
theorem turn_enumT {P : Program} {w : World} {K : PySem.W.Frag} {elts : List Expr} {kk : Nat} {tpos : Pos} (a e it : Addr) (hna : a ≠ it) (hea : e ≠ a) :
    Turn P w K (.Tuple elts kk tpos) (IteT K a) [e, it] e (fun i h => (∃ old, IsEnum h e it ((i : Nat) : Int) old) ∧ h.IsTupleIter it a i ∧ e ≠ it) where
  mem := by simp
  obj := fun i h st b hb => by
    obtain ⟨⟨old, he⟩, ⟨o, ho, hc, hd⟩, _⟩ := st
    have e' : b = e ∨ b = it := by simpa using hb
    rcases e' with z | z
    · rw [z]; exact ⟨_, he, fun v q => nomatch q⟩
    · rw [z]; exact ⟨o, ho, fun v q => by rw [hd] at q; cases q⟩
  keep := fun i h h' st k => let ⟨⟨old, he⟩, hi, hne⟩ := st; ⟨⟨old, k e (by simp) _ he⟩, hi.at fun o q => k it (by simp) o q, hne⟩
  item := by
    intro X hP hw hK hc i pins s σ H E I hf st hg
    subst hP hw hK
    obtain ⟨⟨old, he⟩, hit, hne⟩ := st
    obtain ⟨xs, x, hq, hx⟩ := hg
    obtain ⟨its, rv, p, hz⟩ := I.tuple hq
    obtain ⟨u, hu, ru⟩ := rv.get hx
    have hel : e < s.heap.objs.size := Heap.lt_size he
    have hil : it < s.heap.objs.size := by obtain ⟨_, q, _⟩ := hit; exact Heap.lt_size q
    have hsz : i < its.toArray.size := by
      have := (List.getElem?_eq_some_iff.mp hu).1
      simpa using this
    have D := Draws.tuple (prog := X.prog) (w := X.w) (A := X.A.in1) (show X.A.in1.handled = none from I.ok.hd hc) it a hna its.toArray
    refine wpAny_pyNext_enum_itemD D he ⟨hit, show s.heap.IsTuple a its.toArray from p⟩ hsz hne (by simp [hne, hea]) fun x' h' tk hP' ho hst' hT hsz' hk => ?_
    have ex : x' = u := by
      have h2 : its.toArray[i]? = some x' := hP'
      have h3 : its.toArray[i]? = some u := by simpa using hu
      rw [h3] at h2
      exact (Option.some.inj h2).symm
    subst ex
    refine ⟨_, rfl, wpAny_letOwnedTupleGo_enum (s := { s with heap := h', toks := tk + 1 }) ho fun h'' he' sb => ?_⟩
    have hT2 : h''.get? s.heap.objs.size = some { cls := .type "tuple", data := .seq #[.int i tk, x'] } := (sb.2 _ (Nat.ne_of_gt hel)).trans hT
    have new : ObjOk X.prog X.w (upd H s.heap.objs.size (.tup [.int (i : Nat), x])) h'' s.heap.objs.size (.tup [.int (i : Nat), x]) :=
      ⟨by show 2 ≤ sizeLine; decide, [.int i tk, x'], .cons ⟨_, rfl⟩ (.cons ru .nil), ⟨_, hT2, rfl, _, rfl⟩⟩
    have I1 : Inv X pins σ (upd H s.heap.objs.size (.tup [.int (i : Nat), x])) { s with heap := h'', toks := tk + 1 } :=
      I.turnedNew (ch := [e, it]) (fun b ob hb q => (sb.2 b (fun z => hb (by simp [z]))).trans (hk b ob (fun z => hb (by simp [z])) (fun z => hb (by simp [z])) q)) hf (Nat.le_refl _) new
    refine ⟨.ref s.heap.objs.size, _, I1, rfl, ⟨_, x, rfl, I.hok.fresh (Nat.le_refl _), rfl, fun ys hy => by rw [I.tuple_inj hy hq]; exact hx⟩, ⟨⟨x', ?_⟩, hst'.1.at fun o q => (sb.2 it (Ne.symm hne)).trans q, hne⟩, fun b hb => ?_⟩
    · have e1 : ((i + 1 : Nat) : Int) = (i : Int) + 1 := by omega
      rw [e1]; exact he'
    · have hb' : b < s.heap.objs.size := by
        have e' : b = e ∨ b = it := by simpa using hb
        rcases e' with z | z
        · rw [z]; exact hel
        · rw [z]; exact hil
      rw [upd_ne (Nat.ne_of_lt hb')]
      exact (hf b hb).1
  done := by
    intro X hP hw hK hc i pins s σ H E I hf st hg
    subst hP hw hK
    obtain ⟨⟨old, he⟩, hit, hne⟩ := st
    obtain ⟨xs, hq, hx⟩ := hg
    obtain ⟨its, rv, p, hz⟩ := I.tuple hq
    obtain ⟨f0, f1, f2, f3, f4, f5⟩ := hf it (by simp)
    have hl := rv.length
    exact mpEnumEndT (I.ok.hd hc) he hit (show s.heap.IsTuple a its.toArray from p) (by simp; omega) fun h' eb => ⟨rfl, I.turned (t' := s.toks) (fun b o hb q => eb b o hb q) f0 f1 f3 f4 f5⟩
  self := fun A i s Q E st h => let ⟨⟨_, he⟩, _⟩ := st; wpAny_pyIter_enum he h

section
variable {X : Cx} {tg : Expr}
/-- enumerate(xs), a list or a tuple -/
def iEnumA (K : PySem.W.Frag) (te : TE) : TI := fun σ H R => te σ H fun x H1 => ∃ a xs, x = .ref a ∧ ((SqL K H1 a xs ∧ R (Ite K a) H1) ∨ (SqT K H1 a xs ∧ R (IteT K a) H1))
theorem pi_enumA {e : Expr} {te : TE} {p pos tpos : Pos} {elts : List Expr} {kk : Nat} (hg : Gl X "enumerate") (hm : X.mg "enumerate" = none) (he : PE X e te) (na : starEach [e] X.env = (false, eval e X.env) :: starEach [] X.env) :
    PI X (.Tuple elts kk tpos) (.Call (.Name "enumerate" p) [e] [] pos) (iEnumA X.K te) := by
  refine ⟨fun pins s σ H R I h => ?_⟩
  refine Call_ (ld_blt I hg hm boot_enumerate (PyProof.Rows.callWith_type1 (PyProof.Rows.args_cons (thn (he.run pins s σ H _ I h) fun v s1 ⟨x, H1, I1, r1, q1⟩ => PyProof.Rows.args_nil ?_) na) na rfl))
  obtain ⟨a, xs, ex, q⟩ := q1
  subst ex
  cases r1
  have fr : ∀ b ∈ [s1.heap.objs.size + 1, s1.heap.objs.size], FpOk X pins H1 b := fun b hb => by
    have e' : b = s1.heap.objs.size + 1 ∨ b = s1.heap.objs.size := by simpa using hb
    have hle : s1.heap.objs.size ≤ b := by
      rcases e' with z | z
      · rw [z]; exact Nat.le_add_right _ _
      · rw [z]; exact Nat.le_refl _
    exact I1.fpOk hle (I1.hok.fresh hle)
  rcases q with ⟨hq, q⟩ | ⟨hq, q⟩
  · obtain ⟨its, rv, p', hz⟩ := I1.list hq
    refine call_enumerate_list p'.isList fun h' he hit hsz hk => wpAny_pyIter_enum he ?_
    have I2 : Inv X pins σ H1 { s1 with heap := h' } := I1.kept (t' := s1.toks) hk
    exact ⟨s1.heap.objs.size + 1, [s1.heap.objs.size + 1, s1.heap.objs.size], _, _, H1, rfl, I2, turn_enum a (s1.heap.objs.size + 1) s1.heap.objs.size, ⟨⟨.none, he⟩, hit, Nat.succ_ne_self _⟩, fr, q⟩
  · obtain ⟨its, rv, p', hz⟩ := I1.tuple hq
    have p2 : s1.heap.IsTuple a its.toArray := p'
    have hal : a < s1.heap.objs.size := by obtain ⟨o, ho, _⟩ := p2; exact Heap.lt_size ho
    refine mpEnumCall (begins_tuple a its.toArray) p2 fun h' he hit hsz hk => wpAny_pyIter_enum he ?_
    have I2 : Inv X pins σ H1 { s1 with heap := h' } := I1.kept (t' := s1.toks) hk
    exact ⟨s1.heap.objs.size + 1, [s1.heap.objs.size + 1, s1.heap.objs.size], _, _, H1, rfl, I2, turn_enumT a (s1.heap.objs.size + 1) s1.heap.objs.size (Nat.ne_of_lt hal) (Nat.ne_of_gt (Nat.lt_succ_of_lt hal)), ⟨⟨.none, he⟩, ⟨_, hit, rfl, rfl⟩, Nat.succ_ne_self _⟩, fr, q⟩
/-- a list, a tuple, a text -/
def iAny (K : PySem.W.Frag) (te : TE) : TI := fun σ H R => te σ H fun x H1 => (∃ a xs, x = .ref a ∧ SqL K H1 a xs ∧ R (Itl K a) H1) ∨ (∃ a xs, x = .ref a ∧ SqT K H1 a xs ∧ R (Itt K a) H1) ∨ ∃ z, x = .str z ∧ R (Its z) H1
theorem pi_anyA {e : Expr} {te : TE} (he : PE X e te) : PI X tg e (iAny X.K te) := by
  refine ⟨fun pins s σ H R I h => ?_⟩
  refine thn (he.run pins s σ H _ I h) fun v s1 ⟨x, H1, I1, r1, q1⟩ => ?_
  rcases q1 with ⟨a, xs, ex, hq, q⟩ | ⟨a, xs, ex, hq, q⟩ | ⟨z, ex, q⟩
  · subst ex
    cases r1
    obtain ⟨its, rv, p, hz⟩ := I1.list hq
    refine wpAny_pyIter_list p.isList ?_
    refine ⟨s1.heap.objs.size, [s1.heap.objs.size], _, _, H1, rfl, I1.kept (t' := s1.toks) fun b o e => Heap.get?_push_of_some _ e, turn_list a _, ⟨_, Heap.get?_push_size _ rfl, rfl, rfl⟩, fun b hb => ?_, q⟩
    have e : b = s1.heap.objs.size := by simpa using hb
    subst e
    exact I1.fpOk (Nat.le_refl _) (I1.hok.fresh (Nat.le_refl _))
  · subst ex
    cases r1
    obtain ⟨its, rv, p, hz⟩ := I1.tuple hq
    refine wpAny_pyIter_tuple (show s1.heap.IsTuple a its.toArray from p) ?_
    refine ⟨s1.heap.objs.size, [s1.heap.objs.size], _, _, H1, rfl, I1.kept (t' := s1.toks) fun b o e => Heap.get?_push_of_some _ e, turn_tuple a _, ⟨_, Heap.get?_push_size _ rfl, rfl, rfl⟩, fun b hb => ?_, q⟩
    have e : b = s1.heap.objs.size := by simpa using hb
    subst e
    exact I1.fpOk (Nat.le_refl _) (I1.hok.fresh (Nat.le_refl _))
  · subst ex
    obtain ⟨t, rfl⟩ := r1
    cases ha : z.cps.all (· < 128)
    · exact wpAny_pyIter_wide ha (pi_one (tk := s1.toks) I1 _ (turn_str _ z t "str_iterator" (.inr rfl)) ⟨_, Heap.get?_push_size _ rfl, rfl, rfl⟩ q)
    · exact wpAny_pyIter_ascii ha (pi_one (tk := s1.toks) I1 _ (turn_str _ z t "str_ascii_iterator" (.inl rfl)) ⟨_, Heap.get?_push_size _ rfl, rfl, rfl⟩ q)
end
/-! ### by data -/
def nxt (v : Itv) : Nat → Store → Option (Option D) := match v with
  | .items ds => fun i _ => some ds[i]?
  | .obj l => fun i S => match S[l]? with
    | some (.lst ds) => some ds[i]?
    | _ => none
def Wk (G : Wd) (J : L2.It) (v : Itv) (Z0 : Hp) (A0 : List Addr) : Prop := ∀ Z A S H i, Rel G Z A S H → Le Z0 A0 Z A → match nxt v i S with
  | some (some d) => J.go i H ∧ ∀ x H', J.yld i H x H' → ∃ Z', Rel G Z' A S H' ∧ Fut H Z A H' Z' A ∧ Rp G Z' A x d
  | some none => J.stop i H
  | none => True
abbrev FI := EnvD → Store → R Itv
def tI (G : Wd) (f : FI) (W : L2.St → XK) : TI := fun σ H R => ∃ Z A env S, Rel G Z A S H ∧ EnvR G Z A env σ ∧ PostR (f env S) (fun v S' => ∀ J H' Z' A', Fut H Z A H' Z' A' → Rel G Z' A' S' H' → Wk G J v Z' A' → R J H') (fun x S' => KonX G H Z A x S' (W σ))
theorem PI.imp {X : Cx} {tg e : Expr} {t t' : TI} (h : PI X tg e t) (i : ∀ σ H R, t' σ H R → t σ H R) : PI X tg e t' := ⟨fun pins s σ H Q I q => h.run pins s σ H Q I (i σ H Q q)⟩
section
variable {G : Wd} {Z Z' H : Hp} {A A' : List Addr} {S : Store} {vs : List V} {ds : List D}
theorem wk_same {J : L2.It} (go : ∀ i H d, (∀ a o, Z a = some o → H a = some o) → ds[i]? = some d → J.go i H ∧ ∀ x H', J.yld i H x H' → H' = H ∧ Rp G Z A x d) (stop : ∀ i H, (∀ a o, Z a = some o → H a = some o) → ds[i]? = none → J.stop i H) : Wk G J (.items ds) Z A := by
  intro Z1 A1 S1 H1 i R le
  have hs : ∀ a o, Z a = some o → H1 a = some o := fun a o e => R.sub a o (le.z a o e)
  show match some ds[i]? with
    | some (some d) => _
    | some none => _
    | none => _
  cases e : ds[i]? with
  | none => exact stop i H1 hs e
  | some d =>
    obtain ⟨h1, h2⟩ := go i H1 d hs e
    refine ⟨h1, fun x H' y => ?_⟩
    obtain ⟨rfl, h3⟩ := h2 x H' y
    exact ⟨Z1, R, .refl, h3.mono le⟩
theorem len_none {α β : Type} {l : List α} {m : List β} {i : Nat} (h : l.length = m.length) (e : m[i]? = none) : l.length ≤ i := by
  rw [h]
  exact List.getElem?_eq_none_iff.mp e
theorem wk_list {K : PySem.W.Frag} {a : Addr} (hz : Z a = some (.lst vs)) (hv : RpAll G Z A vs ds) : Wk G (Itl K a) (.items ds) Z A :=
  wk_same (fun i H d hs e => by
    obtain ⟨v, hv1, hv2⟩ := hv.get e
    exact ⟨⟨vs, v, .of (hs _ _ hz), hv1⟩, fun x H' y => ⟨y.1, by
      have := y.2 vs (.of (hs _ _ hz))
      rw [hv1] at this
      cases this
      exact hv2⟩⟩) fun i H hs e => ⟨vs, .of (hs _ _ hz), len_none hv.length e⟩
theorem wk_tup {K : PySem.W.Frag} {a : Addr} (hz : SqT K Z a vs) (hv : RpAll G Z A vs ds) : Wk G (Itt K a) (.items ds) Z A :=
  wk_same (fun i H d hs e => by
    obtain ⟨v, hv1, hv2⟩ := hv.get e
    have q := sqT_le hs hz
    exact ⟨⟨vs, v, q, hv1⟩, fun x H' y => ⟨y.1, by
      have := y.2 vs q
      rw [hv1] at this
      cases this
      exact hv2⟩⟩) fun i H hs e => ⟨vs, sqT_le hs hz, len_none hv.length e⟩
theorem wk_str (z : Str) : Wk G (Its z) (.items (z.cps.toList.map fun c => .str ⟨#[c]⟩)) Z A :=
  wk_same (fun i H d hs e => by
    rw [List.getElem?_map] at e
    obtain ⟨c, hc, rfl⟩ := Option.map_eq_some_iff.mp e
    have hl := (List.getElem?_eq_some_iff.mp hc).1
    rw [Array.length_toList] at hl
    refine ⟨hl, fun x H' y => ⟨y.1, ?_⟩⟩
    obtain ⟨c', h1, rfl⟩ := y.2
    have h2 : z.cps[i]? = some c := by rw [← Array.getElem?_toList]; exact hc
    rw [h2] at h1
    cases h1
    exact .str _) fun i H hs e => by
    rw [List.getElem?_map] at e
    have := List.getElem?_eq_none_iff.mp (Option.map_eq_none_iff.mp e)
    rw [Array.length_toList] at this
    exact this
theorem wk_rng (lo : Int) (n : Nat) (hn : ds = (List.range n).map fun k => .int (lo + (k : Nat))) : Wk G (Itr lo n) (.items ds) Z A := by
  subst hn
  refine wk_same (fun i H d hs e => ?_) fun i H hs e => ?_
  · rw [List.getElem?_map] at e
    obtain ⟨k, hk, rfl⟩ := Option.map_eq_some_iff.mp e
    obtain ⟨h1, h2⟩ := List.getElem?_eq_some_iff.mp hk
    rw [List.length_range] at h1
    rw [List.getElem_range] at h2
    subst h2
    refine ⟨h1, fun x H' y => ⟨y.1, ?_⟩⟩
    have := y.2
    subst this
    exact .int _
  · rw [List.getElem?_map] at e
    have := List.getElem?_eq_none_iff.mp (Option.map_eq_none_iff.mp e)
    rw [List.length_range] at this
    exact this
/-- a mutable list -/
theorem wk_obj {K : PySem.W.Frag} {l : Nat} {a : Addr} (ha : A[l]? = some a) : Wk G (Itl K a) (.obj l) Z A := by
  intro Z1 A1 S1 H1 i R le
  show match (match S1[l]? with
    | some (.lst ds) => some ds[i]?
    | _ => none) with
    | some (some d) => _
    | some none => _
    | none => _
  cases e : S1[l]? with
  | none => trivial
  | some m =>
    cases m with
    | ins c fs => trivial
    | dead => trivial
    | lst ds =>
      obtain ⟨_, vs, h1, h2⟩ := R.at0 (le.at_ ha) e
      show match some ds[i]? with
        | some (some d) => _
        | some none => _
        | none => _
      cases e2 : ds[i]? with
      | none => exact ⟨vs, .of h1, len_none h2.length e2⟩
      | some d =>
        obtain ⟨v, hv1, hv2⟩ := h2.get e2
        refine ⟨⟨vs, v, .of h1, hv1⟩, fun x H' y => ?_⟩
        obtain ⟨rfl, y2⟩ := y
        have := y2 vs (.of h1)
        rw [hv1] at this
        cases this
        exact ⟨Z1, R, .refl, hv2⟩
theorem pairs_get : ∀ (k : Nat) (ds : List D) (i : Nat), (pairs k ds)[i]? = ds[i]?.map fun d => .tuple [.int ((k + i : Nat) : Int), d]
  | _, [], i => by simp [pairs]
  | k, d :: r, 0 => by simp [pairs]
  | k, d :: r, i + 1 => by
    have h := pairs_get (k + 1) r i
    show (pairs (k + 1) r)[i]? = _
    rw [h]
    have e : k + 1 + i = k + (i + 1) := by omega
    rw [e]
    simp
/-- pairs that are new at each turn -/
theorem wk_new {J : L2.It} (go : ∀ i H d, (∀ a o, Z a = some o → H a = some o) → ds[i]? = some d → J.go i H ∧ ∀ x H', J.yld i H x H' → ∃ T y1 y2 d1 d2, d = .tuple [d1, d2] ∧ x = .ref T ∧ H T = none ∧ H' = upd H T (.tup [y1, y2]) ∧ Rp G Z A y1 d1 ∧ Rp G Z A y2 d2)
    (stop : ∀ i H, (∀ a o, Z a = some o → H a = some o) → ds[i]? = none → J.stop i H) : Wk G J (.items ds) Z A := by
  intro Z1 A1 S1 H1 i R le
  have hs : ∀ a o, Z a = some o → H1 a = some o := fun a o e => R.sub a o (le.z a o e)
  show match some ds[i]? with
    | some (some d) => _
    | some none => _
    | none => _
  cases e : ds[i]? with
  | none => exact stop i H1 hs e
  | some d =>
    obtain ⟨h1, h2⟩ := go i H1 d hs e
    refine ⟨h1, fun x H' y => ?_⟩
    obtain ⟨T, y1, y2, d1, d2, rfl, rfl, hT, rfl, r1, r2⟩ := h2 x H' y
    obtain ⟨R1, f1⟩ := R.freeze (o := .tup [y1, y2]) hT (fun ps z => by cases z)
    exact ⟨_, R1, f1, .tup (.of upd_same) (.cons ((r1.mono le).mono f1.le) (.one ((r2.mono le).mono f1.le)))⟩
theorem wk_enumL {K : PySem.W.Frag} {a : Addr} (hz : Z a = some (.lst vs)) (hv : RpAll G Z A vs ds) : Wk G (Ite K a) (.items (pairs 0 ds)) Z A :=
  wk_new (fun i H d hs e => by
    rw [pairs_get] at e
    obtain ⟨d', hd, rfl⟩ := Option.map_eq_some_iff.mp e
    obtain ⟨v, hv1, hv2⟩ := hv.get hd
    refine ⟨⟨vs, v, .of (hs _ _ hz), hv1⟩, fun x H' y => ?_⟩
    obtain ⟨T, x', rfl, hT, rfl, h4⟩ := y
    have := h4 vs (.of (hs _ _ hz))
    rw [hv1] at this
    cases this
    exact ⟨T, _, _, _, _, rfl, rfl, hT, rfl, by rw [Nat.zero_add]; exact .int _, hv2⟩) fun i H hs e => by
    rw [pairs_get] at e
    exact ⟨vs, .of (hs _ _ hz), len_none hv.length (Option.map_eq_none_iff.mp e)⟩
theorem wk_enumT {K : PySem.W.Frag} {a : Addr} (hz : SqT K Z a vs) (hv : RpAll G Z A vs ds) : Wk G (IteT K a) (.items (pairs 0 ds)) Z A :=
  wk_new (fun i H d hs e => by
    rw [pairs_get] at e
    obtain ⟨d', hd, rfl⟩ := Option.map_eq_some_iff.mp e
    obtain ⟨v, hv1, hv2⟩ := hv.get hd
    have q := sqT_le hs hz
    refine ⟨⟨vs, v, q, hv1⟩, fun x H' y => ?_⟩
    obtain ⟨T, x', rfl, hT, rfl, h4⟩ := y
    have := h4 vs q
    rw [hv1] at this
    cases this
    exact ⟨T, _, _, _, _, rfl, rfl, hT, rfl, by rw [Nat.zero_add]; exact .int _, hv2⟩) fun i H hs e => by
    rw [pairs_get] at e
    exact ⟨vs, sqT_le hs hz, len_none hv.length (Option.map_eq_none_iff.mp e)⟩
theorem zipD_get : ∀ (ds es : List D) (i : Nat), (zipD ds es)[i]? = match ds[i]?, es[i]? with
    | some d, some e => some (.tuple [d, e])
    | _, _ => none
  | [], es, i => by simp [zipD]
  | d :: ds, [], i => by
    simp only [zipD, List.getElem?_nil]
    cases (d :: ds)[i]? <;> rfl
  | d :: ds, e :: es, 0 => by simp [zipD]
  | d :: ds, e :: es, i + 1 => by
    show (zipD ds es)[i]? = _
    rw [zipD_get ds es i]
    simp
theorem zipD_none {ds es : List D} {i : Nat} (h : (zipD ds es)[i]? = none) : ds[i]? = none ∨ es[i]? = none := by
  rw [zipD_get] at h
  cases h1 : ds[i]? with
  | none => exact .inl rfl
  | some d =>
    cases h2 : es[i]? with
    | none => exact .inr rfl
    | some e =>
      rw [h1, h2] at h
      cases h
theorem zipD_some {ds es : List D} {i : Nat} {x : D} (h : (zipD ds es)[i]? = some x) : ∃ d e, ds[i]? = some d ∧ es[i]? = some e ∧ x = .tuple [d, e] := by
  rw [zipD_get] at h
  cases h1 : ds[i]? with
  | none =>
    rw [h1] at h
    cases h
  | some d =>
    cases h2 : es[i]? with
    | none =>
      rw [h1, h2] at h
      cases h
    | some e =>
      rw [h1, h2] at h
      cases h
      exact ⟨d, e, rfl, rfl, rfl⟩
theorem wk_zipL {K : PySem.W.Frag} {a b : Addr} {ws : List V} {es : List D} (hz : Z a = some (.lst vs)) (hv : RpAll G Z A vs ds) (hz2 : Z b = some (.lst ws)) (hv2 : RpAll G Z A ws es) : Wk G (Itz K a b) (.items (zipD ds es)) Z A :=
  wk_new (fun i H d hs e => by
    obtain ⟨d1, d2, e1, e2, rfl⟩ := zipD_some e
    obtain ⟨v, hv1, hr1⟩ := hv.get e1
    obtain ⟨u, hu1, hr2⟩ := hv2.get e2
    have q1 : SqL K H a vs := .of (hs _ _ hz)
    have q2 : SqL K H b ws := .of (hs _ _ hz2)
    refine ⟨⟨vs, ws, v, u, q1, q2, hv1, hu1⟩, fun x H' y => ?_⟩
    obtain ⟨T, x', y', rfl, hT, rfl, h4, h5⟩ := y
    have t1 := h4 vs q1
    have t2 := h5 ws q2
    rw [hv1] at t1
    rw [hu1] at t2
    cases t1
    cases t2
    exact ⟨T, _, _, _, _, rfl, rfl, hT, rfl, hr1, hr2⟩) fun i H hs e => ⟨vs, ws, .of (hs _ _ hz), .of (hs _ _ hz2), (zipD_none e).imp (len_none hv.length) (len_none hv2.length)⟩
theorem wk_zipT {K : PySem.W.Frag} {a b : Addr} {ws : List V} {es : List D} (hz : SqT K Z a vs) (hv : RpAll G Z A vs ds) (hz2 : SqT K Z b ws) (hv2 : RpAll G Z A ws es) : Wk G (RZ.ItzT K a b) (.items (zipD ds es)) Z A :=
  wk_new (fun i H d hs e => by
    obtain ⟨d1, d2, e1, e2, rfl⟩ := zipD_some e
    obtain ⟨v, hv1, hr1⟩ := hv.get e1
    obtain ⟨u, hu1, hr2⟩ := hv2.get e2
    have q1 := sqT_le hs hz
    have q2 := sqT_le hs hz2
    refine ⟨⟨vs, ws, v, u, q1, q2, hv1, hu1⟩, fun x H' y => ?_⟩
    obtain ⟨T, x', y', rfl, hT, rfl, h4, h5⟩ := y
    have t1 := h4 vs q1
    have t2 := h5 ws q2
    rw [hv1] at t1
    rw [hu1] at t2
    cases t1
    cases t2
    exact ⟨T, _, _, _, _, rfl, rfl, hT, rfl, hr1, hr2⟩) fun i H hs e => ⟨vs, ws, sqT_le hs hz, sqT_le hs hz2, (zipD_none e).imp (len_none hv.length) (len_none hv2.length)⟩

section
variable {P : Program} {w : World} {base : Heap} {N : List Str} {n : Nat} {W : L2.St → XK} {X : Cx} {a b tg : Expr} {fa fb : FE} {p pos : Pos} {σ : L2.St} {env : EnvD}
theorem itv_is {x : V} {d : D} {v : Itv} (hK : X.K = G.K) (hR : Rel G Z A S H) (hx : Rp G Z A x d) (h : itv d S = some v) {Rr : L2.It → Hp → Prop} (k : ∀ J H' Z' A', Fut H Z A H' Z' A' → Rel G Z' A' S H' → Wk G J v Z' A' → Rr J H') :
    (∃ a xs, x = .ref a ∧ SqL X.K H a xs ∧ Rr (Itl X.K a) H) ∨ (∃ a xs, x = .ref a ∧ SqT X.K H a xs ∧ Rr (Itt X.K a) H) ∨ ∃ z, x = .str z ∧ Rr (Its z) H := by
  unfold itv at h
  split at h
  · cases h
    cases hx with
    | lst h1 h2 => exact .inl ⟨_, _, rfl, .of (hR.sub _ _ h1), k _ _ _ _ .refl hR (wk_list h1 h2)⟩
  · cases h
    cases hx with
    | tup h1 h2 =>
      rw [← hK] at h1
      exact .inr (.inl ⟨_, _, rfl, sqT_le hR.sub h1, k _ _ _ _ .refl hR (wk_tup h1 h2)⟩)
  · cases h
    cases hx
    exact .inr (.inr ⟨_, rfl, k _ _ _ _ .refl hR (wk_str _)⟩)
  · cases h
    cases hx with
    | @ktu a o xs ds h1 h2 h3 =>
      have hq : SqT X.K Z a xs := .inl (.inr ⟨o, h1⟩)
      exact .inr (.inl ⟨_, _, rfl, sqT_le hR.sub hq, k _ _ _ _ .refl hR (wk_tup hq h3)⟩)
  · rename_i l
    split at h
    · rename_i ds e
      cases h
      cases hx with
      | @obj a l h1 =>
        obtain ⟨_, vs, h2, h3⟩ := hR.at0 h1 e
        exact .inl ⟨a, vs, rfl, .of h2, k _ _ _ _ .refl hR (wk_obj h1)⟩
    · cases h
  · cases h
theorem i_e (c : Cok G P w base N n W X) (ha : PE X a (tD G fa W)) : PI X tg a (tI G (fun env S => (fa env S).bind fun x S1 => opt (itv x S1) S1) W) :=
  PI.imp (pi_anyA ha) fun σ H Rr ⟨Z, A, env, S, hR, hE, hP⟩ => step hR hE hP fun v d S1 Z1 A1 H1 f1 R1 E1 r1 P1 => by
    obtain ⟨r, hr, k⟩ := P1.opt
    exact itv_is c.K R1 r1 hr fun J H' Z' A' f R q => k J H' Z' A' (f1.trans f) R q
theorem i_r1 (hb : Bn X "range" (.type "range")) (ha : PE X a (tD G fa W)) (hs : noStar a = true) : PI X tg (.Call (.Name "range" p) [a] [] pos) (tI G (fun env S => (fa env S).bind fun x S1 => opt ((asInt x).bind fun i => if inRng i then some (.items (rngL 0 i)) else none) S1) W) :=
  PI.imp (pi_range1 hb.gl hb.mg (pa_cons ha pa_nil (star_cons hs _ _)) (star_cons hs _ _)) fun σ H Rr ⟨Z, A, env, S, hR, hE, hP⟩ => step hR hE hP fun v d S1 Z1 A1 H1 f1 R1 E1 r1 P1 => by
    obtain ⟨r, hr, k⟩ := P1.opt
    obtain ⟨i, hi, hr⟩ := Option.bind_eq_some_iff.mp hr
    split at hr
    · rename_i hz
      cases hr
      obtain ⟨z1, z2⟩ := inRng_is hz
      refine ⟨i, by rw [asInt_rp hi r1], z1, z2, k _ _ _ _ f1 R1 (wk_rng 0 i.toNat ?_)⟩
      unfold rngL
      rw [Int.sub_zero]
    · cases hr
theorem i_r2 (hb : Bn X "range" (.type "range")) (ha : PE X a (tD G fa W)) (hc : PE X b (tD G fb W)) (hs : noStar a = true) (hs2 : noStar b = true) : PI X tg (.Call (.Name "range" p) [a, b] [] pos)
    (tI G (fun env S => (fa env S).bind fun x S1 => (fb env S1).bind fun y S2 => opt ((asInt x).bind fun i => (asInt y).bind fun j => if inRng i && inRng j then some (.items (rngL i j)) else none) S2) W) :=
  PI.imp (pi_range2 hb.gl hb.mg (pa_cons ha (pa_cons hc pa_nil (star_cons hs2 _ _)) (star_cons hs _ _)) (by rw [star_cons hs, star_cons hs2]; rfl) (star_cons hs2 _ _)) fun σ H Rr ⟨Z, A, env, S, hR, hE, hP⟩ => step hR hE hP fun v d S1 Z1 A1 H1 f1 R1 E1 r1 P1 => step R1 E1 P1 fun u e S2 Z2 A2 H2 f2 R2 E2 r2 P2 => by
    obtain ⟨r, hr, k⟩ := P2.opt
    obtain ⟨i, hi, hr⟩ := Option.bind_eq_some_iff.mp hr
    obtain ⟨j, hj, hr⟩ := Option.bind_eq_some_iff.mp hr
    split at hr
    · rename_i hz
      cases hr
      simp only [Bool.and_eq_true] at hz
      obtain ⟨z1, z2⟩ := inRng_is hz.1
      obtain ⟨z3, z4⟩ := inRng_is hz.2
      exact ⟨i, j, by rw [asInt_rp hi r1, asInt_rp hj r2], ⟨z1, z2, z3, z4⟩, k _ _ _ _ (f1.trans f2) R2 (wk_rng i (j - i).toNat rfl)⟩
    · cases hr
theorem i_en (c : Cok G P w base N n W X) {elts : List Expr} {kk : Nat} {tpos : Pos} (hb : Bn X "enumerate" (.type "enumerate")) (ha : PE X a (tD G fa W)) (hs : noStar a = true) : PI X (.Tuple elts kk tpos) (.Call (.Name "enumerate" p) [a] [] pos)
    (tI G (fun env S => (fa env S).bind fun x S1 => opt ((itemsOf x).map fun ds => .items (pairs 0 ds)) S1) W) :=
  PI.imp (pi_enumA hb.gl hb.mg ha (star_cons hs _ _)) fun σ H Rr ⟨Z, A, env, S, hR, hE, hP⟩ => step hR hE hP fun v d S1 Z1 A1 H1 f1 R1 E1 r1 P1 => by
    obtain ⟨r, hr, k⟩ := P1.opt
    obtain ⟨ds, hd, rfl⟩ := Option.map_eq_some_iff.mp hr
    unfold itemsOf at hd
    split at hd
    · cases hd
      cases r1 with
      | lst h1 h2 => exact ⟨_, _, rfl, .inl ⟨.of (R1.sub _ _ h1), k _ _ _ _ f1 R1 (wk_enumL h1 h2)⟩⟩
    · cases hd
      cases r1 with
      | tup h1 h2 =>
        rw [← c.K] at h1
        exact ⟨_, _, rfl, .inr ⟨sqT_le R1.sub h1, k _ _ _ _ f1 R1 (wk_enumT h1 h2)⟩⟩
    · cases hd
      cases r1 with
      | @ktu a o xs ds h1 h2 h3 =>
        have hq : SqT X.K Z1 a xs := .inl (.inr ⟨o, h1⟩)
        exact ⟨_, _, rfl, .inr ⟨sqT_le R1.sub hq, k _ _ _ _ f1 R1 (wk_enumT hq h3)⟩⟩
    · cases hd
theorem i_zp (c : Cok G P w base N n W X) {elts : List Expr} {kk : Nat} {tpos : Pos} (hb : Bn X "zip" (.type "zip")) (ha : PE X a (tD G fa W)) (hc : PE X b (tD G fb W)) (hs : noStar a = true) (hs2 : noStar b = true) : PI X (.Tuple elts kk tpos) (.Call (.Name "zip" p) [a, b] [] pos)
    (tI G (fun env S => (fa env S).bind fun x S1 => (fb env S1).bind fun y S2 => opt ((zipO x y).map .items) S2) W) :=
  PI.imp (RZ.pi_zipA hb.gl hb.mg (pa_cons ha (pa_cons hc pa_nil (star_cons hs2 _ _)) (star_cons hs _ _)) (star_cons hs _ _) (star_any (by simp [hs2]))) fun σ H Rr ⟨Z, A, env, S, hR, hE, hP⟩ => step hR hE hP fun v d S1 Z1 A1 H1 f1 R1 E1 r1 P1 => step R1 E1 P1 fun u e S2 Z2 A2 H2 f2 R2 E2 r2 P2 => by
    obtain ⟨r, hr, k⟩ := P2.opt
    obtain ⟨ds, hd, rfl⟩ := Option.map_eq_some_iff.mp hr
    have r1 := f2.rp r1
    unfold zipO at hd
    split at hd
    · cases hd
      cases r1 with
      | lst h1 h2 =>
        cases r2 with
        | lst h3 h4 => exact ⟨_, _, _, _, rfl, .inl ⟨.of (R2.sub _ _ h1), .of (R2.sub _ _ h3), k _ _ _ _ (f1.trans f2) R2 (wk_zipL h1 h2 h3 h4)⟩⟩
    · cases hd
      cases r1 with
      | tup h1 h2 =>
        cases r2 with
        | tup h3 h4 =>
          rw [← c.K] at h1 h3
          exact ⟨_, _, _, _, rfl, .inr ⟨sqT_le R2.sub h1, sqT_le R2.sub h3, k _ _ _ _ (f1.trans f2) R2 (wk_zipT h1 h2 h3 h4)⟩⟩
    · cases hd
end
end
end Mp
set_option maxHeartbeats 200000
/-! Mp.Lc: targets, list comprehensions. -/
namespace Mp
open PySem PySem.Spec PyProof.Rows L2

/-! ### walks by next -/
def mapW (nx : Nat → Store → Option (Option D)) (turn : D → Store → R (List D)) : Nat → Nat → Store → R (List D)
  | 0, _, _ => .bad
  | f + 1, i, S => match nx i S with
    | none => .bad
    | some none => .ok [] S
    | some (some d) => (turn d S).bind fun x S1 => (mapW nx turn f (i + 1) S1).bind fun r S2 => .ok (x ++ r) S2
theorem mapObj_W (l : Nat) (turn : D → Store → R (List D)) : ∀ (f i : Nat) (S : Store), mapObj l turn f i S = mapW (nxt (.obj l)) turn f i S
  | 0, _, _ => rfl
  | f + 1, i, S => by
    have ih := fun S => mapObj_W l turn f (i + 1) S
    show (match S[l]? with
      | some (.lst ds) => _
      | _ => _) = match (match S[l]? with
        | some (.lst ds) => some ds[i]?
        | _ => none) with
      | none => _
      | some none => _
      | some (some d) => _
    cases S[l]? with
    | none => rfl
    | some m =>
      cases m with
      | lst ds =>
        show (match ds[i]? with
          | none => _
          | some d => _) = match some ds[i]? with
          | none => _
          | some none => _
          | some (some d) => _
        cases ds[i]? with
        | none => rfl
        | some d =>
          show (turn d S).bind _ = (turn d S).bind _
          congr 1
          funext x S1
          rw [ih]
      | ins c fs => rfl
      | dead => rfl
theorem drop_get {ds es : List D} {i : Nat} (h : ds.drop i = es) : ds[i]? = es[0]? := by
  rw [← h, List.getElem?_drop, Nat.add_zero]
theorem drop_tail {ds es : List D} {i : Nat} {d : D} (h : ds.drop i = d :: es) : ds.drop (i + 1) = es := by
  rw [← List.drop_drop, h]
  rfl
theorem mapItems_W (ds : List D) (turn : D → Store → R (List D)) : ∀ (es : List D) (i : Nat) (S : Store), ds.drop i = es → mapItems turn es S = mapW (nxt (.items ds)) turn (es.length + 1) i S
  | [], i, S, h => by
    show _ = match some ds[i]? with
      | none => _
      | some none => _
      | some (some d) => _
    rw [drop_get h]
    rfl
  | d :: es, i, S, h => by
    have ih := fun S => mapItems_W ds turn es (i + 1) S (drop_tail h)
    show _ = match some ds[i]? with
      | none => _
      | some none => _
      | some (some d) => _
    rw [drop_get h]
    show (turn d S).bind _ = (turn d S).bind _
    congr 1
    funext x S1
    rw [ih]
    rfl
theorem mapItv_W (turn : D → Store → R (List D)) (v : Itv) (S : Store) : ∃ f, mapItv turn v S = mapW (nxt v) turn f 0 S := by
  cases v with
  | items ds => exact ⟨_, mapItems_W ds turn ds 0 S rfl⟩
  | obj l =>
    show ∃ f, (match S[l]? with
      | some (.lst ds) => mapObj l turn (ds.length + 1) 0 S
      | _ => .bad) = _
    cases S[l]? with
    | none => exact ⟨0, rfl⟩
    | some m =>
      cases m with
      | lst ds => exact ⟨_, mapObj_W l turn _ 0 S⟩
      | ins c fs => exact ⟨0, rfl⟩
      | dead => exact ⟨0, rfl⟩

/-! ### targets -/
/-- only these slots differ -/
def Only (is : List Nat) (σ σ' : L2.St) : Prop := ∀ vs : List Nat, (∀ i ∈ is, i ∈ vs) → L2.wipe σ' vs = L2.wipe σ vs
theorem wipe_set (σ : L2.St) (i : Nat) (x : Option V) : ∀ vs : List Nat, i ∈ vs → L2.wipe (σ.set i x) vs = L2.wipe σ vs
  | [], h => by cases h
  | v :: vs, h => by
    show (L2.wipe (σ.set i x) vs).set v none = (L2.wipe σ vs).set v none
    by_cases hv : i ∈ vs
    · rw [wipe_set σ i x vs hv]
    · have e : i = v := by
        rcases List.mem_cons.mp h with e | e
        · exact e
        · exact absurd e hv
      subst e
      have go : ∀ vs : List Nat, i ∉ vs → L2.wipe (σ.set i x) vs = (L2.wipe σ vs).set i x := by
        intro vs
        induction vs with
        | nil => intro _; rfl
        | cons u us ih =>
          intro hu
          have h1 : i ≠ u := fun e => hu (by rw [e]; exact List.mem_cons_self)
          have h2 : i ∉ us := fun e => hu (List.mem_cons_of_mem _ e)
          show (L2.wipe (σ.set i x) us).set u none = ((L2.wipe σ us).set u none).set i x
          rw [ih h2, List.set_comm _ _ h1]
      rw [go vs hv, List.set_set]
theorem wipe_wipe (σ : L2.St) (vs : List Nat) : ∀ us : List Nat, (∀ u ∈ us, u ∈ vs) → L2.wipe (L2.wipe σ us) vs = L2.wipe σ vs
  | [], _ => rfl
  | u :: us, h => by
    show L2.wipe ((L2.wipe σ us).set u none) vs = _
    rw [wipe_set _ _ _ _ (h u List.mem_cons_self), wipe_wipe σ vs us fun u hu => h u (List.mem_cons_of_mem _ hu)]
theorem Only.refl {is : List Nat} {σ : L2.St} : Only is σ σ := fun _ _ => rfl
theorem Only.trans {is js : List Nat} {σ σ1 σ2 : L2.St} (a : Only is σ σ1) (b : Only js σ1 σ2) : Only (is ++ js) σ σ2 := fun vs h => by
  rw [b vs fun i hi => h i (List.mem_append_right _ hi), a vs fun i hi => h i (List.mem_append_left _ hi)]
theorem Only.one {i : Nat} {σ : L2.St} {x : Option V} : Only [i] σ (σ.set i x) := fun vs h => wipe_set σ i x vs (h i List.mem_cons_self)
def gT (G : Wd) (t : Tg) : TG := fun v σ H Q => ∃ Z A S env d env', Rel G Z A S H ∧ EnvR G Z A env σ ∧ Rp G Z A v d ∧ asg t d env = some env' ∧ ∀ σ', EnvR G Z A env' σ' → Only (slots t) σ σ' → Q σ' H
theorem PG.imp {X : Cx} {tg : Expr} {t t' : TG} (h : PG X tg t) (i : ∀ v σ H Q, t' v σ H Q → t v σ H Q) : PG X tg t' := ⟨fun pins s σ H v u Q I r q => h.run pins s σ H v u Q I r (i v σ H Q q)⟩
section
variable {G : Wd} {X : Cx} {pos : Pos} {a b c : Expr} {ta tb tc : Tg}
theorem g_nm {i : Nat} {x : Str} (hN : X.N.Nodup) (hi : X.N[i]? = some x) (hx : Loc X.env.scope x) (hf : X.fn x = true ∨ X.env.scope.names.lookup x = some .local) : PG X (.Name x pos) (gT G (.nm i)) :=
  PG.imp (pg_name hN hi hx hf) fun v σ H Q ⟨Z, A, S, env, d, env', hR, hE, hv, ha, k⟩ => by
    unfold asg at ha
    split at ha
    · cases ha
      exact k _ (hE.set hv) .one
    · cases ha
theorem asg_each {e : Expr} (h : noStar e = true) (es : List Expr) (env : Env) : (assignEach (e :: es) env) = (false, assign e env) :: assignEach es env := by
  cases e <;> first | rfl | cases h
theorem asg_t2 {ta tb : Tg} {d : D} {env env' : EnvD} (h : asg (.t2 ta tb) d env = some env') : ∃ x y env1, d = .tuple [x, y] ∧ asg ta x env = some env1 ∧ asg tb y env1 = some env' := by
  match d, h with
  | .tuple [x, y], h =>
    obtain ⟨env1, e1, e2⟩ := Option.bind_eq_some_iff.mp (show (asg ta x env).bind (asg tb y) = some env' from h)
    exact ⟨x, y, env1, rfl, e1, e2⟩
  | .none, h => cases h
  | .bool _, h => cases h
  | .int _, h => cases h
  | .str _, h => cases h
  | .list _, h => cases h
  | .dict _, h => cases h
  | .tuple [], h => cases h
  | .tuple [_], h => cases h
  | .tuple (_ :: _ :: _ :: _), h => cases h
theorem asg_t3 {ta tb tc : Tg} {d : D} {env env' : EnvD} (h : asg (.t3 ta tb tc) d env = some env') : ∃ x y z env1 env2, d = .tuple [x, y, z] ∧ asg ta x env = some env1 ∧ asg tb y env1 = some env2 ∧ asg tc z env2 = some env' := by
  match d, h with
  | .tuple [x, y, z], h =>
    obtain ⟨env2, e2, e3⟩ := Option.bind_eq_some_iff.mp (show ((asg ta x env).bind (asg tb y)).bind (asg tc z) = some env' from h)
    obtain ⟨env1, e1, e2⟩ := Option.bind_eq_some_iff.mp e2
    exact ⟨x, y, z, env1, env2, rfl, e1, e2, e3⟩
  | .none, h => cases h
  | .bool _, h => cases h
  | .int _, h => cases h
  | .str _, h => cases h
  | .list _, h => cases h
  | .dict _, h => cases h
  | .tuple [], h => cases h
  | .tuple [_], h => cases h
  | .tuple [_, _], h => cases h
  | .tuple (_ :: _ :: _ :: _ :: _), h => cases h
theorem g_t2 (hK : X.K = G.K) (hc : X.calm = true) (ha : PG X a (gT G ta)) (hb : PG X b (gT G tb)) (h1 : noStar a = true) (h2 : noStar b = true) {k : Nat} : PG X (.Tuple [a, b] k pos) (gT G (.t2 ta tb)) :=
  PG.imp (pg_tup hc (pgs_cons ha (pgs_cons hb pgs_nil (by rw [asg_each h2]; rfl)) (by rw [asg_each h1]; rfl)) (n := 2) (by rw [asg_each h1, asg_each h2]; rfl) (by rw [asg_each h1, asg_each h2]; rfl)) fun v σ H Q ⟨Z, A, S, env, d, env', hR, hE, hv, hs, k⟩ => by
    obtain ⟨x, y, env1, rfl, e1, e2⟩ := asg_t2 hs
    cases hv with
    | tup q1 q2 =>
      cases q2 with
      | cons r1 q2 =>
        cases q2 with
        | cons r2 q3 =>
          cases q3
          refine ⟨_, _, rfl, by rw [hK]; exact sqT_le hR.sub q1, rfl, _, _, rfl, Z, A, S, env, x, env1, hR, hE, r1, e1, fun σ1 E1 o1 => ?_⟩
          exact ⟨_, _, rfl, Z, A, S, env1, y, env', hR, E1, r2, e2, fun σ2 E2 o2 => ⟨rfl, k σ2 E2 (o1.trans o2)⟩⟩
theorem g_t3 (hK : X.K = G.K) (hc : X.calm = true) (ha : PG X a (gT G ta)) (hb : PG X b (gT G tb)) (hcc : PG X c (gT G tc)) (h1 : noStar a = true) (h2 : noStar b = true) (h3 : noStar c = true) {k : Nat} : PG X (.Tuple [a, b, c] k pos) (gT G (.t3 ta tb tc)) :=
  PG.imp (pg_tup hc (pgs_cons ha (pgs_cons hb (pgs_cons hcc pgs_nil (by rw [asg_each h3]; rfl)) (by rw [asg_each h2]; rfl)) (by rw [asg_each h1]; rfl)) (n := 3) (by rw [asg_each h1, asg_each h2, asg_each h3]; rfl) (by rw [asg_each h1, asg_each h2, asg_each h3]; rfl)) fun v σ H Q ⟨Z, A, S, env, d, env', hR, hE, hv, hs, k⟩ => by
    obtain ⟨x, y, z, env1, env2, rfl, e1, e2, e3⟩ := asg_t3 hs
    cases hv with
    | tup q1 q2 =>
      cases q2 with
      | cons r1 q2 =>
        cases q2 with
        | cons r2 q3 =>
          cases q3 with
          | cons r3 q4 =>
            cases q4
            refine ⟨_, _, rfl, by rw [hK]; exact sqT_le hR.sub q1, rfl, _, _, rfl, Z, A, S, env, x, env1, hR, hE, r1, e1, fun σ1 E1 o1 => ?_⟩
            refine ⟨_, _, rfl, Z, A, S, env1, y, env2, hR, E1, r2, e2, fun σ2 E2 o2 => ?_⟩
            exact ⟨_, _, rfl, Z, A, S, env2, z, env', hR, E2, r3, e3, fun σ3 E3 o3 => ⟨rfl, k σ3 E3 (o1.trans (o2.trans o3))⟩⟩
end
/-! ### adopting a list that was made ahead -/
section
variable {G : Wd} {Z H H1 Z1 : Hp} {A A1 : List Addr} {S : Store} {p : Addr} {vs : List V} {ds : List D}
theorem Rel.keepZ (r : Rel G Z A S H) (hp : H p = some (.lst vs)) (hz : Z p = none) (ha : p ∉ A) (hv : RpAll G Z A vs ds) : Rel G (upd Z p (.lst vs)) A S H ∧ Le Z A (upd Z p (.lst vs)) A ∧ Rp G (upd Z p (.lst vs)) A (.ref p) (.list ds) := by
  have le : Le Z A (upd Z p (.lst vs)) A := ⟨fun b u e => by rw [upd_ne (fun z => by rw [z, hz] at e; cases e)]; exact e, [], by simp⟩
  refine ⟨⟨fun b u e => ?_, r.len, r.nd, fun k b m k1 k2 => ?_, r.tabs, fun b ps e => ?_⟩, le, .lst upd_same (hv.mono le)⟩
  · by_cases hb : b = p
    · subst hb
      rw [upd_same] at e
      rw [hp]; exact e
    · rw [upd_ne hb] at e
      exact r.sub b u e
  · have hb : b ≠ p := fun z => ha (by rw [← z]; exact List.mem_of_getElem? k1)
    exact (r.at_ k b m k1 k2).mono (le.take k1) fun z => by rw [upd_ne hb]; exact z
  · by_cases hb : b = p
    · subst hb
      rw [upd_same] at e
      cases e
    · rw [upd_ne hb] at e
      exact r.zt b ps e
theorem Rel.keepA (r : Rel G Z A S H) (hp : H p = some (.lst vs)) (hz : Z p = none) (ha : p ∉ A) (hv : RpAll G Z A vs ds) : Rel G Z (A ++ [p]) (S ++ [.lst ds]) H ∧ Le Z A Z (A ++ [p]) := by
  have le : Le Z A Z (A ++ [p]) := ⟨fun _ _ e => e, [p], rfl⟩
  refine ⟨⟨r.sub, by simp [r.len], ?_, fun l a m h1 h2 => ?_, r.tabs, r.zt⟩, le⟩
  · rw [List.nodup_append]
    refine ⟨r.nd, by simp, fun a ha' b hb => ?_⟩
    have : b = p := by simpa using hb
    subst this
    rintro rfl
    exact ha ha'
  · by_cases hl : l < A.length
    · rw [List.getElem?_append_left hl] at h1
      rw [List.getElem?_append_left (by rw [← r.len]; exact hl)] at h2
      exact (r.at_ l a m h1 h2).mono (le.take h1) fun z => z
    · have el : l = A.length := by
        have h3 := (List.getElem?_eq_some_iff.mp h1).1
        rw [List.length_append, List.length_singleton] at h3
        omega
      subst el
      rw [List.getElem?_append_right (Nat.le_refl _)] at h1
      rw [List.getElem?_append_right (by rw [r.len]; exact Nat.le_refl _)] at h2
      simp at h1
      rw [r.len] at h2
      simp at h2
      subst h1 h2
      refine ⟨hz, vs, hp, ?_⟩
      rw [List.take_append_of_le_length (Nat.le_refl _), List.take_length]
      exact hv
/-- writes to what is not ours -/
theorem Rel.side (r : Rel G Z A S H) (hp : H p = some (.lst vs)) (hz : Z p = none) (ha : p ∉ A) (ws : List V) : Rel G Z A S (upd H p (.lst ws)) := by
  refine ⟨fun b u e => ?_, r.len, r.nd, fun k b m k1 k2 => ?_, fun q hq => ?_, r.zt⟩
  · rw [upd_ne (fun z => by rw [z, hz] at e; cases e)]
    exact r.sub b u e
  · have hb : b ≠ p := fun z => ha (by rw [← z]; exact List.mem_of_getElem? k1)
    have q := r.at_ k b m k1 k2
    cases m with
    | lst es =>
      obtain ⟨z, ws, h, w⟩ := q
      exact ⟨z, ws, by rw [upd_ne hb]; exact h, w⟩
    | ins c fs =>
      obtain ⟨z, C, dx, gs, h, w⟩ := q
      exact ⟨z, C, dx, gs, by rw [upd_ne hb]; exact h, w⟩
    | dead =>
      obtain ⟨ws, h⟩ := q
      exact ⟨ws, by rw [upd_ne hb]; exact h⟩
  · exact (r.tabs q hq).keep (upd_tabs hp)
theorem Fut.side (f : Fut H1 Z1 A1 H Z A) (hn : H1 p = none) (o : HO) : Fut H1 Z1 A1 (upd H p o) Z A := by
  have ne : ∀ {a u}, H1 a = some u → a ≠ p := fun e z => by rw [z, hn] at e; cases e
  exact ⟨fun a u e n t => by rw [upd_ne (ne e)]; exact f.fr a u e n t, fun a u e => by rw [upd_ne (ne e)]; exact f.th a u e, f.z, f.zn, f.ap, f.an, fun a h => by
    obtain ⟨q, e, _⟩ := id h
    obtain ⟨ps, e2, t⟩ := f.tb a h
    exact ⟨ps, by rw [upd_ne (ne e)]; exact e2, t⟩⟩
theorem Fut.keepZ (f : Fut H1 Z1 A1 H Z A) (hn : H1 p = none) (o : HO) (hz : Z p = none) : Fut H1 Z1 A1 H (upd Z p o) A := by
  refine ⟨f.fr, f.th, fun a u e => ?_, fun a u e => ?_, f.ap, f.an, f.tb⟩
  · have := f.z a u e
    rw [upd_ne (fun z => by rw [z, hz] at this; cases this)]
    exact this
  · by_cases h : a = p
    · subst h
      exact .inr (.inl hn)
    · rw [upd_ne h] at e
      exact f.zn a u e
theorem Fut.keepA (f : Fut H1 Z1 A1 H Z A) (hn : H1 p = none) : Fut H1 Z1 A1 H Z (A ++ [p]) := by
  refine ⟨f.fr, f.th, f.z, f.zn, ?_, fun a m => ?_, f.tb⟩
  · obtain ⟨B, rfl⟩ := f.ap
    exact ⟨B ++ [p], by rw [List.append_assoc]⟩
  · rcases List.mem_append.mp m with h | h
    · exact f.an a h
    · have : a = p := by simpa using h
      subst this
      exact .inr hn
/-- what is not ours stays not ours -/
structure Apart (p : Addr) (vs : List V) (H Z : Hp) (A : List Addr) : Prop where
  at_ : H p = some (.lst vs)
  z : Z p = none
  a : p ∉ A
theorem Apart.fut {H' Z' : Hp} {A' : List Addr} (x : Apart p vs H Z A) (f : Fut H Z A H' Z' A') : Apart p vs H' Z' A' := by
  refine ⟨f.fr p _ x.at_ x.a (fun ps z => by cases z), ?_, fun m => ?_⟩
  · cases q : Z' p with
    | none => rfl
    | some o =>
      rcases f.zn p o q with ⟨o', h⟩ | h | h
      · rw [x.z] at h; cases h
      · rw [x.at_] at h; cases h
      · exact absurd h x.a
  · rcases f.an p m with h | h
    · exact x.a h
    · rw [x.at_] at h; cases h
end

/-! ### list comprehensions -/
def noW : L2.St → XK := fun _ _ _ _ => False
theorem noX_post {α : Type} {r : R α} {k : α → Store → Prop} {w : Exc → Store → Prop} (h : PostR (noX r) k w) : PostR r k (fun _ _ => False) := by
  cases r with
  | ok a S => exact h
  | exc x S => exact h.elim
  | bad => exact h.elim
/-- the clause's test -/
def ifF (has : Bool) (fc : FE) : FT := fun env S => if has then testF fc env S else .ok true S
def turnF (t : Tg) (own : List Nat) (ft : FT) (fe : FE) (env : EnvD) : D → Store → R (List D) := fun d S => (opt (asg t d (wipe env own)) S).bind fun en S => (ft en S).bind fun b S => if b then (fe en S).bind fun x S => .ok [x] S else .ok [] S
def compF (mu : Bool) (own : List Nat) (t : Tg) (fi : FI) (ft : FT) (fe : FE) : FE := fun env S => (fi env S).bind fun v S1 => (noX (mapItv (turnF t own ft fe env) v S1)).bind fun ds S2 => if ds.length ≤ lim then give mu ds S2 else .bad
section
variable {G : Wd} {P : Program} {w : World} {base : Heap} {N : List Str} {n : Nat} {W : L2.St → XK} {X : Cx}
theorem stepI {β : Type} {Z H : Hp} {A : List Addr} {S : Store} {σ : L2.St} {env : EnvD} {f : FI} {g : Itv → Store → R β} {k : β → Store → Prop} {Rr : L2.It → Hp → Prop} (hR : Rel G Z A S H) (hE : EnvR G Z A env σ) (hP : PostR ((f env S).bind g) k (fun x S' => KonX G H Z A x S' (W σ)))
    (next : ∀ v J S1 Z1 A1 H1, Fut H Z A H1 Z1 A1 → Rel G Z1 A1 S1 H1 → EnvR G Z1 A1 env σ → Wk G J v Z1 A1 → PostR (g v S1) k (fun x S' => KonX G H1 Z1 A1 x S' (W σ)) → Rr J H1) : tI G f W σ H Rr :=
  ⟨Z, A, env, S, hR, hE, hP.bind.mono (fun v S1 _ hg J H1 Z1 A1 fu r wk => next v J S1 Z1 A1 H1 fu r (hE.mono fu.le) wk (hg.mono (fun _ _ _ h => h) fun x S' hx => hx.fut fu)) fun _ _ h => h⟩
/-- the end: the list is kept -/
theorem give_keep {mu : Bool} {Z H Z1 H1 Z0 H0 : Hp} {A A1 A0 : List Addr} {S : Store} {p : Addr} {vs : List V} {ds : List D} {Q : VK} {w : Exc → Store → Prop} (k : PostR (give mu ds S) (fun d S' => Kon G H0 Z0 A0 d S' Q) w) (f0 : Fut H0 Z0 A0 H1 Z1 A1) (f : Fut H1 Z1 A1 H Z A) (hn : H1 p = none) (hR : Rel G Z A S H) (ap : Apart p vs H Z A) (hv : RpAll G Z A vs ds) : Q (.ref p) H := by
  unfold give at k
  cases mu with
  | true =>
    obtain ⟨R2, le⟩ := hR.keepA ap.at_ ap.z ap.a hv
    exact Kon.fut k f0 _ _ _ _ (f.keepA hn) R2 (.obj (by rw [← hR.len]; simp))
  | false =>
    obtain ⟨R2, le, r⟩ := hR.keepZ ap.at_ ap.z ap.a hv
    exact Kon.fut k f0 _ _ _ _ (f.keepZ hn _ ap.z) R2 r
variable {elt tg iter : Expr} {ifs : List Expr} {scope : Scope} {own : List (Str × Nat)} {pos : Pos} {fi : FI} {ft : FT} {fe : FE} {t : Tg}
theorem lc_core_D {mu : Bool} {σ : L2.St} {H : Hp} {Q : VK} (hown : ∀ i ∈ slots t, i ∈ own.map (·.2)) (h : tD G (compF mu (own.map (·.2)) t fi ft fe) W σ H Q) : tLc (tI G fi W) (gT G t) (tT G ft noW) (tD G fe noW) (own.map (·.2)) σ H Q := by
  obtain ⟨Z, A, env, S, hR, hE, hP⟩ := h
  refine stepI hR hE hP fun v J S1 Z1 A1 H1 f1 R1 E1 wk P1 => ?_
  intro p hp
  have P1 := noX_post P1.bind
  obtain ⟨f, hf⟩ := mapItv_W (turnF t (own.map (·.2)) ft fe env) v S1
  rw [hf] at P1
  -- what is wanted in the end, of the list so far and the rest
  let K : List D → List D → Store → Prop := fun acc r S2 => PostR (if (acc ++ r).length ≤ lim then give mu (acc ++ r) S2 else .bad) (fun d S' => Kon G H Z A d S' Q) (fun x S' => KonX G H1 Z1 A1 x S' (W σ))
  refine ⟨fun i m H' => ∃ Z' A' S' vs acc, Rel G Z' A' S' H' ∧ Fut H1 Z1 A1 H' Z' A' ∧ Apart p vs H' Z' A' ∧ RpAll G Z' A' vs acc ∧ PostR (mapW (nxt v) (turnF t (own.map (·.2)) ft fe env) m i S') (K acc) (fun _ _ => False), ⟨f, ?_⟩, ?_⟩
  · have R2 := R1.grow (upd_grow (o := .lst []) hp)
    have f2 : Fut H1 Z1 A1 (upd H1 p (.lst [])) Z1 A1 := Fut.side .refl hp _
    exact ⟨Z1, A1, S1, [], [], R2, f2, ⟨upd_same, R1.zfresh hp, R1.afresh hp⟩, .nil, P1.mono (fun ds S2 _ h => h) fun _ _ h => h⟩
  · rintro i m H2 ⟨Z2, A2, S2, vs, acc, R2, f2, ap, hv, P2⟩
    cases m with
    | zero => exact P2.elim
    | succ m =>
      have w2 := wk Z2 A2 S2 H2 i R2 f2.le
      unfold mapW at P2
      cases hn : nxt v i S2 with
      | none =>
        rw [hn] at P2
        exact P2.elim
      | some o =>
        rw [hn] at P2 w2
        cases o with
        | none =>
          refine .inl ⟨w2, ?_⟩
          have P2 : PostR (if (acc ++ []).length ≤ lim then give mu (acc ++ []) S2 else .bad) _ _ := P2
          rw [List.append_nil] at P2
          by_cases hz : acc.length ≤ lim
          · rw [if_pos hz] at P2
            exact give_keep P2 f1 f2 hp R2 ap hv
          · rw [if_neg hz] at P2
            exact P2.elim
        | some d =>
          obtain ⟨go, yl⟩ := w2
          have P2 := PostR.bind (PostR.bind (show PostR ((turnF t (own.map (·.2)) ft fe env d S2).bind _) _ _ from P2))
          obtain ⟨en, hen, P2⟩ := P2.opt
          refine .inr ⟨go, fun H' => ∃ Z' A' S' vs acc, Rel G Z' A' S' H' ∧ Fut H1 Z1 A1 H' Z' A' ∧ Apart p vs H' Z' A' ∧ RpAll G Z' A' vs acc ∧ PostR (mapW (nxt v) (turnF t (own.map (·.2)) ft fe env) m (i + 1) S') (K acc) (fun _ _ => False), fun H' hN => ⟨m, Nat.lt_succ_self _, hN⟩, fun x H3 y => ?_⟩
          obtain ⟨Z3, R3, f3, rx⟩ := yl x H3 y
          have f13 := f2.trans f3
          have ap3 := ap.fut f3
          refine ⟨Z3, A2, S2, wipe env (own.map (·.2)), d, en, R3, (E1.mono f13.le).wipe _, rx, hen, fun σ2 E3 o2 => ⟨?_, ?_⟩⟩
          · rw [o2 _ hown, wipe_wipe _ _ _ fun u hu => hu]
          · refine ⟨Z3, A2, en, S2, R3, E3, (PostR.bind P2).mono (fun b S4 _ P4 H4 Z4 A4 f4 R4 => ?_) fun x S' h => h.elim⟩
            cases b with
            | false =>
              have P4 : PostR ((mapW (nxt v) (turnF t (own.map (·.2)) ft fe env) m (i + 1) S4).bind fun r S2 => .ok ([] ++ r) S2) (K acc) _ := P4
              exact ⟨Z4, A2 |> fun _ => A4, S4, vs, acc, R4, f13.trans f4, ap3.fut f4, (f3.trans f4).rps hv, (PostR.bind P4).mono (fun r S5 _ h => h) fun _ _ h => h⟩
            | true =>
              have P4 := PostR.bind (show PostR ((fe en S4).bind fun x S => .ok [x] S) _ _ from P4)
              refine ⟨Z4, A4, en, S4, R4, E3.mono f4.le, P4.mono (fun d5 S5 _ P5 v5 H5 Z5 A5 f5 R5 r5 => ?_) fun x S' h => h.elim⟩
              have P5 := PostR.bind (show PostR ((mapW (nxt v) (turnF t (own.map (·.2)) ft fe env) m (i + 1) S5).bind fun r S2 => .ok ([d5] ++ r) S2) (K acc) _ from P5)
              have f35 := (f3.trans f4).trans f5
              have ap5 := (ap3.fut f4).fut f5
              have hlen : acc.length < lim := by
                cases hq : mapW (nxt v) (turnF t (own.map (·.2)) ft fe env) m (i + 1) S5 with
                | bad => rw [hq] at P5; exact P5.elim
                | exc x S' => rw [hq] at P5; exact P5.elim
                | ok r S6 =>
                  rw [hq] at P5
                  have P5 : PostR (if (acc ++ ([d5] ++ r)).length ≤ lim then give mu (acc ++ ([d5] ++ r)) S6 else .bad) _ _ := P5
                  by_cases hz : (acc ++ ([d5] ++ r)).length ≤ lim
                  · rw [List.length_append, List.length_append, List.length_singleton] at hz
                    omega
                  · rw [if_neg hz] at P5
                    exact P5.elim
              refine ⟨vs, ap5.at_, by rw [hv.length, ← lim_eq]; exact hlen, Z5, A5, S5, vs ++ [v5], acc ++ [d5], R5.side ap5.at_ ap5.z ap5.a _, ((f2.trans f35).side hp _), ⟨upd_same, ap5.z, ap5.a⟩, (f35.rps hv).app (.one r5), P5.mono (fun r S6 _ h => ?_) fun _ _ h => h⟩
              have h : PostR (if (acc ++ ([d5] ++ r)).length ≤ lim then give mu (acc ++ ([d5] ++ r)) S6 else .bad) _ _ := h
              show PostR (if ((acc ++ [d5]) ++ r).length ≤ lim then give mu ((acc ++ [d5]) ++ r) S6 else .bad) _ _
              rw [List.append_assoc]
              exact h
theorem s_comp (c : Cok G P w base N n W X) (mu : Bool) (hi : PI X tg iter (tI G fi W)) (ok : BlkOk X.N X.env.scope scope own)
    (hg : ∀ (s : Shared) (H : Hp) (C : Addr) (cl : List (Str × Addr)) (fp : List Addr), PG (X.blk s H scope (compEnvC scope cl C X.env) fp) tg (gT G t)) (ht : ∀ (s : Shared) (H : Hp) (C : Addr) (cl : List (Str × Addr)) (fp : List Addr), PTs (X.blk s H scope (compEnvC scope cl C X.env) fp) ifs (tT G ft noW))
    (he : ∀ (s : Shared) (H : Hp) (C : Addr) (cl : List (Str × Addr)) (fp : List Addr), PE (X.blk s H scope (compEnvC scope cl C X.env) fp) elt (tD G fe noW)) (hs : ∀ x, foldedSetIterable iter X.env x = pure x) (hown : ∀ i ∈ slots t, i ∈ own.map (·.2)) :
    PE X (.ListComp elt [⟨tg, iter, ifs, 0⟩] scope pos) (tD G (compF mu (own.map (·.2)) t fi ft fe) W) :=
  PE.imp (pe_lc c.calm (by rw [c.nm]; exact c.nd) hi ok hg ht he hs) fun σ H Q h => lc_core_D hown h
theorem ts_nil {fc : FE} : PTs X [] (tT G (ifF false fc) W) := ⟨fun pins s σ H Q I h => pts_nil.run pins s σ H Q I (by
  obtain ⟨Z, A, env, S, hR, hE, hP⟩ := h
  exact hP H Z A .refl hR)⟩
theorem ts_one {e : Expr} {fc : FE} (h : PT X e (tT G (testF fc) W)) : PTs X [e] (tT G (ifF true fc) W) := pts_one h
end
end Mp
set_option maxHeartbeats 200000
/-! Mp.Lc2: list comprehensions of two clauses. -/
namespace Mp
open PySem PySem.Spec PyProof.Rows L2
def turnF2 (t : Tg) (own : List Nat) (ft : FT) (fi : FI) (t' : Tg) (ft' : FT) (fe : FE) (env : EnvD) : D → Store → R (List D) := fun d S => (opt (asg t d (wipe env own)) S).bind fun en S => (ft en S).bind fun b S => if b then (fi en S).bind fun v' S => mapItv (turnF t' (slots t') ft' fe en) v' S else .ok [] S
def compF2 (mu : Bool) (own : List Nat) (t : Tg) (fi : FI) (ft : FT) (t' : Tg) (fi' : FI) (ft' : FT) (fe : FE) : FE := fun env S => (fi env S).bind fun v S1 => (noX (mapItv (turnF2 t own ft fi' t' ft' fe env) v S1)).bind fun ds S2 => if ds.length ≤ lim then give mu ds S2 else .bad
section
variable {G : Wd} {P : Program} {w : World} {base : Heap} {N : List Str} {n : Nat} {W : L2.St → XK} {X : Cx}
variable {elt tg iter tg1 iter1 : Expr} {ifs ifs1 : List Expr} {scope : Scope} {own : List (Str × Nat)} {pos : Pos} {fi fi' : FI} {ft ft' : FT} {fe : FE} {t t' : Tg}
theorem lc2_core_D {mu : Bool} {σ : L2.St} {H : Hp} {Q : VK} (hown : ∀ i ∈ slots t, i ∈ own.map (·.2)) (h : tD G (compF2 mu (own.map (·.2)) t fi ft t' fi' ft' fe) W σ H Q) :
    tLc2 (tI G fi W) (gT G t) (tT G ft noW) (tI G fi' noW) (gT G t') (tT G ft' noW) (tD G fe noW) (own.map (·.2)) (slots t') σ H Q := by
  obtain ⟨Z, A, env, S, hR, hE, hP⟩ := h
  refine stepI hR hE hP fun v J S1 Z1 A1 H1 f1 R1 E1 wk P1 => ?_
  intro p hp
  have P1 := noX_post P1.bind
  generalize hturn : turnF2 t (own.map (·.2)) ft fi' t' ft' fe env = turn at P1
  obtain ⟨f, hf⟩ := mapItv_W turn v S1
  rw [hf] at P1
  let K : List D → List D → Store → Prop := fun acc r S2 => PostR (if (acc ++ r).length ≤ lim then give mu (acc ++ r) S2 else .bad) (fun d S' => Kon G H Z A d S' Q) (fun x S' => KonX G H1 Z1 A1 x S' (W σ))
  let Nx : Nat → Nat → Hp → Prop := fun i m H' => ∃ Z' A' S' vs acc, Rel G Z' A' S' H' ∧ Fut H1 Z1 A1 H' Z' A' ∧ Apart p vs H' Z' A' ∧ RpAll G Z' A' vs acc ∧ PostR (mapW (nxt v) turn m i S') (K acc) (fun _ _ => False)
  refine ⟨Nx, ⟨f, ?_⟩, ?_⟩
  · have R2 := R1.grow (upd_grow (o := .lst []) hp)
    have f2 : Fut H1 Z1 A1 (upd H1 p (.lst [])) Z1 A1 := Fut.side .refl hp _
    exact ⟨Z1, A1, S1, [], [], R2, f2, ⟨upd_same, R1.zfresh hp, R1.afresh hp⟩, .nil, P1.mono (fun ds S2 _ h => h) fun _ _ h => h⟩
  · rintro i m H2 ⟨Z2, A2, S2, vs, acc, R2, f2, ap, hv, P2⟩
    cases m with
    | zero => exact P2.elim
    | succ m =>
      have w2 := wk Z2 A2 S2 H2 i R2 f2.le
      unfold mapW at P2
      cases hn : nxt v i S2 with
      | none =>
        rw [hn] at P2
        exact P2.elim
      | some o =>
        rw [hn] at P2 w2
        cases o with
        | none =>
          refine .inl ⟨w2, ?_⟩
          have P2 : PostR (if (acc ++ []).length ≤ lim then give mu (acc ++ []) S2 else .bad) _ _ := P2
          rw [List.append_nil] at P2
          by_cases hz : acc.length ≤ lim
          · rw [if_pos hz] at P2
            exact give_keep P2 f1 f2 hp R2 ap hv
          · rw [if_neg hz] at P2
            exact P2.elim
        | some d =>
          obtain ⟨go, yl⟩ := w2
          have P2 := PostR.bind (show PostR ((turn d S2).bind _) _ _ from P2)
          have et : turn d S2 = turnF2 t (own.map (·.2)) ft fi' t' ft' fe env d S2 := by rw [hturn]
          rw [et] at P2
          have P2 := PostR.bind (show PostR ((opt (asg t d (wipe env (own.map (·.2)))) S2).bind _) _ _ from P2)
          obtain ⟨en, hen, P2⟩ := P2.opt
          refine .inr ⟨go, Nx (i + 1) m, fun H' hN => ⟨m, Nat.lt_succ_self _, hN⟩, fun x H3 y => ?_⟩
          obtain ⟨Z3, R3, f3, rx⟩ := yl x H3 y
          have f13 := f2.trans f3
          have ap3 := ap.fut f3
          refine ⟨Z3, A2, S2, wipe env (own.map (·.2)), d, en, R3, (E1.mono f13.le).wipe _, rx, hen, fun σ2 E3 o2 => ⟨?_, ?_⟩⟩
          · rw [o2 _ hown, wipe_wipe _ _ _ fun u hu => hu]
          · refine ⟨Z3, A2, en, S2, R3, E3, (PostR.bind P2).mono (fun b S4 _ P4 H4 Z4 A4 f4 R4 => ?_) fun x S' h => h.elim⟩
            cases b with
            | false =>
              have P4 : PostR ((mapW (nxt v) turn m (i + 1) S4).bind fun r S2 => .ok ([] ++ r) S2) (K acc) _ := P4
              exact ⟨Z4, A4, S4, vs, acc, R4, f13.trans f4, ap3.fut f4, (f3.trans f4).rps hv, (PostR.bind P4).mono (fun r S5 _ h => h) fun _ _ h => h⟩
            | true =>
              have P4 := PostR.bind (show PostR ((fi' en S4).bind fun v' S => mapItv (turnF t' (slots t') ft' fe en) v' S) _ _ from P4)
              refine ⟨Z4, A4, en, S4, R4, E3.mono f4.le, P4.mono (fun v' S5 _ P5 J' H5 Z5 A5 f5 R5 wk5 => ?_) fun x S' h => h.elim⟩
              obtain ⟨g, hg⟩ := mapItv_W (turnF t' (slots t') ft' fe en) v' S5
              rw [hg] at P5
              have f35 := (f3.trans f4).trans f5
              have E5 := E3.mono (f4.trans f5).le
              -- the inner loop
              let K1 : List D → List D → Store → Prop := fun acc x S => PostR (mapW (nxt v) turn m (i + 1) S) (fun r S2 => K acc (x ++ r) S2) (fun _ _ => False)
              refine ⟨fun j k H' => ∃ Z' A' S' vs acc, Rel G Z' A' S' H' ∧ Le Z5 A5 Z' A' ∧ Fut H1 Z1 A1 H' Z' A' ∧ Apart p vs H' Z' A' ∧ RpAll G Z' A' vs acc ∧ PostR (mapW (nxt v') (turnF t' (slots t') ft' fe en) k j S') (K1 acc) (fun _ _ => False), ⟨g, Z5, A5, S5, vs, acc, R5, .refl, f2.trans f35, (ap3.fut f4).fut f5, f35.rps hv, P5.mono (fun x S _ h => (PostR.bind (show PostR ((mapW (nxt v) turn m (i + 1) S).bind fun r S2 => .ok (x ++ r) S2) (K acc) _ from h)).mono (fun r S2 _ h => h) fun _ _ h => h) fun _ _ h => h⟩, ?_⟩
              rintro j k H6 ⟨Z6, A6, S6, vs6, acc6, R6, f6, f16, ap6, hv6, P6⟩
              cases k with
              | zero => exact P6.elim
              | succ k =>
                have w6 := wk5 Z6 A6 S6 H6 j R6 f6
                unfold mapW at P6
                cases hn6 : nxt v' j S6 with
                | none =>
                  rw [hn6] at P6
                  exact P6.elim
                | some o =>
                  rw [hn6] at P6 w6
                  cases o with
                  | none => exact .inl ⟨w6, Z6, A6, S6, vs6, acc6, R6, f16, ap6, hv6, show PostR (mapW (nxt v) turn m (i + 1) S6) (K acc6) (fun _ _ => False) from P6⟩
                  | some d6 =>
                    obtain ⟨go6, yl6⟩ := w6
                    have P6 := PostR.bind (PostR.bind (show PostR ((turnF t' (slots t') ft' fe en d6 S6).bind _) _ _ from P6))
                    obtain ⟨en6, hen6, P6⟩ := P6.opt
                    refine .inr ⟨go6, fun H' => ∃ Z' A' S' vs acc, Rel G Z' A' S' H' ∧ Le Z5 A5 Z' A' ∧ Fut H1 Z1 A1 H' Z' A' ∧ Apart p vs H' Z' A' ∧ RpAll G Z' A' vs acc ∧ PostR (mapW (nxt v') (turnF t' (slots t') ft' fe en) k (j + 1) S') (K1 acc) (fun _ _ => False), fun H' hN => ⟨k, Nat.lt_succ_self _, hN⟩, fun x H7 y => ?_⟩
                    obtain ⟨Z7, R7, f7, rx7⟩ := yl6 x H7 y
                    have ap7 := ap6.fut f7
                    refine ⟨Z7, A6, S6, wipe en (slots t'), d6, en6, R7, (E5.mono (f6.trans f7.le)).wipe _, rx7, hen6, fun σ3 E7 o3 => ⟨?_, ?_⟩⟩
                    · rw [o3 _ fun i hi => hi, wipe_wipe _ _ _ fun u hu => hu]
                    · refine ⟨Z7, A6, en6, S6, R7, E7, (PostR.bind P6).mono (fun b S8 _ P8 H8 Z8 A8 f8 R8 => ?_) fun x S' h => h.elim⟩
                      cases b with
                      | false =>
                        have P8 : PostR ((mapW (nxt v') (turnF t' (slots t') ft' fe en) k (j + 1) S8).bind fun r S2 => .ok ([] ++ r) S2) (K1 acc6) _ := P8
                        exact ⟨Z8, A8, S8, vs6, acc6, R8, (f6.trans f7.le).trans f8.le, (f16.trans f7).trans f8, ap7.fut f8, (f7.trans f8).rps hv6, (PostR.bind P8).mono (fun r S5 _ h => h) fun _ _ h => h⟩
                      | true =>
                        have P8 := PostR.bind (show PostR ((fe en6 S8).bind fun x S => .ok [x] S) _ _ from P8)
                        refine ⟨Z8, A8, en6, S8, R8, E7.mono f8.le, P8.mono (fun d9 S9 _ P9 v9 H9 Z9 A9 f9 R9 r9 => ?_) fun x S' h => h.elim⟩
                        have P9 := PostR.bind (show PostR ((mapW (nxt v') (turnF t' (slots t') ft' fe en) k (j + 1) S9).bind fun r S2 => .ok ([d9] ++ r) S2) (K1 acc6) _ from P9)
                        have f79 := (f7.trans f8).trans f9
                        have ap9 := (ap7.fut f8).fut f9
                        have hlen : acc6.length < lim := by
                          cases hq : mapW (nxt v') (turnF t' (slots t') ft' fe en) k (j + 1) S9 with
                          | bad => rw [hq] at P9; exact P9.elim
                          | exc x S' => rw [hq] at P9; exact P9.elim
                          | ok x S10 =>
                            rw [hq] at P9
                            have P9 : PostR (mapW (nxt v) turn m (i + 1) S10) (fun r S2 => K acc6 (([d9] ++ x) ++ r) S2) (fun _ _ => False) := P9
                            cases hq2 : mapW (nxt v) turn m (i + 1) S10 with
                            | bad => rw [hq2] at P9; exact P9.elim
                            | exc x S' => rw [hq2] at P9; exact P9.elim
                            | ok r S11 =>
                              rw [hq2] at P9
                              have P9 : PostR (if (acc6 ++ (([d9] ++ x) ++ r)).length ≤ lim then give mu (acc6 ++ (([d9] ++ x) ++ r)) S11 else .bad) _ _ := P9
                              by_cases hz : (acc6 ++ (([d9] ++ x) ++ r)).length ≤ lim
                              · rw [List.length_append, List.length_append, List.length_append, List.length_singleton] at hz
                                omega
                              · rw [if_neg hz] at P9
                                exact P9.elim
                        refine ⟨vs6, ap9.at_, by rw [hv6.length, ← lim_eq]; exact hlen, Z9, A9, S9, vs6 ++ [v9], acc6 ++ [d9], R9.side ap9.at_ ap9.z ap9.a _, f6.trans f79.le, ((f16.trans f79).side hp _), ⟨upd_same, ap9.z, ap9.a⟩, (f79.rps hv6).app (.one r9), P9.mono (fun x S10 _ h => ?_) fun _ _ h => h⟩
                        · have h : PostR (mapW (nxt v) turn m (i + 1) S10) (fun r S2 => K acc6 (([d9] ++ x) ++ r) S2) (fun _ _ => False) := h
                          refine h.mono (fun r S2 _ h => ?_) fun _ _ h => h
                          have h : PostR (if (acc6 ++ (([d9] ++ x) ++ r)).length ≤ lim then give mu (acc6 ++ (([d9] ++ x) ++ r)) S2 else .bad) _ _ := h
                          show PostR (if ((acc6 ++ [d9]) ++ (x ++ r)).length ≤ lim then give mu ((acc6 ++ [d9]) ++ (x ++ r)) S2 else .bad) _ _
                          rw [List.append_assoc, ← List.append_assoc [d9]]
                          exact h
theorem s_comp2 (c : Cok G P w base N n W X) (mu : Bool) (hi : PI X tg iter (tI G fi W)) (ok : BlkOk X.N X.env.scope scope own)
    (hg : ∀ (s : Shared) (H : Hp) (C : Addr) (cl : List (Str × Addr)) (fp : List Addr), PG (X.blk s H scope (compEnvC scope cl C X.env) fp) tg (gT G t)) (ht : ∀ (s : Shared) (H : Hp) (C : Addr) (cl : List (Str × Addr)) (fp : List Addr), PTs (X.blk s H scope (compEnvC scope cl C X.env) fp) ifs (tT G ft noW))
    (hi1 : ∀ (s : Shared) (H : Hp) (C : Addr) (cl : List (Str × Addr)) (fp : List Addr), PI (X.blk s H scope (compEnvC scope cl C X.env) fp) tg1 iter1 (tI G fi' noW))
    (hg1 : ∀ (s : Shared) (H : Hp) (C : Addr) (cl : List (Str × Addr)) (fp : List Addr), PG (X.blk s H scope (compEnvC scope cl C X.env) fp) tg1 (gT G t')) (ht1 : ∀ (s : Shared) (H : Hp) (C : Addr) (cl : List (Str × Addr)) (fp : List Addr), PTs (X.blk s H scope (compEnvC scope cl C X.env) fp) ifs1 (tT G ft' noW))
    (he : ∀ (s : Shared) (H : Hp) (C : Addr) (cl : List (Str × Addr)) (fp : List Addr), PE (X.blk s H scope (compEnvC scope cl C X.env) fp) elt (tD G fe noW)) (hs : ∀ x, foldedSetIterable iter X.env x = pure x) (hs1 : ∀ env x, foldedSetIterable iter1 env x = pure x) (hown : ∀ i ∈ slots t, i ∈ own.map (·.2)) (hown2 : ∀ i ∈ slots t', i ∈ own.map (·.2)) :
    PE X (.ListComp elt [⟨tg, iter, ifs, 0⟩, ⟨tg1, iter1, ifs1, 0⟩] scope pos) (tD G (compF2 mu (own.map (·.2)) t fi ft t' fi' ft' fe) W) :=
  PE.imp (pe_lc2 c.calm (by rw [c.nm]; exact c.nd) hi ok hown2 hg ht hi1 hg1 ht1 he hs hs1) fun σ H Q h => lc2_core_D hown h
end
end Mp
set_option maxHeartbeats 200000
/-! Mp.Stm: statements. -/
namespace Mp
open PySem PySem.Spec PyProof.Rows L2
abbrev FS := EnvD → Store → R (Fl × EnvD)
/-- where a statement ends -/
def EndR (G : Wd) (H Z : Hp) (A : List Addr) (D : Ends) (p : Fl × EnvD) (S' : Store) : Prop := ∀ σ' H' Z' A', Fut H Z A H' Z' A' → Rel G Z' A' S' H' → EnvR G Z' A' p.2 σ' → match p.1 with
  | .nx => D.nx σ' H'
  | .brk => D.bk σ' H'
  | .cont => D.ct σ' H'
  | .ret d => ∀ v, Rp G Z' A' v d → D.rt v H'
/-- W: of exceptions, whatever the slots are -/
def tS (G : Wd) (f : FS) (W : XK) : TS := fun D σ H => ∃ Z A env S, Rel G Z A S H ∧ EnvR G Z A env σ ∧ PostR (f env S) (EndR G H Z A D) (fun x S' => KonX G H Z A x S' W)
section
variable {G : Wd} {Z H H1 Z1 : Hp} {A A1 : List Addr} {S : Store} {D : Ends} {p : Fl × EnvD}
theorem EndR.fut (k : EndR G H Z A D p S) (f : Fut H Z A H1 Z1 A1) : EndR G H1 Z1 A1 D p S := fun σ' H' Z' A' g r e => k σ' H' Z' A' (f.trans g) r e
end
def kW (W : XK) : L2.St → XK := fun _ => W
section
variable {G : Wd} {P : Program} {w : World} {base : Heap} {N : List Str} {n : Nat} {W : XK} {X : Cx}
variable {e : Expr} {fe : FE} {pos : Pos} {σ : L2.St}
theorem x_pass : PS X (.Pass pos) (tS G (fun env S => .ok (.nx, env) S) W) := PS.imp ps_pass fun D σ H ⟨Z, A, env, S, hR, hE, hP⟩ => (show EndR G H Z A D (.nx, env) S from hP) σ H Z A .refl hR hE
theorem x_brk : PS X (.Break pos) (tS G (fun env S => .ok (.brk, env) S) W) := PS.imp ps_break fun D σ H ⟨Z, A, env, S, hR, hE, hP⟩ => (show EndR G H Z A D (.brk, env) S from hP) σ H Z A .refl hR hE
theorem x_cont : PS X (.Continue pos) (tS G (fun env S => .ok (.cont, env) S) W) := PS.imp ps_continue fun D σ H ⟨Z, A, env, S, hR, hE, hP⟩ => (show EndR G H Z A D (.cont, env) S from hP) σ H Z A .refl hR hE
theorem x_doc {x j pos'} : PS X (.Expr (.Constant (.str x) j pos) pos') (tS G (fun env S => .ok (.nx, env) S) W) := PS.imp ps_doc fun D σ H ⟨Z, A, env, S, hR, hE, hP⟩ => (show EndR G H Z A D (.nx, env) S from hP) σ H Z A .refl hR hE
theorem x_expr (he : PE X e (tD G fe (kW W))) (hs : swapsWith e none pos.line X.env = pure false) : PS X (.Expr e pos) (tS G (fun env S => (fe env S).bind fun _ S1 => .ok (.nx, env) S1) W) :=
  PS.imp (ps_expr he hs) fun D σ H ⟨Z, A, env, S, hR, hE, hP⟩ => step hR hE hP fun v d S1 Z1 A1 H1 f1 R1 E1 r1 P1 => (show EndR G H Z A D (.nx, env) S1 from P1) σ H1 Z1 A1 f1 R1 E1
theorem x_ret (he : PE X e (tD G fe (kW W))) : PS X (.Return (some e) pos) (tS G (fun env S => (fe env S).bind fun d S1 => .ok (.ret d, env) S1) W) :=
  PS.imp (ps_ret he) fun D σ H ⟨Z, A, env, S, hR, hE, hP⟩ => step hR hE hP fun v d S1 Z1 A1 H1 f1 R1 E1 r1 P1 => (show EndR G H Z A D (.ret d, env) S1 from P1) σ H1 Z1 A1 f1 R1 E1 v r1
theorem x_retN : PS X (.Return none pos) (tS G (fun env S => .ok (.ret .none, env) S) W) := PS.imp ps_retN fun D σ H ⟨Z, A, env, S, hR, hE, hP⟩ => (show EndR G H Z A D (.ret .none, env) S from hP) σ H Z A .refl hR hE _ .non
/-! ### blocks -/
def seqF (f g : FS) : FS := fun env S => (f env S).bind fun p S1 => match p.1 with
    | .nx => g p.2 S1
    | _ => .ok p S1
theorem x_seq {st : Stmt} {rest : List Stmt} {f g : FS} (h1 : PS X st (tS G f W)) (h2 : PSs X rest (tS G g W)) : PSs X (st :: rest) (tS G (seqF f g) W) :=
  PSs.imp (pss_cons h1 h2) fun D σ H ⟨Z, A, env, S, hR, hE, hP⟩ => ⟨Z, A, env, S, hR, hE, (PostR.bind hP).mono (fun p S1 _ h σ' H' Z' A' f' R' E' => by
    obtain ⟨fl, en⟩ := p
    cases fl with
    | nx => exact ⟨Z', A', en, S1, R', E', PostR.mono (show PostR (g en S1) _ _ from h) (fun q S2 _ hq => EndR.fut hq f') fun x S2 hx => KonX.fut hx f'⟩
    | brk => exact (show EndR G H Z A D (.brk, en) S1 from h) σ' H' Z' A' f' R' E'
    | cont => exact (show EndR G H Z A D (.cont, en) S1 from h) σ' H' Z' A' f' R' E'
    | ret d => exact (show EndR G H Z A D (.ret d, en) S1 from h) σ' H' Z' A' f' R' E') fun x S1 h => h⟩
theorem x_nil : PSs X [] (tS G (fun env S => .ok (.nx, env) S) W) := PSs.imp pss_nil fun D σ H ⟨Z, A, env, S, hR, hE, hP⟩ => (show EndR G H Z A D (.nx, env) S from hP) σ H Z A .refl hR hE
/-! ### if, while, for -/
theorem x_if {c : Expr} {a b : List Stmt} {ft : FT} {f g : FS} (hc : PT X c (tT G ft (kW W))) (ha : PSs X a (tS G f W)) (hb : PSs X b (tS G g W)) : PS X (.If c a b pos) (tS G (fun env S => (ft env S).bind fun t S1 => if t then f env S1 else g env S1) W) :=
  PS.imp (ps_if hc ha hb) fun D σ H ⟨Z, A, env, S, hR, hE, hP⟩ => stepT hR hE hP fun t S1 Z1 A1 H1 f1 R1 E1 P1 => by
    cases t with
    | true => exact ⟨Z1, A1, env, S1, R1, E1, PostR.mono P1 (fun q S2 _ hq => EndR.fut hq f1) fun _ _ h => h⟩
    | false => exact ⟨Z1, A1, env, S1, R1, E1, PostR.mono P1 (fun q S2 _ hq => EndR.fut hq f1) fun _ _ h => h⟩
/-- the turn's end of a loop -/
def againF (again : FS) (p : Fl × EnvD) (S : Store) : R (Fl × EnvD) := match p.1 with
  | .nx => again p.2 S
  | .cont => again p.2 S
  | .brk => .ok (.nx, p.2) S
  | .ret v => .ok (.ret v, p.2) S
theorem again_end {again : FS} {D : Ends} {N1 : L2.St → Hp → Prop} {Z H Z1 H1 : Hp} {A A1 : List Addr} {p : Fl × EnvD} {S1 : Store} (h : PostR (againF again p S1) (EndR G H Z A D) (fun x S' => KonX G H Z A x S' W)) (f1 : Fut H Z A H1 Z1 A1)
    (hN : ∀ σ' H' Z' A' env' S', Fut H Z A H' Z' A' → Rel G Z' A' S' H' → EnvR G Z' A' env' σ' → PostR (again env' S') (EndR G H Z A D) (fun x S' => KonX G H Z A x S' W) → N1 σ' H') : EndR G H1 Z1 A1 { D with nx := N1, ct := N1, bk := D.nx } p S1 := fun σ' H' Z' A' f' R' E' => by
  obtain ⟨fl, en⟩ := p
  cases fl with
  | nx => exact hN σ' H' Z' A' en S1 (f1.trans f') R' E' h
  | cont => exact hN σ' H' Z' A' en S1 (f1.trans f') R' E' h
  | brk => exact (show EndR G H Z A D (.nx, en) S1 from h) σ' H' Z' A' (f1.trans f') R' E'
  | ret d => exact (show EndR G H Z A D (.ret d, en) S1 from h) σ' H' Z' A' (f1.trans f') R' E'
theorem whileF_eq (ft : FT) (body : FS) (f : Nat) (env : EnvD) (S : Store) : whileF ft body (f + 1) env S = (ft env S).bind fun b S1 => if b then (body env S1).bind (againF (whileF ft body f)) else .ok (.nx, env) S1 := rfl
theorem x_while (c : Cok G P w base N n (kW W) X) {t : Expr} {b : List Stmt} {ft : FT} {body : FS} {lf : Nat} (hc : PT X t (tT G ft (kW W))) (hb : PSs X b (tS G body W)) : PS X (.While t b [] pos) (tS G (fun env S => whileF ft body lf env S) W) :=
  PS.imp (ps_while c.own hc hb) fun D σ H ⟨Z, A, env, S, hR, hE, hP⟩ => by
    refine ⟨fun m σ' H' => ∃ Z' A' env' S', Fut H Z A H' Z' A' ∧ Rel G Z' A' S' H' ∧ EnvR G Z' A' env' σ' ∧ PostR (whileF ft body m env' S') (EndR G H Z A D) (fun x S' => KonX G H Z A x S' W), ⟨lf, Z, A, env, S, .refl, hR, hE, hP⟩, ?_⟩
    rintro m σ1 H1 ⟨Z1, A1, env1, S1, f1, R1, E1, P1⟩
    cases m with
    | zero => exact P1.elim
    | succ m =>
      rw [whileF_eq] at P1
      refine ⟨Z1, A1, env1, S1, R1, E1, (PostR.bind P1).mono (fun t S2 _ P2 H2 Z2 A2 f2 R2 => ?_) fun x S' h => KonX.fut h f1⟩
      cases t with
      | false => exact (show EndR G H Z A D (.nx, env1) S2 from P2) σ1 H2 Z2 A2 (f1.trans f2) R2 (E1.mono f2.le)
      | true =>
        rw [if_pos rfl]
        refine ⟨fun σ' H' => ∃ Z' A' env' S', Fut H Z A H' Z' A' ∧ Rel G Z' A' S' H' ∧ EnvR G Z' A' env' σ' ∧ PostR (whileF ft body m env' S') (EndR G H Z A D) (fun x S' => KonX G H Z A x S' W), fun σ' H' h => ⟨m, Nat.lt_succ_self _, h⟩, ?_⟩
        have P2 := PostR.bind (show PostR ((body env1 S2).bind (againF (whileF ft body m))) _ _ from P2)
        exact ⟨Z2, A2, env1, S2, R2, E1.mono f2.le, P2.mono (fun p S3 _ h => again_end h (f1.trans f2) fun σ' H' Z' A' env' S' f' R' E' h => ⟨Z', A', env', S', f', R', E', h⟩) fun x S' h => KonX.fut h (f1.trans f2)⟩
def forW (nx : Nat → Store → Option (Option D)) (turn : D → EnvD → Store → R (Fl × EnvD)) : Nat → Nat → FS
  | 0, _, _, _ => .bad
  | f + 1, i, env, S => match nx i S with
    | none => .bad
    | some none => .ok (.nx, env) S
    | some (some d) => (turn d env S).bind (againF (forW nx turn f (i + 1)))
theorem forObj_W (l : Nat) (turn : D → EnvD → Store → R (Fl × EnvD)) : ∀ (f i : Nat) (env : EnvD) (S : Store), forObj l turn f i env S = forW (nxt (.obj l)) turn f i env S
  | 0, _, _, _ => rfl
  | f + 1, i, env, S => by
    have ih : forObj l turn f (i + 1) = forW (nxt (.obj l)) turn f (i + 1) := funext fun env => funext fun S => forObj_W l turn f (i + 1) env S
    show (match S[l]? with
      | some (.lst ds) => _
      | _ => _) = match (match S[l]? with
        | some (.lst ds) => some ds[i]?
        | _ => none) with
      | none => _
      | some none => _
      | some (some d) => _
    cases S[l]? with
    | none => rfl
    | some m =>
      cases m with
      | lst ds =>
        show (match ds[i]? with
          | none => _
          | some d => _) = match some ds[i]? with
          | none => _
          | some none => _
          | some (some d) => _
        cases ds[i]? with
        | none => rfl
        | some d =>
          show (turn d env S).bind _ = (turn d env S).bind _
          rw [← ih]
          rfl
      | ins c fs => rfl
      | dead => rfl
theorem forItems_W (ds : List D) (turn : D → EnvD → Store → R (Fl × EnvD)) : ∀ (es : List D) (i : Nat) (env : EnvD) (S : Store), ds.drop i = es → forItems turn es env S = forW (nxt (.items ds)) turn (es.length + 1) i env S
  | [], i, env, S, h => by
    show _ = match some ds[i]? with
      | none => _
      | some none => _
      | some (some d) => _
    rw [drop_get h]
    rfl
  | d :: es, i, env, S, h => by
    have ih : forItems turn es = forW (nxt (.items ds)) turn (es.length + 1) (i + 1) := funext fun env => funext fun S => forItems_W ds turn es (i + 1) env S (drop_tail h)
    show _ = match some ds[i]? with
      | none => _
      | some none => _
      | some (some d) => _
    rw [drop_get h]
    show (turn d env S).bind _ = (turn d env S).bind _
    show _ = (turn d env S).bind (againF (forW (nxt (.items ds)) turn (es.length + 1) (i + 1)))
    rw [← ih]
    rfl
theorem forItv_W (turn : D → EnvD → Store → R (Fl × EnvD)) (v : Itv) (env : EnvD) (S : Store) : ∃ f, forItv turn v env S = forW (nxt v) turn f 0 env S := by
  cases v with
  | items ds => exact ⟨_, forItems_W ds turn ds 0 env S rfl⟩
  | obj l =>
    show ∃ f, (match S[l]? with
      | some (.lst ds) => forObj l turn (ds.length + 1) 0 env S
      | _ => .bad) = _
    cases S[l]? with
    | none => exact ⟨0, rfl⟩
    | some m =>
      cases m with
      | lst ds => exact ⟨_, forObj_W l turn _ 0 env S⟩
      | ins c fs => exact ⟨0, rfl⟩
      | dead => exact ⟨0, rfl⟩
def forTurn (t : Tg) (body : FS) : D → EnvD → Store → R (Fl × EnvD) := fun d env S => (opt (asg t d env) S).bind fun en S => body en S
theorem x_for (c : Cok G P w base N n (kW W) X) {tg iter : Expr} {b : List Stmt} {t : Tg} {fi : FI} {body : FS} (hi : PI X tg iter (tI G fi (kW W))) (hg : PG X tg (gT G t)) (hb : PSs X b (tS G body W)) (hs : ∀ x, foldedSetIterable iter X.env x = pure x) :
    PS X (.For tg iter b [] pos) (tS G (fun env S => (fi env S).bind fun v S1 => forItv (forTurn t body) v env S1) W) :=
  PS.imp (ps_for c.own c.calm hi hg hb hs) fun D σ H ⟨Z, A, env, S, hR, hE, hP⟩ => stepI hR hE hP fun v J S1 Z1 A1 H1 f1 R1 E1 wk P1 => by
    obtain ⟨f, hf⟩ := forItv_W (forTurn t body) v env S1
    rw [hf] at P1
    have P1 : PostR _ (EndR G H1 Z1 A1 D) (fun x S' => KonX G H1 Z1 A1 x S' W) := P1.mono (fun q S2 _ hq => EndR.fut hq f1) fun _ _ h => h
    refine ⟨fun i m σ' H' => ∃ Z' A' env' S', Fut H1 Z1 A1 H' Z' A' ∧ Rel G Z' A' S' H' ∧ EnvR G Z' A' env' σ' ∧ PostR (forW (nxt v) (forTurn t body) m i env' S') (EndR G H1 Z1 A1 D) (fun x S' => KonX G H1 Z1 A1 x S' W), ⟨f, Z1, A1, env, S1, .refl, R1, E1, P1⟩, ?_⟩
    rintro i m σ2 H2 ⟨Z2, A2, env2, S2, f2, R2, E2, P2⟩
    cases m with
    | zero => exact P2.elim
    | succ m =>
      have w2 := wk Z2 A2 S2 H2 i R2 f2.le
      unfold forW at P2
      cases hn : nxt v i S2 with
      | none =>
        rw [hn] at P2
        exact P2.elim
      | some o =>
        rw [hn] at P2 w2
        cases o with
        | none => exact .inl ⟨w2, (show EndR G H1 Z1 A1 D (.nx, env2) S2 from P2) σ2 H2 Z2 A2 f2 R2 E2⟩
        | some d =>
          obtain ⟨go, yl⟩ := w2
          have P2 := PostR.bind (PostR.bind (show PostR ((forTurn t body d env2 S2).bind _) _ _ from P2))
          obtain ⟨en, hen, P2⟩ := P2.opt
          refine .inr ⟨go, fun σ' H' => ∃ Z' A' env' S', Fut H1 Z1 A1 H' Z' A' ∧ Rel G Z' A' S' H' ∧ EnvR G Z' A' env' σ' ∧ PostR (forW (nxt v) (forTurn t body) m (i + 1) env' S') (EndR G H1 Z1 A1 D) (fun x S' => KonX G H1 Z1 A1 x S' W), fun σ' H' h => ⟨m, Nat.lt_succ_self _, h⟩, fun x H3 y => ?_⟩
          obtain ⟨Z3, R3, f3, rx⟩ := yl x H3 y
          have f23 := f2.trans f3
          exact ⟨Z3, A2, S2, env2, d, en, R3, E2.mono f3.le, rx, hen, fun σ3 E3 _ => ⟨Z3, A2, en, S2, R3, E3, P2.mono (fun p S3 _ h => again_end h f23 fun σ' H' Z' A' env' S' f' R' E' h => ⟨Z', A', env', S', f', R', E', h⟩) fun x S' h => KonX.fut h f23⟩⟩
end
end Mp
set_option maxHeartbeats 200000
/-! Mp.Stm2: stores. -/
namespace Mp
open PySem PySem.Spec PyProof.Rows L2

/-- whether a tuple's stores are swapped -/
def swapC (sc : Scope) (ts vs : List Expr) : Option (Option (List Str)) :=
    if (!(ts.length == 2 || ts.length == 3) || vs.length != ts.length) = true then some none
    else if (vs.any fun | .Starred .. => true | _ => false) = true then some none
    else
      let names := ts.filterMap fun
        | .Name id pos => if sc.names.lookup id == some .local && pos.line == (ts.head?.map (·.pos.line)).getD 0 then some id else none
        | _ => none
      if (names.length != ts.length || names.eraseDups.length != names.length) = true then some none
      else if (vs.all (foldedForSure 8)) = true then some none
      else if (vs.all (constantsAlone 8)) = true then none
      else some (some names)
theorem swap_ok {sc : Scope} {ts vs : List Expr} {k k2 : Nat} {p p2 : Pos} {env : Env} {r : Option (List Str)} (hsc : env.scope = sc) (hk : sc.kind = .function) (h : swapC sc ts vs = some r) : swappedStores [.Tuple ts k p] (.Tuple vs k2 p2) env = pure r := by
  subst hsc
  have hb : env.blockKind = .function := by unfold Env.blockKind; rw [hk]; rfl
  unfold swapC at h
  unfold swappedStores
  dsimp only
  by_cases h1 : (!(ts.length == 2 || ts.length == 3) || vs.length != ts.length) = true
  · rw [if_pos h1] at h
    cases h
    rw [if_pos (by rw [h1]; rfl)]
  · rw [if_neg h1] at h
    rw [if_neg (by rw [hb]; simpa using h1)]
    split at h
    · rename_i h2
      cases h
      exact if_pos h2
    · rename_i h2
      refine (if_neg h2).trans ?_
      simp only at h
      split at h
      · rename_i h3
        cases h
        exact if_pos h3
      · rename_i h3
        refine (if_neg h3).trans ?_
        split at h
        · rename_i h4
          cases h
          exact if_pos h4
        · rename_i h4
          refine (if_neg h4).trans ?_
          split at h
          · cases h
          · rename_i h5
            cases h
            exact (if_neg h5)
theorem swapsC_ok {e : Expr} (h : (match e with
    | .ListComp .. | .SetComp .. | .DictComp .. => false
    | _ => true) = true) (t : Option Expr) (l : Nat) (env : Env) : swapsWith e t l env = pure false := by
  cases e <;> first | rfl | cases h
/-- no comprehension at the top -/
def noComp : Expr → Bool
  | .ListComp .. | .SetComp .. | .DictComp .. => false
  | _ => true
theorem swapsN {e : Expr} (h : noComp e = true) (t : Option Expr) (l : Nat) (env : Env) : swapsWith e t l env = pure false := swapsC_ok h t l env
def noTup : Expr → Bool
  | .Tuple .. => false
  | _ => true
theorem swap_noT {tg value : Expr} (h : noTup value = true) (env : Env) : swappedStores [tg] value env = pure none := by
  cases value <;> first | (cases tg <;> rfl) | cases h
section
variable {G : Wd} {P : Program} {w : World} {base : Heap} {N : List Str} {n : Nat} {W : XK} {X : Cx}
variable {e a b : Expr} {fe fa fb : FE} {pos pos' : Pos} {σ : L2.St} {i : Nat} {x : Str}
def asgF (t : Tg) (fe : FE) : FS := fun env S => (fe env S).bind fun d S1 => (opt (asg t d env) S1).bind fun en S1 => .ok (.nx, en) S1
theorem asg_nm {d : D} {env en : EnvD} (h : asg (.nm i) d env = some en) : en = env.set i (some d) := by
  unfold asg at h
  split at h
  · exact (Option.some.inj h).symm
  · cases h
/-- name = e -/
theorem asg_core {D : Ends} {H : Hp} {f : FE} {R : TE} (hR : ∀ σ H Q, tD G f (kW W) σ H Q → R σ H Q) (h : tS G (asgF (.nm i) f) W D σ H) : tAsg R (gName i) D σ H := by
  obtain ⟨Z, A, env, S, hR', hE, hP⟩ := h
  refine hR _ _ _ (step hR' hE hP fun v d S1 Z1 A1 H1 f1 R1 E1 r1 P1 => ?_)
  obtain ⟨en, hen, k⟩ := P1.bind.opt
  have e2 := asg_nm hen
  subst e2
  exact (show EndR G H Z A D (.nx, env.set i (some d)) S1 from k) _ H1 Z1 A1 f1 R1 (E1.set r1)
theorem x_set (c : Cok G P w base N n (kW W) X) (hi : N[i]? = some x) (hx : Loc X.env.scope x) (he : PE X e (tD G fe (kW W))) (hs : swapsWith e (some (.Name x pos')) pos.line X.env = pure false) (hf : X.fn x = true ∨ X.env.scope.names.lookup x = some .local) :
    PS X (.Assign [.Name x pos'] e pos) (tS G (asgF (.nm i) fe) W) :=
  PS.imp (ps_set (by rw [c.nm]; exact c.nd) (by rw [c.nm]; exact hi) hx he hs hf) fun D σ H h => asg_core (fun σ H Q h => h) h
/-- targets = e -/
theorem x_asg {tg : Expr} {t : Tg} (he : PE X e (tD G fe (kW W))) (hg : PG X tg (gT G t)) (hs : swapsWith e (some tg) pos.line X.env = pure false) (hw : swappedStores [tg] e X.env = pure none) (h1 : noStar tg = true) :
    PS X (.Assign [tg] e pos) (tS G (asgF t fe) W) :=
  PS.imp (ps_asg he hg hs hw (by rw [asg_each h1]; rfl)) fun D σ H ⟨Z, A, env, S, hR, hE, hP⟩ => step hR hE hP fun v d S1 Z1 A1 H1 f1 R1 E1 r1 P1 => by
    obtain ⟨en, hen, k⟩ := P1.bind.opt
    exact ⟨Z1, A1, S1, env, d, en, R1, E1, r1, hen, fun σ' E' _ => (show EndR G H Z A D (.nx, en) S1 from k) σ' H1 Z1 A1 f1 R1 E'⟩
/-- name = [..] on one line -/
theorem x_setC (c : Cok G P w base N n (kW W) X) (mu : Bool) {elt tg iter : Expr} {ifs : List Expr} {scope : Scope} {own : List (Str × Nat)} {fi : FI} {ft : FT} {t : Tg} (hi0 : N[i]? = some x) (hyl : X.env.scope.names.lookup x = some .local)
    {spos : Pos} (hsw : swapsWith (.ListComp elt [⟨tg, iter, ifs, 0⟩] scope pos) (some (.Name x pos')) spos.line X.env = pure true) (hi : PI X tg iter (tI G fi (kW W))) (ok : BlkOk X.N X.env.scope scope own)
    (hg : ∀ (s : Shared) (H : Hp) (C : Addr) (cl : List (Str × Addr)) (fp : List Addr), PG (X.blk s H scope (compEnvC scope cl C X.env) fp) tg (gT G t)) (ht : ∀ (s : Shared) (H : Hp) (C : Addr) (cl : List (Str × Addr)) (fp : List Addr), PTs (X.blk s H scope (compEnvC scope cl C X.env) fp) ifs (tT G ft noW))
    (he : ∀ (s : Shared) (H : Hp) (C : Addr) (cl : List (Str × Addr)) (fp : List Addr), PE (X.blk s H scope (compEnvC scope cl C X.env) fp) elt (tD G fe noW)) (hs : ∀ x, foldedSetIterable iter X.env x = pure x) (hown : ∀ i ∈ slots t, i ∈ own.map (·.2)) :
    PS X (.Assign [.Name x pos'] (.ListComp elt [⟨tg, iter, ifs, 0⟩] scope pos) spos) (tS G (asgF (.nm i) (compF mu (own.map (·.2)) t fi ft fe)) W) :=
  PS.imp (ps_setLc c.calm (by rw [c.nm]; exact c.nd) (by rw [c.nm]; exact hi0) hyl hsw hi ok hg ht he hs) fun D σ H h => asg_core (fun σ H Q h => lc_core_D hown h) h
theorem x_setC2 (c : Cok G P w base N n (kW W) X) (mu : Bool) {elt tg iter tg1 iter1 : Expr} {ifs ifs1 : List Expr} {scope : Scope} {own : List (Str × Nat)} {fi fi' : FI} {ft ft' : FT} {t t' : Tg} {spos : Pos} (hi0 : N[i]? = some x) (hyl : X.env.scope.names.lookup x = some .local)
    (hsw : swapsWith (.ListComp elt [⟨tg, iter, ifs, 0⟩, ⟨tg1, iter1, ifs1, 0⟩] scope pos) (some (.Name x pos')) spos.line X.env = pure true) (hi : PI X tg iter (tI G fi (kW W))) (ok : BlkOk X.N X.env.scope scope own)
    (hg : ∀ (s : Shared) (H : Hp) (C : Addr) (cl : List (Str × Addr)) (fp : List Addr), PG (X.blk s H scope (compEnvC scope cl C X.env) fp) tg (gT G t)) (ht : ∀ (s : Shared) (H : Hp) (C : Addr) (cl : List (Str × Addr)) (fp : List Addr), PTs (X.blk s H scope (compEnvC scope cl C X.env) fp) ifs (tT G ft noW))
    (hi1 : ∀ (s : Shared) (H : Hp) (C : Addr) (cl : List (Str × Addr)) (fp : List Addr), PI (X.blk s H scope (compEnvC scope cl C X.env) fp) tg1 iter1 (tI G fi' noW))
    (hg1 : ∀ (s : Shared) (H : Hp) (C : Addr) (cl : List (Str × Addr)) (fp : List Addr), PG (X.blk s H scope (compEnvC scope cl C X.env) fp) tg1 (gT G t')) (ht1 : ∀ (s : Shared) (H : Hp) (C : Addr) (cl : List (Str × Addr)) (fp : List Addr), PTs (X.blk s H scope (compEnvC scope cl C X.env) fp) ifs1 (tT G ft' noW))
    (he : ∀ (s : Shared) (H : Hp) (C : Addr) (cl : List (Str × Addr)) (fp : List Addr), PE (X.blk s H scope (compEnvC scope cl C X.env) fp) elt (tD G fe noW)) (hs : ∀ x, foldedSetIterable iter X.env x = pure x) (hs1 : ∀ env x, foldedSetIterable iter1 env x = pure x) (hown : ∀ i ∈ slots t, i ∈ own.map (·.2)) (hown2 : ∀ i ∈ slots t', i ∈ own.map (·.2)) :
    PS X (.Assign [.Name x pos'] (.ListComp elt [⟨tg, iter, ifs, 0⟩, ⟨tg1, iter1, ifs1, 0⟩] scope pos) spos) (tS G (asgF (.nm i) (compF2 mu (own.map (·.2)) t fi ft t' fi' ft' fe)) W) :=
  PS.imp (ps_setLc2 c.calm (by rw [c.nm]; exact c.nd) (by rw [c.nm]; exact hi0) hyl hsw hi ok hown2 hg ht hi1 hg1 ht1 he hs hs1) fun D σ H h => asg_core (fun σ H Q h => lc2_core_D hown h) h
/-- a, b = c, d of names -/
def parF (is : List Nat) (fs : FA) : FS := fun env S => (fs env S).bind fun ds S1 => (opt (asgs is ds env) S1).bind fun en S1 => .ok (.nx, en) S1
theorem asgs2 {i j : Nat} {ds : List D} {env en : EnvD} (h : asgs [i, j] ds env = some en) : ∃ x y, ds = [x, y] ∧ en = (env.set i (some x)).set j (some y) := by
  match ds, h with
  | [x, y], h =>
    unfold asgs at h
    split at h
    · unfold asgs at h
      split at h
      · cases h
        exact ⟨x, y, rfl, rfl⟩
      · cases h
    · cases h
  | [], h => cases h
  | [x], h =>
    unfold asgs at h
    split at h <;> cases h
  | x :: y :: z :: r, h =>
    unfold asgs at h
    split at h
    · unfold asgs at h
      split at h <;> cases h
    · cases h
theorem asgs3 {i j k : Nat} {ds : List D} {env en : EnvD} (h : asgs [i, j, k] ds env = some en) : ∃ x y z, ds = [x, y, z] ∧ en = ((env.set i (some x)).set j (some y)).set k (some z) := by
  match ds, h with
  | [], h => cases h
  | x :: r, h =>
    unfold asgs at h
    split at h
    · obtain ⟨y, z, rfl, rfl⟩ := asgs2 h
      exact ⟨x, y, z, rfl, rfl⟩
    · cases h
theorem x_par2 (c : Cok G P w base N n (kW W) X) {j : Nat} {y : Str} {px py pt : Pos} {kt k2 pt2} {fs : FA} (hi : N[i]? = some x) (hj : N[j]? = some y) (hij : i ≠ j) (hx : X.env.scope.names.lookup x = some .local) (hy : X.env.scope.names.lookup y = some .local) (ha : PA X [a, b] (tA G fs (kW W)))
    (hw : swappedStores [.Tuple [.Name x px, .Name y py] kt pt] (.Tuple [a, b] k2 pt2) X.env = pure (some [x, y])) : PS X (.Assign [.Tuple [.Name x px, .Name y py] kt pt] (.Tuple [a, b] k2 pt2) pos) (tS G (parF [i, j] fs) W) :=
  PS.imp (ps_par c.calm (by rw [c.nm]; exact c.nd) (by rw [c.nm]; exact hi) (by rw [c.nm]; exact hj) hij hx hy ha hw) fun D σ H ⟨Z, A, env, S, hR, hE, hP⟩ => stepA hR hE hP fun vs ds S1 Z1 A1 H1 f1 R1 E1 r1 P1 => by
    obtain ⟨en, hen, k⟩ := P1.bind.opt
    obtain ⟨d1, d2, rfl, rfl⟩ := asgs2 hen
    cases r1 with
    | cons q1 r1 =>
      cases r1 with
      | cons q2 r1 =>
        cases r1
        exact ⟨_, _, rfl, (show EndR G H Z A D (.nx, _) S1 from k) _ H1 Z1 A1 f1 R1 ((E1.set q1).set q2)⟩
theorem x_par3 (c : Cok G P w base N n (kW W) X) {j l : Nat} {y z : Str} {e3 : Expr} {px py pz pt : Pos} {kt k2 pt2} {fs : FA} (hi : N[i]? = some x) (hj : N[j]? = some y) (hl : N[l]? = some z) (hij : i ≠ j) (hil : i ≠ l) (hjl : j ≠ l) (hx : X.env.scope.names.lookup x = some .local) (hy : X.env.scope.names.lookup y = some .local) (hz : X.env.scope.names.lookup z = some .local) (ha : PA X [a, b, e3] (tA G fs (kW W)))
    (hw : swappedStores [.Tuple [.Name x px, .Name y py, .Name z pz] kt pt] (.Tuple [a, b, e3] k2 pt2) X.env = pure (some [x, y, z])) : PS X (.Assign [.Tuple [.Name x px, .Name y py, .Name z pz] kt pt] (.Tuple [a, b, e3] k2 pt2) pos) (tS G (parF [i, j, l] fs) W) :=
  PS.imp (ps_par3 c.calm (by rw [c.nm]; exact c.nd) (by rw [c.nm]; exact hi) (by rw [c.nm]; exact hj) (by rw [c.nm]; exact hl) hij hil hjl hx hy hz ha hw) fun D σ H ⟨Z, A, env, S, hR, hE, hP⟩ => stepA hR hE hP fun vs ds S1 Z1 A1 H1 f1 R1 E1 r1 P1 => by
    obtain ⟨en, hen, k⟩ := P1.bind.opt
    obtain ⟨d1, d2, d3, rfl, rfl⟩ := asgs3 hen
    cases r1 with
    | cons q1 r1 =>
      cases r1 with
      | cons q2 r1 =>
        cases r1 with
        | cons q3 r1 =>
          cases r1
          exact ⟨_, _, _, rfl, (show EndR G H Z A D (.nx, _) S1 from k) _ H1 Z1 A1 f1 R1 (((E1.set q1).set q2).set q3)⟩
/-! ### op= -/
def rIp (G : Wd) (o : Op) : TIp := fun x y H Q => ∃ Z A S d e, Rel G Z A S H ∧ Rp G Z A x d ∧ Rp G Z A y e ∧ PostR (ipD o d e S) (fun d S' => Kon G H Z A d S' Q) (fun _ _ => False)
theorem ip_im {Z H : Hp} {A : List Addr} {S : Store} {pins : List (Addr × Obj)} {s : Shared} {x y : V} {d e r : D} {v u : Value} {Q : VK} {o : Op} (hR : Rel G Z A S H) (hx : Rp G Z A x d) (hy : Rp G Z A y e) (I : Inv X pins σ H s) (rx : RelV x v) (ry : RelV y u) (hf : augD o d (rd S e) = some r) (k : Kon G H Z A r S Q) :
    wpAny (model X.prog X.w) X.A (inplaceOp (opOf o) v u) (EP X pins σ Q) X.xe s := by
  generalize he : rd S e = e' at hf
  unfold augD at hf
  split at hf
  · cases hf
    cases hx
    obtain ⟨rfl, _⟩ := rd_int hy he
    exact iop_add pins s σ H _ _ v u Q I rx ry ⟨_, _, rfl, rfl, k.at_ hR (.int _)⟩
  · split at hf <;> cases hf
    rename_i hz
    cases hx
    obtain ⟨rfl, _⟩ := rd_int hy he
    obtain ⟨t, rfl⟩ := rx
    obtain ⟨t', rfl⟩ := ry
    refine imul_int ⟨.int _, H, I.tok _, ⟨_, rfl⟩, k.at_ hR (.int _)⟩ ?_
    rcases Bool.or_eq_true_iff.mp hz with q | q
    · obtain ⟨z1, z2⟩ := small_ok q
      exact .of_left (intBits_le_64 z1 z2)
    · obtain ⟨z1, z2⟩ := small_ok q
      exact .of_right (intBits_le_64 z1 z2)
  · split at hf <;> cases hf
    rename_i hz
    cases hx
    obtain ⟨rfl, _⟩ := rd_str hy he
    exact iop_add_str pins s σ H _ _ v u Q I rx ry ⟨_, _, rfl, rfl, by rw [← lim_eq]; exact hz, k.at_ hR (.str _)⟩
  · cases hf
theorem ip_D (o : Op) : PIp X (opOf o) (rIp G o) := by
  intro pins s σ H x y v u Q I rx ry h
  obtain ⟨Z, A, S, d, e, hR, hx, hy, k⟩ := h
  unfold ipD at k
  split at k
  · rename_i l
    obtain ⟨S2, hS, k⟩ := (PostR.bind k).opt
    unfold extD at hS
    split at hS
    · rename_i ds es e1 e2
      split at hS
      · rename_i hz
        simp only [Bool.and_eq_true, decide_eq_true_eq] at hz
        obtain ⟨hz, ho⟩ := hz
        cases hS
        obtain ⟨b, ws, rfl, hb, hw⟩ := rd_list hR hy e2
        cases hx with
        | @obj a l h1 =>
          obtain ⟨_, vs, h2, h3⟩ := hR.at_ l a _ h1 e1
          obtain ⟨R1, f1⟩ := hR.write h1 e1 (h3.app (RpAll.cut _ _ hw ho))
          exact iop_ext pins s σ H _ _ v u Q I rx ry ⟨a, b, vs, ws, rfl, rfl, h2, hb, by rw [h3.length, hw.length, ← lim_eq]; exact hz, (show Kon G H Z A _ _ Q from k) _ _ _ _ f1 R1 (.obj h1)⟩
      · cases hS
    · cases hS
  · obtain ⟨r, hr, k⟩ := PostR.opt k
    exact ip_im hR hx hy I rx ry hr k
theorem ipD_w {o : Op} {d e : D} {S : Store} {k k' : D → Store → Prop} {w w' : Exc → Store → Prop} (h : PostR (ipD o d e S) k w) (hk : ∀ d S, k d S → k' d S) : PostR (ipD o d e S) k' w' := by
  unfold ipD at h ⊢
  split at h
  · obtain ⟨S2, hS, h⟩ := (PostR.bind h).opt
    rw [hS]
    exact hk _ _ h
  · obtain ⟨r, hr, h⟩ := PostR.opt h
    rw [hr]
    exact hk _ _ h
def augF (i : Nat) (o : Op) (fe : FE) : FS := fun env S => match env[i]? with
    | some (some x) => (fe env S).bind fun y S1 => (ipD o x y S1).bind fun d S2 => .ok (.nx, env.set i (some d)) S2
    | _ => .bad
theorem x_aug (c : Cok G P w base N n (kW W) X) (o : Op) (hi : N[i]? = some x) (hx : Loc X.env.scope x) (he : PE X e (tD G fe (kW W))) (hf : X.fn x = true ∨ X.env.scope.names.lookup x = some .local) :
    PS X (.AugAssign (.Name x pos') (opOf o) e pos) (tS G (augF i o fe) W) :=
  PS.imp (ps_aug (by rw [c.nm]; exact c.nd) (by rw [c.nm]; exact hi) hx he (ip_D o) hf) fun D σ H ⟨Z, A, env, S, hR, hE, hP⟩ => by
    unfold augF at hP
    split at hP
    · rename_i d hd
      obtain ⟨v, hv, hr⟩ := hE.at_ i d hd
      refine ⟨v, hv, step hR hE hP fun u e S1 Z1 A1 H1 f1 R1 E1 r1 P1 => ?_⟩
      exact ⟨Z1, A1, S1, d, e, R1, f1.rp hr, r1, ipD_w (PostR.bind P1) fun z S2 h v' H2 Z2 A2 f2 R2 r2 => (show EndR G H Z A D (.nx, env.set i (some z)) S2 from h) _ H2 Z2 A2 (f1.trans f2) R2 ((E1.mono f2.le).set r2)⟩
    · exact hP.elim
/-! ### o[i] = v, o[i] op= v -/
theorem set_core {Z H : Hp} {A : List Addr} {S S2 : Store} {o y v : V} {od yd vd : D} (hR : Rel G Z A S H) (ho : Rp G Z A o od) (hy : Rp G Z A y yd) (hv : Rp G Z A v vd) (h : setD od yd vd S = some S2) {Q : Hp → Prop} (k : ∀ H', Fut H Z A H' Z A → Rel G Z A S2 H' → Q H') : rSetL o y v H Q := by
  unfold setD at h
  split at h
  · rename_i l m
    split at h
    · rename_i ds e
      split at h
      · rename_i hm
        simp only [Bool.and_eq_true, decide_eq_true_eq] at hm
        obtain ⟨hm, ho2⟩ := hm
        cases h
        cases hy
        cases ho with
        | @obj a l h1 =>
          obtain ⟨_, vs, h2, h3⟩ := hR.at_ l a _ h1 e
          obtain ⟨R1, f1⟩ := hR.write h1 e (h3.set m (Rp.cut _ _ hv ho2))
          refine ⟨a, vs, _, m, rfl, rfl, h2, ?_, k _ f1 R1⟩
          have hl : m < vs.length := by rw [h3.length]; exact hm
          unfold ixN
          rw [if_pos (by exact Int.natCast_nonneg m), if_pos (by show (m : Int) < _; omega)]
          rfl
      · cases h
    · cases h
  · cases h
def setF (fo fi fe : FE) : FS := fun env S => (fe env S).bind fun v S1 => (fo env S1).bind fun ov S2 => (fi env S2).bind fun iv S3 => (opt (setD ov iv v S3) S3).bind fun S4 _ => .ok (.nx, env) S4
theorem x_setix {o ie : Expr} {fo fi : FE} (ho : PE X o (tD G fo (kW W))) (hi : PE X ie (tD G fi (kW W))) (he : PE X e (tD G fe (kW W))) (hs : noComp e = true) (hw : noTup e = true)
    (ha : ∀ v, assign (.Subscript o ie pos') X.env v = (do
      let ov ← holding [v] (eval o X.env)
      let iv ← holding [v, ov] (eval ie X.env)
      standAt pos'
      holding [v, ov, iv] (setItem ov iv v)
      release [v, ov, iv] [])) : PS X (.Assign [.Subscript o ie pos'] e pos) (tS G (setF fo fi fe) W) :=
  PS.imp (ps_asg he (pg_sub ho hi set_list ha) (swapsN hs (some (.Subscript o ie pos')) pos.line X.env) (swap_noT hw _)) fun D σ H ⟨Z, A, env, S, hR, hE, hP⟩ =>
    step hR hE hP fun v d S1 Z1 A1 H1 f1 R1 E1 r1 P1 => step R1 E1 P1 fun ov od S2 Z2 A2 H2 f2 R2 E2 r2 P2 => step R2 E2 P2 fun iv id S3 Z3 A3 H3 f3 R3 E3 r3 P3 => by
      obtain ⟨S4, hS, k⟩ := P3.bind.opt
      exact set_core R3 (f3.rp r2) r3 (f3.rp (f2.rp r1)) hS fun H' f' R' => (show EndR G H Z A D (.nx, env) S4 from k) σ H' Z3 A3 (((f1.trans f2).trans f3).trans f') R' (E3.mono f'.le)
def rGet (G : Wd) : V → V → Hp → VK → Prop := fun x y H Q => ∃ Z A S d e r, Rel G Z A S H ∧ Rp G Z A x d ∧ Rp G Z A y e ∧ getL (rd S d) e = some r ∧ ∀ v, Rp G Z A v r → Q v H
theorem pget_D : PGet X (rGet G) := by
  intro pins s σ H x y v u Q I rx ry h
  obtain ⟨Z, A, S, d, e, r, hR, hx, hy, hf, k⟩ := h
  generalize hd : rd S d = d' at hf
  unfold getL at hf
  split at hf
  · rename_i xs m
    cases hy
    obtain ⟨a, vs, rfl, h1, h2⟩ := rd_list hR hx hd
    obtain ⟨w, h3, h4⟩ := h2.get hf
    cases rx
    obtain ⟨t, rfl⟩ := ry
    obtain ⟨its, rv, p, hz⟩ := I.list (.of h1)
    obtain ⟨z, ez, rz⟩ := rv.get h3
    have hl := (List.getElem?_eq_some_iff.mp h3).1
    have hn := line63
    refine wpAny_getItem_list p.isList (by exact Int.natCast_nonneg m) (by show (m : Int) < _; omega) (by show its.toArray[m]? = some z; simpa using ez) ⟨w, H, I, rz, k w h4⟩
  · cases hf
def augixF (fo fi : FE) (op : Op) (fe : FE) : FS := fun env S => (fo env S).bind fun ov S1 => (fi env S1).bind fun iv S2 => (opt (getL (rd S2 ov) iv) S2).bind fun x S2 => (fe env S2).bind fun y S3 =>
      (ipD op x y S3).bind fun z S4 => (opt (setD ov iv z S4) S4).bind fun S5 _ => .ok (.nx, env) S5
theorem x_augix {o ie : Expr} {fo fi : FE} {op : Op} {tpos : Pos} (ho : PE X o (tD G fo (kW W))) (hi : PE X ie (tD G fi (kW W))) (he : PE X e (tD G fe (kW W)))
    (ha : ∀ ov iv new, augStore ie ov iv new = (do holding [new, ov, iv] (setItem ov iv new); release [new, ov, iv] []; pure .next)) : PS X (.AugAssign (.Subscript o ie tpos) (opOf op) e pos) (tS G (augixF fo fi op fe) W) :=
  PS.imp (ps_augS ho hi pget_D he (ip_D op) set_list ha) fun D σ H ⟨Z, A, env, S, hR, hE, hP⟩ =>
    step hR hE hP fun ov od S1 Z1 A1 H1 f1 R1 E1 r1 P1 => step R1 E1 P1 fun iv id S2 Z2 A2 H2 f2 R2 E2 r2 P2 => by
      obtain ⟨xd, hx, P2⟩ := P2.bind.opt
      refine ⟨Z2, A2, S2, od, id, xd, R2, f2.rp r1, r2, hx, fun xv rx => ?_⟩
      exact step R2 E2 P2 fun yv yd S3 Z3 A3 H3 f3 R3 E3 r3 P3 => ⟨Z3, A3, S3, xd, yd, R3, f3.rp rx, r3, ipD_w (PostR.bind P3) fun zd S4 h zv H4 Z4 A4 f4 R4 r4 => by
        have h : PostR ((opt (setD od id zd S4) S4).bind fun S5 _ => R.ok (Fl.nx, env) S5) _ _ := h
        obtain ⟨S5, hS, k⟩ := (PostR.bind h).opt
        exact set_core R4 (f4.rp (f3.rp (f2.rp r1))) (f4.rp (f3.rp r2)) r4 hS fun H' f' R' => (show EndR G H Z A D (.nx, env) S5 from k) σ H' Z4 A4 ((((f1.trans f2).trans f3).trans f4).trans f') R' (((E3.mono f4.le)).mono f'.le)⟩
theorem x_nev {st : Stmt} : PS X st (tS G (fun _ _ => .bad) W) := PS.imp ps_never fun D σ H ⟨Z, A, env, S, hR, hE, hP⟩ => hP
end
end Mp
set_option maxHeartbeats 200000
/-! Mp.Gen: generator expressions: the frame. -/
namespace PySem
open Sem (wp)
/-- the heap of a new frame with its cells -/
def mpFrame (h : Heap) (scope : Scope) : Heap := pushCells (h.push { cls := .type "frame", data := .dict #[] }) scope.names
section
variable {M : Model} {A : Around} {E : Value → Shared → Prop} {s : Shared}
/-- a generator expression's frame, its cells, the walked thing at .0 -/
theorem mpGenEnv {scope : Scope} {globals : Addr} {cl : List (Str × Addr)} {it : Value} {qual : Str} {code : Value} {bi : Addr} {Q : Env → Shared → Prop} (hk : scope.kind = .function) (hd : scope.names.lookup (".0" : Str) = some NameKind.local)
    (h : ∀ h' tk, h'.Ns s.heap.objs.size (fun y => if y = ".0" then some it else none) → Heap.SameBut s.heap.objs.size (mpFrame s.heap scope) h' →
      Q { scope, locals := s.heap.objs.size, globals, cells := cellsFrom (s.heap.objs.size + 1) scope.names cl, qual, func := none, code, frame := some s.heap.objs.size, builtins := bi } { s with heap := h', toks := tk }) :
    wpAny M A (newFunctionEnv scope globals cl [(".0", it)] qual none code none bi) Q E s := by
  simp only [newFunctionEnv, Option.isSome_none, Bool.false_eq_true, if_false]
  refine wpAny_bind (wpAny_alloc ?_)
  refine wpAny_bind (wpAny_layCells _ (fun name kind cells => by cases hkc : kind == NameKind.cell <;> simp [hkc]) _ _ _ _ ?_)
  rw [show ({ s with heap := s.heap.push { cls := .type "frame", data := .dict #[] } } : Shared).heap.objs.size = s.heap.objs.size + 1 from Heap.size_push ..]
  simp only [List.forIn_cons, List.forIn_nil]
  generalize he : ({ scope, locals := s.heap.objs.size, globals, cells := cellsFrom (s.heap.objs.size + 1) scope.names cl, qual, func := none, code, frame := some s.heap.objs.size, builtins := bi } : Env) = env at h ⊢
  have e1 : env.kindOf ".0" = some .local := by rw [← he]; exact hd
  have e2 : env.locals = s.heap.objs.size := by rw [← he]
  have e3 : (env.scope.kind == .class || (env.scope.kind == .module && env.locals != env.globals)) = false := by
    rw [← he]
    show (scope.kind == .class || (scope.kind == .module && _)) = false
    rw [hk]; rfl
  refine wpAny_bind (wpAny_bind (wpAny_bind (wpAny_storeName_local (m := fun _ => none) e1 ?_ (fun h' hn' hs' => wpAny_pure (wpAny_pure (wpAny_pure (h h' _ ?_ ?_)))) e3)))
  · rw [e2]
    exact (Heap.Ns.new s.heap (.type "frame")).keeps (pushCells_keeps _ _)
  · rw [e2] at hn'
    exact hn'
  · rw [e2] at hs'
    exact hs'
end
end PySem
namespace Mp
open PySem PySem.Spec PyProof.Rows L2
abbrev genEv (scope : Scope) (cells : List (Str × Addr)) (C : Addr) (code : Value) (env : Env) : Env :=
  { scope, locals := C, globals := env.globals, cells, qual := env.qual ++ "<genexpr>.", func := none, code, frame := some C, builtins := builtinsNs }
/-- the context of a generator expression's frame -/
abbrev gcx (X : Cx) (s : Shared) (H : Hp) (scope : Scope) (cenv : Env) (fp : List Addr) : Cx :=
  { X with A := (X.A.in1.in1).deeper cenv, s_0 := s, H_0 := H, env := cenv, outer := X.stack, stack := cenv :: X.stack, ex := fp, fn := fun x => scope.names.lookup x == some .cell, pn := [], xe := fun _ _ => False }
section
variable {X : Cx} {pins : List (Addr × Obj)} {σ : L2.St} {H : Hp} {s : Shared}
theorem gen_start {scope : Scope} {own : List (Str × Nat)} {fp : List Addr} {code : Value} {h' : Heap} {m : Str → Option Value} {og : Obj} {g' : Array GenState} {t' : Nat} (I : Inv X pins σ H s) (ok : BlkOk X.N X.env.scope scope own) (hN : X.N.Nodup) (hfp : ∀ b ∈ fp, FpOk X pins H b ∧ b < s.heap.objs.size)
    (hm : ∀ y, y ∈ X.N → m y = none) (hn' : h'.Ns s.heap.objs.size m) (hs' : Heap.SameBut s.heap.objs.size (mpFrame s.heap scope) h') (hg : AllBare g') (hog : og.isFreed = false) (hoc : ∀ v, og.data ≠ .cell v) :
    Inv (gcx X s H scope (genEv scope (cellsFrom (s.heap.objs.size + 1) scope.names (cloFrom X.env.cells scope.names [])) s.heap.objs.size code X.env) fp) [(h'.objs.size, og)] (L2.wipe σ (own.map (·.2))) H { s with heap := h'.push og, gens := g', toks := t' } := by
  have hfree : ∀ y ∈ scope.names, y.2 = .free → ∃ c, X.env.cells.lookup y.1 = some c := fun y hy e => by
    rcases ok.free y hy e with k | k
    · exact I.ok.has _ (.inl k)
    · exact I.ok.has _ (.inr k)
  generalize hcenv : genEv scope (cellsFrom (s.heap.objs.size + 1) scope.names (cloFrom X.env.cells scope.names [])) s.heap.objs.size code X.env = cenv
  have kf : ∀ b o, s.heap.get? b = some o → (mpFrame s.heap scope).get? b = some o := fun b o e => pushCells_keeps _ _ _ _ (Heap.get?_push_of_some _ e)
  have kp : ∀ b o, s.heap.get? b = some o → (h'.push og).get? b = some o := fun b o e => Heap.get?_push_of_some _ (hs'.extBut b o (Nat.ne_of_lt (Heap.lt_size e)) (kf b o e))
  have hsz : s.heap.objs.size < h'.objs.size := by
    rw [hs'.1]
    exact Nat.lt_of_lt_of_le (by rw [Heap.size_push]; exact Nat.lt_succ_self _) (pushCells_size _ _)
  have hL : cenv.locals = s.heap.objs.size := by rw [← hcenv]
  have hcl : cenv.cells = cellsFrom (s.heap.objs.size + 1) scope.names (cloFrom X.env.cells scope.names []) := by rw [← hcenv]
  have hsc : cenv.scope = scope := by rw [← hcenv]
  rw [← Heap.size_push s.heap { cls := .type "frame", data := .dict #[] }] at hcl
  have cm : ∀ {y c}, (y, c) ∈ cloFrom X.env.cells scope.names [] → X.env.cells.lookup y = some c ∧ c < s.heap.objs.size := fun {y c} hm => by
    rcases cloFrom_mem hm with hm | ⟨h1, rfl⟩
    · cases hm
    · obtain ⟨c, hc⟩ := hfree _ h1 rfl
      rw [hc]
      obtain ⟨w, z⟩ := I.cell _ _ hc
      exact ⟨rfl, z.lt⟩
  have mem : ∀ {y c}, cenv.cells.lookup y = some c → (X.env.cells.lookup y = some c ∧ c < s.heap.objs.size) ∨ (s.heap.objs.size + 1 ≤ c ∧ CellAt (mpFrame s.heap scope) c none) := fun {y c} e => by
    rw [hcl] at e
    rcases cells_mem (PySem.mem_of_lookup e) with hm | ⟨_, h2, h3⟩
    · exact .inl (cm hm)
    · rw [Heap.size_push] at h2; exact .inr ⟨h2, h3⟩
  have look : ∀ {y}, scope.names.lookup y = some .free → ∃ c, cenv.cells.lookup y = some c ∧ X.env.cells.lookup y = some c := fun {y} hl => by
    have hy : (y, NameKind.free) ∈ scope.names := PySem.mem_of_lookup hl
    obtain ⟨c', e'⟩ := mem_lookup (cells_acc (names := scope.names) (n := (s.heap.push { cls := .type "frame", data := .dict #[] }).objs.size) (cloFrom_has (cells := X.env.cells) (acc := []) hy))
    rw [← hcl] at e'
    refine ⟨c', e', ?_⟩
    rw [hcl] at e'
    rcases cells_mem (PySem.mem_of_lookup e') with hm | ⟨h1, _, _⟩
    · exact (cm hm).1
    · have := ok.uniq _ h1
      rw [hl] at this; cases this
  have okB : (gcx X s H scope cenv fp).Ok := by
    refine ⟨I.ok.mod, by show cenv.scope.kind = _; rw [hsc]; exact ok.kind, by show cenv.globals = _; rw [← hcenv]; exact I.ok.glob, by show cenv.builtins = _; rw [← hcenv], by show s.heap.objs.size ≤ cenv.locals; rw [hL]; exact Nat.le_refl _,
      fun y z c e1 e2 => ?_, fun y hy => ?_, fun y c z e => ?_, fun hc => I.ok.hd hc, ?_, .inr ⟨rfl, by show cenv.frame = some cenv.locals; rw [← hcenv]⟩, fun b hb => ⟨?_, fun y c e z => ?_⟩, I.bs, Nat.le_trans I.ok.bsz I.sz, fun b o e hb => ?_, fun b hb z => ?_, I.stack, I.stkFree⟩
    · have e1 : cenv.cells.lookup y = some c := e1
      have e2 : cenv.cells.lookup z = some c := e2
      rw [hcl] at e1 e2
      refine cells_inj (fun p hp => ?_) (fun y z c a b => I.ok.inj y z c (cm a).1 (cm b).1) (PySem.mem_of_lookup e1) (PySem.mem_of_lookup e2)
      rw [Heap.size_push]
      exact Nat.lt_succ_of_lt (cm (y := p.1) (c := p.2) hp).2
    · show ∃ c, cenv.cells.lookup y = some c
      have key : ∀ k, cenv.kindOf y = some k → (k = .cell ∨ k = .free) → ∃ c, cenv.cells.lookup y = some c := fun k hk hk' => by
        unfold Env.kindOf at hk
        rw [hsc] at hk
        rcases hk' with rfl | rfl
        · obtain ⟨c, hm⟩ := cells_has (n := (s.heap.push { cls := .type "frame", data := .dict #[] }).objs.size) (acc := cloFrom X.env.cells scope.names []) (PySem.mem_of_lookup hk)
          obtain ⟨c', e'⟩ := mem_lookup hm
          exact ⟨c', by rw [hcl]; exact e'⟩
        · obtain ⟨c, h1, _⟩ := look hk
          exact ⟨c, h1⟩
      rcases hy with hy | hy
      · exact key _ hy (.inl rfl)
      · exact key _ hy (.inr rfl)
    · have z : (scope.names.lookup y == some NameKind.cell) = true := z
      have z : scope.names.lookup y = some .cell := by simpa using z
      have e : cenv.cells.lookup y = some c := e
      rw [hcl] at e
      rcases cells_mem (PySem.mem_of_lookup e) with hm | ⟨_, h2, _⟩
      · rcases cloFrom_mem hm with hm | ⟨h1, _⟩
        · cases hm
        · have q := ok.uniq _ h1
          rw [z] at q; cases q
      · rw [Heap.size_push] at h2
        exact Nat.le_of_succ_le h2
    · exact Around.frames_deeper I.ok.frames
    · show b ≠ cenv.locals
      rw [hL]; exact Nat.ne_of_lt (hfp b hb).2
    · have e : cenv.cells.lookup y = some c := e
      rcases mem e with ⟨h1, _⟩ | ⟨h1, _⟩
      · exact (hfp b hb).1.2.2.2.2.1 y c h1 z
      · have h2 : s.heap.objs.size + 1 ≤ b := by rw [← z]; exact h1
        exact absurd (Nat.lt_of_lt_of_le (hfp b hb).2 (Nat.le_of_succ_le h2)) (Nat.lt_irrefl _)
    · rcases (hfp b hb).1.2.2.2.1 with z | z
      · exact I.ok.noex b o e z
      · exact absurd (Nat.lt_of_lt_of_le (Heap.lt_size e) (Nat.le_trans I.ok.bsz z)) (Nat.lt_irrefl _)
    · rcases List.mem_cons.mp (I.stkSub b z) with z | z
      · exact (hfp b hb).1.2.1 z
      · exact (hfp b hb).1.2.2.1 z
  have cellK : ∀ {c : Addr}, s.heap.objs.size + 1 ≤ c → CellAt (mpFrame s.heap scope) c none → CellAt (h'.push og) c none := fun {c} h1 ⟨o, e, d⟩ => ⟨o, Heap.get?_push_of_some _ (hs'.extBut c o (Nat.ne_of_gt h1) e), d⟩
  refine ⟨okB, rfl, hg, Un.kept kp, ⟨m, ?_, fun i y av e1 e2 e3 => ?_⟩, fun y c e => ?_, ?_, fun y c e => ?_, fun p hp => ?_, I.hok.kept kp, by rw [wipe_length]; exact I.len⟩
  · show Heap.Ns _ cenv.locals _
    rw [hL]
    exact hn'.push og
  · obtain ⟨e2, hne⟩ := wipe_some e2
    have hfr : scope.names.lookup y = some .free ∧ cenv.kindOf y = some .free := by
      have key : ∀ k, scope.names.lookup y = some k → k = .local ∨ k = .cell ∨ k = .free → scope.names.lookup y = some .free ∧ cenv.kindOf y = some .free := fun k hk hk' => by
        have no : ¬ (k = .local ∨ k = .cell) := fun hh => by
          rcases ok.own _ (PySem.mem_of_lookup hk) hh with e' | e'
          · obtain ⟨p, hp, hpy⟩ := List.mem_map.mp e'
            have e3 := ok.ix p hp
            have : p.1 = y := hpy
            rw [this] at e3
            exact hne (List.mem_map.mpr ⟨p, hp, nodup_ix hN e3 e1⟩)
          · exact e' (List.mem_of_getElem? e1)
        rcases hk' with rfl | rfl | rfl
        · exact absurd (.inl rfl) no
        · exact absurd (.inr rfl) no
        · exact ⟨hk, by unfold Env.kindOf; rw [hsc]; exact hk⟩
      have e3 : Vis cenv.scope y := e3
      rw [hsc] at e3
      rcases e3 with e3 | e3 | e3
      · exact key _ e3 (.inl rfl)
      · exact key _ e3 (.inr (.inl rfl))
      · exact key _ e3 (.inr (.inr rfl))
    obtain ⟨m, hn, hl⟩ := I.loc
    have hvis : Vis X.env.scope y := (ok.free _ (PySem.mem_of_lookup hfr.1) rfl).elim (fun k => .inr (.inl k)) (fun k => .inr (.inr k))
    obtain ⟨w, r, q⟩ := hl i y av e1 e2 hvis
    refine ⟨w, r, .inr ⟨.inr hfr.2, ?_⟩⟩
    obtain ⟨c, h1, h2⟩ := look hfr.1
    rcases q with ⟨k, _⟩ | ⟨_, c', e', z⟩
    · have k : X.env.scope.names.lookup y = some .local := k
      rcases ok.free _ (PySem.mem_of_lookup hfr.1) rfl with k' | k' <;> rw [show X.env.scope.names.lookup y = _ from k'] at k <;> cases k
    · rw [h2] at e'; cases e'
      exact ⟨c, h1, z.keeps kp⟩
  · have e : cenv.cells.lookup y = some c := e
    rcases mem e with ⟨h1, _⟩ | ⟨h1, z⟩
    · obtain ⟨w, z⟩ := I.cell y c h1
      exact ⟨w, z.keeps kp⟩
    · exact ⟨_, cellK h1 z⟩
  · show H cenv.locals = none
    rw [hL]; exact I.hok.fresh (Nat.le_refl _)
  · have e : cenv.cells.lookup y = some c := e
    rcases mem e with ⟨h1, _⟩ | ⟨h1, _⟩
    · exact I.freeC y c h1
    · exact I.hok.fresh (Nat.le_of_succ_le h1)
  · have e : p = (h'.objs.size, og) := by simpa using (show p ∈ ([] : List (Addr × Obj)) ++ [(h'.objs.size, og)] from hp)
    subst e
    refine ⟨Heap.get?_push_size _ hog, I.hok.fresh (Nat.le_of_lt hsz), ?_, fun z => ?_, hoc⟩
    · show h'.objs.size ≠ cenv.locals
      rw [hL]
      exact Nat.ne_of_gt hsz
    · obtain ⟨_, o, ho, _⟩ := I.stack.mem z
      exact absurd (Nat.lt_trans (Heap.lt_size ho) hsz) (Nat.lt_irrefl _)
end
end Mp
set_option maxHeartbeats 200000
/-! Mp.Gen2: worlds with one table more; states of one heap; walks of any, all. -/
namespace Mp
open PySem PySem.Spec PyProof.Rows L2
/-! ### another table -/
abbrev Wd.add (G : Wd) (P c : Addr) : Wd := { G with T := (P, .dyn c) :: G.T }
section
variable {G G' : Wd} {Z Z' H H' : Hp} {A A' : List Addr} {S S' : Store}
mutual
theorem Rp.gw0 (hK : G'.K = G.K) (hm : G'.mg = G.mg ∧ G'.w = G.w) : ∀ {d : D} {v : V}, Rp G Z A v d → Rp G' Z A v d
  | _, _, .non => .non
  | _, _, .bl b => .bl b
  | _, _, .int i => .int i
  | _, _, .str s => .str s
  | _, _, .lst h1 h2 => .lst h1 (RpAll.gw0 hK hm h2)
  | _, _, .tup h1 h2 => .tup (by rw [hK]; exact h1) (RpAll.gw0 hK hm h2)
  | _, _, .obj h1 => .obj h1
  | _, _, .fn h1 => .fn (by rw [hm.1]; exact h1)
  | _, _, .edc h1 => .edc h1
  | _, _, .dct h1 hf h2 => .dct (by rw [hm.2]; exact h1) hf (by rw [hK]; exact h2)
  | _, _, .ktu h1 h2 h3 => .ktu h1 h2 (RpAll.gw0 hK hm h3)
  | _, _, .scr h1 => .scr (by rw [hK]; exact h1)
theorem RpAll.gw0 (hK : G'.K = G.K) (hm : G'.mg = G.mg ∧ G'.w = G.w) : ∀ {ds : List D} {vs : List V}, RpAll G Z A vs ds → RpAll G' Z A vs ds
  | _, _, .nil => .nil
  | _, _, .cons h1 h2 => .cons (Rp.gw0 hK hm h1) (RpAll.gw0 hK hm h2)
end
theorem Rp.gw (hK : G'.K = G.K) (hm : G'.mg = G.mg ∧ G'.w = G.w) (d : D) (v : V) (h : Rp G Z A v d) : Rp G' Z A v d := Rp.gw0 hK hm h
theorem RpAll.gw (hK : G'.K = G.K) (hm : G'.mg = G.mg ∧ G'.w = G.w) (ds : List D) (vs : List V) (h : RpAll G Z A vs ds) : RpAll G' Z A vs ds := RpAll.gw0 hK hm h
theorem FieldsR.gw (hK : G'.K = G.K) (hm : G'.mg = G.mg ∧ G'.w = G.w) : ∀ {gs : List (Str × V)} {fs : List (Str × D)}, FieldsR G Z A gs fs → FieldsR G' Z A gs fs
  | [], [], _ => trivial
  | (f, v) :: r, (g, d) :: q, h => ⟨h.1, Rp.gw hK hm _ _ h.2.1, FieldsR.gw hK hm h.2.2⟩
  | [], _ :: _, h => h.elim
  | _ :: _, [], h => h.elim
theorem MOk.gw (hK : G'.K = G.K) (hm : G'.mg = G.mg ∧ G'.w = G.w) {a : Addr} {m : M} (h : MOk G Z A H a m) : MOk G' Z A H a m := by
  cases m with
  | lst ds =>
    obtain ⟨z, vs, h, k⟩ := h
    exact ⟨z, vs, h, RpAll.gw hK hm _ _ k⟩
  | ins c fs =>
    obtain ⟨z, C, dx, gs, h, k1, k2⟩ := h
    exact ⟨z, C, dx, gs, h, by rw [hm.1]; exact k1, FieldsR.gw hK hm k2⟩
  | dead => exact h
theorem Rel.gw (hK : G'.K = G.K) (hm : G'.mg = G.mg ∧ G'.w = G.w) (r : Rel G Z A S H) (t : TabsK G'.T H) : Rel G' Z A S H :=
  ⟨r.sub, r.len, r.nd, fun l a m h1 h2 => (r.at_ l a m h1 h2).gw hK hm, t, r.zt⟩
theorem EnvR.gw (hK : G'.K = G.K) (hm : G'.mg = G.mg ∧ G'.w = G.w) {env : EnvD} {σ : L2.St} (e : EnvR G Z A env σ) : EnvR G' Z A env σ := ⟨e.len, fun i d h => by
  obtain ⟨v, h1, h2⟩ := e.at_ i d h
  exact ⟨v, h1, Rp.gw hK hm _ _ h2⟩⟩
/-- G' is G with some tables of generator expressions more -/
def Sup (G G' : Wd) : Prop := ∃ L : List (Addr × Addr), G' = { G with T := L.map (fun p => (p.1, TK.dyn p.2)) ++ G.T }
theorem Sup.refl : Sup G G := ⟨[], rfl⟩
theorem Sup.one (P c : Addr) : Sup G (G.add P c) := ⟨[(P, c)], rfl⟩
theorem Sup.trans {G1 G2 G3 : Wd} (h : Sup G1 G2) (k : Sup G2 G3) : Sup G1 G3 := by
  obtain ⟨L, rfl⟩ := h
  obtain ⟨M, rfl⟩ := k
  exact ⟨M ++ L, by simp⟩
theorem Sup.K (h : Sup G G') : G'.K = G.K := by obtain ⟨L, rfl⟩ := h; rfl
theorem Sup.mg (h : Sup G G') : G'.mg = G.mg := by obtain ⟨L, rfl⟩ := h; rfl
theorem Sup.w (h : Sup G G') : G'.w = G.w := by obtain ⟨L, rfl⟩ := h; rfl
theorem Sup.mw (h : Sup G G') : G'.mg = G.mg ∧ G'.w = G.w := ⟨h.mg, h.w⟩
theorem Sup.mw' (h : Sup G G') : G.mg = G'.mg ∧ G.w = G'.w := ⟨h.mg.symm, h.w.symm⟩
theorem Sup.down (h : Sup G G') (r : Rel G' Z A S H) : Rel G Z A S H := by
  obtain ⟨L, rfl⟩ := h
  exact Rel.gw (G := { G with T := L.map (fun p => (p.1, TK.dyn p.2)) ++ G.T }) (G' := G) rfl ⟨rfl, rfl⟩ r fun p hp => r.tabs p (List.mem_append_right _ hp)
/-- later, again with the tables -/
theorem Sup.up (h : Sup G G') (r : Rel G' Z A S H) (f : Fut H Z A H' Z' A') (r' : Rel G Z' A' S' H') : Rel G' Z' A' S' H' := by
  obtain ⟨L, rfl⟩ := h
  refine Rel.gw (G := G) (G' := { G with T := L.map (fun p => (p.1, TK.dyn p.2)) ++ G.T }) rfl ⟨rfl, rfl⟩ r' fun p hp => ?_
  rcases List.mem_append.mp hp with e | hp
  · obtain ⟨q, hq, rfl⟩ := List.mem_map.mp e
    obtain ⟨P, c⟩ := q
    obtain ⟨h1, h2⟩ := r.tabs (P, .dyn c) (List.mem_append_left _ (List.mem_map_of_mem (f := fun p : Addr × Addr => (p.1, TK.dyn p.2)) hq))
    refine ⟨f.fr c _ h1 (fun m => ?_) (fun ps z => by cases z), f.tb P h2⟩
    obtain ⟨l, hl, e⟩ := List.getElem_of_mem m
    have q1 : A[l]? = some c := by rw [List.getElem?_eq_getElem hl, e]
    have q2 : l < S.length := by rw [← r.len]; exact hl
    have q := r.at_ l c S[l] q1 (List.getElem?_eq_getElem q2)
    have h1 : H c = some (CodeX c P) := h1
    unfold CodeX at h1
    cases hm : S[l] with
    | lst ds =>
      rw [hm] at q
      obtain ⟨z, vs, h, _⟩ := q
      rw [h1] at h; cases h
    | ins c' fs =>
      rw [hm] at q
      obtain ⟨z, C, dx, gs, h, _⟩ := q
      rw [h1] at h; cases h
    | dead =>
      rw [hm] at q
      obtain ⟨vs, h⟩ := q
      rw [h1] at h; cases h
  · exact r'.tabs p hp
theorem Wk.up (h : Sup G G') {J : L2.It} {v : Itv} (wk : Wk G J v Z A) : Wk G' J v Z A := by
  intro Z1 A1 S1 H1 i R le
  have w := wk Z1 A1 S1 H1 i (h.down R) le
  revert w
  cases nxt v i S1 with
  | none => exact fun w => w
  | some o =>
    cases o with
    | none => exact fun w => w
    | some d =>
      intro ⟨w1, w2⟩
      refine ⟨w1, fun x H' y => ?_⟩
      obtain ⟨Z', R', f, r⟩ := w2 x H' y
      exact ⟨Z', h.up R f R', f, Rp.gw h.K h.mw _ _ r⟩
end
/-! ### one heap -/
theorem inv_same {X : Cx} {pins : List (Addr × Obj)} {σ : L2.St} {H : Hp} {s s' : Shared} (I : Inv X pins σ H s) (h1 : s'.heap = s.heap) (h2 : s'.os = s.os) (h3 : AllBare s'.gens) : Inv X pins σ H s' :=
  ⟨I.ok, h2.trans I.os, h3, by rw [h1]; exact I.base, by rw [h1]; exact I.loc, by rw [h1]; exact I.cell, I.free, I.freeC, by rw [h1]; exact I.pin, by rw [h1]; exact I.hok, I.len⟩
/-- out of the generator's frame -/
theorem gen_out {X : Cx} {pins pins' : List (Addr × Obj)} {σ σ' : L2.St} {H H' : Hp} {s s' : Shared} {scope : Scope} {cenv : Env} {fp : List Addr} (I : Inv X pins σ H s) (f : ∀ b ∈ fp, FpOk X pins H b) (J : Inv (gcx X s H scope cenv fp) pins' σ' H' s') : Inv X pins σ H' s' :=
  I.call' (ch := fp) J.os J.base J.hok J.bare fun b hb => ⟨(f b hb).2.2.2.1, (f b hb).2.1, (f b hb).2.2.2.2.1, (f b hb).2.2.2.2.2⟩
/-! ### any, all -/
def anyW (nx : Nat → Store → Option (Option D)) (turn : D → Store → R Bool) : Nat → Nat → Store → R Bool
  | 0, _, _ => .bad
  | f + 1, i, S => match nx i S with
    | none => .bad
    | some none => .ok false S
    | some (some d) => (turn d S).bind fun b S1 => if b then .ok true S1 else anyW nx turn f (i + 1) S1
theorem anyObj_W (l : Nat) (turn : D → Store → R Bool) : ∀ (f i : Nat) (S : Store), anyObj l turn f i S = anyW (nxt (.obj l)) turn f i S
  | 0, _, _ => rfl
  | f + 1, i, S => by
    have ih := fun S => anyObj_W l turn f (i + 1) S
    show (match S[l]? with
      | some (.lst ds) => _
      | _ => _) = match (match S[l]? with
        | some (.lst ds) => some ds[i]?
        | _ => none) with
      | none => _
      | some none => _
      | some (some d) => _
    cases S[l]? with
    | none => rfl
    | some m =>
      cases m with
      | lst ds =>
        show (match ds[i]? with
          | none => _
          | some d => _) = match some ds[i]? with
          | none => _
          | some none => _
          | some (some d) => _
        cases ds[i]? with
        | none => rfl
        | some d =>
          show (turn d S).bind _ = (turn d S).bind _
          congr 1
          funext x S1
          rw [ih]
      | ins c fs => rfl
      | dead => rfl
theorem anyItems_W (ds : List D) (turn : D → Store → R Bool) : ∀ (es : List D) (i : Nat) (S : Store), ds.drop i = es → anyItems turn es S = anyW (nxt (.items ds)) turn (es.length + 1) i S
  | [], i, S, h => by
    show _ = match some ds[i]? with
      | none => _
      | some none => _
      | some (some d) => _
    rw [drop_get h]
    rfl
  | d :: es, i, S, h => by
    have ih := fun S => anyItems_W ds turn es (i + 1) S (drop_tail h)
    show _ = match some ds[i]? with
      | none => _
      | some none => _
      | some (some d) => _
    rw [drop_get h]
    show (turn d S).bind _ = (turn d S).bind _
    congr 1
    funext x S1
    rw [ih]
    rfl
theorem anyItv_W (turn : D → Store → R Bool) (v : Itv) (S : Store) : ∃ f, anyItv turn v S = anyW (nxt v) turn f 0 S := by
  cases v with
  | items ds => exact ⟨_, anyItems_W ds turn ds 0 S rfl⟩
  | obj l =>
    show ∃ f, (match S[l]? with
      | some (.lst ds) => anyObj l turn (ds.length + 1) 0 S
      | _ => .bad) = _
    cases S[l]? with
    | none => exact ⟨0, rfl⟩
    | some m =>
      cases m with
      | lst ds => exact ⟨_, anyObj_W l turn _ 0 S⟩
      | ins c fs => exact ⟨0, rfl⟩
      | dead => exact ⟨0, rfl⟩
/-- a turn: the store, the clause's test, the element's truth -/
def aturnF (all : Bool) (t : Tg) (own : List Nat) (ft : FT) (fe : FE) (env : EnvD) : D → Store → R Bool := fun d S => (opt (asg t d (wipe env own)) S).bind fun en S => (ft en S).bind fun b S => if b then (fe en S).bind fun x S => opt ((boolD x).map fun t => t != all) S else .ok false S
def genF (all : Bool) (own : List Nat) (t : Tg) (fi : FI) (ft : FT) (fe : FE) : FE := fun env S => (fi env S).bind fun v S1 => (noX (anyItv (aturnF all t own ft fe env) v S1)).bind fun b S2 => .ok (.bool (b != all)) S2
end Mp
set_option maxHeartbeats 200000
/-! Mp.Gen3: the generator's turns, any and all over it. -/
namespace Mp
open PySem PySem.Spec PyProof.Rows L2
/-- between two turns -/
def Later (s s' : Shared) : Prop := s'.heap = s.heap ∧ s'.os = s.os ∧ AllBare s'.gens
/-- what holds when the generator gives a value -/
def genY (G' : Wd) (X' : Cx) (a : Addr) (og : Obj) (Hr Zr : Hp) (Ar : List Addr) (all : Bool) (K : Bool → Store → Prop) : Protocol := fun _ _ v s kap =>
  ∃ Z A S H t σ' pins', Rel G' Z A S H ∧ Fut Hr Zr Ar H Z A ∧ Inv X' pins' σ' H s ∧ s.heap.get? a = some og ∧ v = .bool t ∧ if (t != all) = true then K true S else ∀ s'', Later s s'' → kap (.send .none) s''
/-- .. and when it ends -/
def genE (G' : Wd) (X' : Cx) (Hr Zr : Hp) (Ar : List Addr) (K : Bool → Store → Prop) : Shared → Prop := fun s =>
  ∃ Z A S H pins' σ', Rel G' Z A S H ∧ Fut Hr Zr Ar H Z A ∧ Inv X' pins' σ' H s ∧ K false S
abbrev genR (P : Shared → Prop) : GenEnd := fun _ _ r s => r = .ok .next ∧ P s
theorem over_eq {A A' : Around} {c : Code} {R : GenEnd} {Y : Protocol} {M : Model} {n : Nat} {s₀ s : Shared} {α β : Type} {m : Sem α} {K : α → Sem β} {K' : β → Sem PySem.Fin} {H' : Value → Sem PySem.Fin} {gd lv} (e : A.over c [] = A')
    (h : wpAny M A' m (fun a s' => Seg M A R Y n s₀ c ((K a).wrap K' H' gd lv) [] s') (fun _ _ => False) s) : Seg M A R Y n s₀ c ((m >>= K).wrap K' H' gd lv) [] s := by
  subst e
  exact seg_bind_wrap (wpAny_mono h (fun _ _ q => q) fun _ _ q => q.elim)
section
variable {G' : Wd} {P : Program} {w : World} {X X' : Cx} {a : Addr} {og : Obj} {Hr Zr : Hp} {Ar : List Addr} {all : Bool} {K : Bool → Store → Prop} {σw : L2.St} {vs : List Nat} {env : EnvD}
  {elt tg iter : Expr} {ifs : List Expr} {scope : Scope} {gpos : Pos} {t : Tg} {ft : FT} {fe : FE} {J : L2.It} {v : Itv} {fp : List Addr} {it : Addr} {tn : Nat → Heap → Prop} {cenv : Env} {A1 : Around}
/-- the turns of a generator expression of one clause -/
theorem seg_one (hK : X'.K = G'.K) (hprog : X'.prog = P) (hw : X'.w = w) (hcalm : X'.calm = true) (hxe : X'.xe = fun _ _ => False) (hpn : X'.pn = []) (henv : X'.env = cenv) (hex : X'.ex = fp) (hco : cenv.scope.isCoroutine = false)
    (hA : ∀ i, A1.over (.compLoop (.GeneratorExp elt [⟨tg, iter, ifs, 0⟩] scope gpos) 0 i .none cenv) [] = X'.A)
    (T : Turn P w X'.K tg J fp it tn) (stat : ∀ (H : Hp) (pins : List (Addr × Obj)) (σ : L2.St) (s : Shared), Inv X' pins σ H s → (∀ p ∈ pins, p.1 ∉ fp) → (∀ b ∈ fp, H b = none) → ∀ b ∈ fp, FpOk X' pins H b) (hafp : a ∉ fp)
    (wk : Wk G' J v Zr Ar) (hE : EnvR G' Zr Ar (Mp.wipe env vs) σw) (hσ : L2.wipe σw vs = σw) (hown : ∀ i ∈ slots t, i ∈ vs)
    (hg : PG X' tg (gT G' t)) (ht : PTs X' ifs (tT G' ft noW)) (he : PE X' elt (tD G' fe noW)) :
    ∀ (m i : Nat) (S : Store), PostR (anyW (nxt v) (aturnF all t vs ft fe env) m i S) K (fun _ _ => False) → ∃ n, ∀ (Z : Hp) (A : List Addr) (H : Hp) (s₀ s : Shared), Rel G' Z A S H → Fut Hr Zr Ar H Z A → Inv X' [(a, og)] σw H s → tn i s.heap → (∀ b ∈ fp, H b = none) →
      Seg (model P w) A1 (genR (genE G' X' Hr Zr Ar K)) (genY G' X' a og Hr Zr Ar all K) n s₀ (.compLoop (.GeneratorExp elt [⟨tg, iter, ifs, 0⟩] scope gpos) 0 (.ref it) .none cenv)
        ((model P w).den (.compLoop (.GeneratorExp elt [⟨tg, iter, ifs, 0⟩] scope gpos) 0 (.ref it) .none cenv)) [] s := by
  subst hprog hw
  intro m
  induction m with
  | zero => intro i S hP; exact hP.elim
  | succ m ih =>
    intro i S hP
    unfold anyW at hP
    have aone : ∀ p ∈ [(a, og)], p.1 ∉ fp := fun p hp => by
      have e : p = (a, og) := by simpa using hp
      rw [e]
      exact hafp
    cases hn : nxt v i S with
    | none =>
      rw [hn] at hP
      exact hP.elim
    | some o =>
      rw [hn] at hP
      cases o with
      | none =>
        refine ⟨0, fun Z A H s₀ s hR hF I st n0 => ?_⟩
        have stop : J.stop i H := by
          have w2 := wk Z A S H i hR hF.le
          rw [hn] at w2
          exact w2
        show Seg _ A1 _ _ _ s₀ _ ((compTurn _ 0 (.ref it) .none cenv).onRaise (leaving cenv)) [] s
        rw [compTurn_gen, Sem.onRaise_eq_wrap]
        refine over_eq (hA _) (wpAny_standAt ?_)
        refine over_eq (hA _) (wpAny_mono (T.done X' rfl rfl rfl hcalm i _ s σw H (fun _ _ => False) I (stat _ _ _ _ I aone n0) st stop) (fun r s1 ⟨hr, I1⟩ => ?_) fun _ _ e => e)
        subst hr
        exact seg_end (.ok .next) ⟨rfl, Z, A, S, H, _, _, hR, hF, I1, hP⟩
      | some d =>
        have hP := PostR.bind (PostR.bind (show PostR ((aturnF all t vs ft fe env d S).bind _) _ _ from hP))
        obtain ⟨en, hen, hP⟩ := hP.opt
        have hP := PostR.bind hP
        -- what the data say
        cases hft : ft en S with
        | bad => rw [hft] at hP; exact hP.elim
        | exc x S2 => rw [hft] at hP; exact hP.elim
        | ok b S2 =>
          rw [hft] at hP
          -- up to the test
          have open_ : ∀ (n : Nat), (∀ (Z : Hp) (A : List Addr) (H : Hp) (s₀ s : Shared) (σ2 : L2.St) (pins : List (Addr × Obj)), Rel G' Z A S2 H → Fut Hr Zr Ar H Z A → EnvR G' Z A en σ2 → L2.wipe σ2 vs = σw → Inv X' pins σ2 H s → s.heap.get? a = some og → tn (i + 1) s.heap → (∀ b ∈ fp, H b = none) →
                (∀ b ∈ fp, ∀ o, s.heap.get? b = some o → (b, o) ∈ pins) → ((a, og) ∈ pins) →
                Seg (model X'.prog X'.w) A1 (genR (genE G' X' Hr Zr Ar K)) (genY G' X' a og Hr Zr Ar all K) n s₀ (.compLoop (.GeneratorExp elt [⟨tg, iter, ifs, 0⟩] scope gpos) 0 (.ref it) .none cenv)
                  ((if b = true then ((do let v ← eval elt cenv; standAt elt.pos; let _ ← yieldOut cenv v; pure ()) >>= fun _ => again (.compLoop (.GeneratorExp elt [⟨tg, iter, ifs, 0⟩] scope gpos) 0 (.ref it) .none cenv)) else again (.compLoop (.GeneratorExp elt [⟨tg, iter, ifs, 0⟩] scope gpos) 0 (.ref it) .none cenv)).wrap Sem.pure (fun e => (leaving cenv e).bind fun _ => .raise e) id id) [] s) →
              ∀ (Z : Hp) (A : List Addr) (H : Hp) (s₀ s : Shared), Rel G' Z A S H → Fut Hr Zr Ar H Z A → Inv X' [(a, og)] σw H s → tn i s.heap → (∀ b ∈ fp, H b = none) →
              Seg (model X'.prog X'.w) A1 (genR (genE G' X' Hr Zr Ar K)) (genY G' X' a og Hr Zr Ar all K) n s₀ (.compLoop (.GeneratorExp elt [⟨tg, iter, ifs, 0⟩] scope gpos) 0 (.ref it) .none cenv)
                ((model X'.prog X'.w).den (.compLoop (.GeneratorExp elt [⟨tg, iter, ifs, 0⟩] scope gpos) 0 (.ref it) .none cenv)) [] s := by
            intro n hrest Z A H s₀ s hR hF I st n0
            have w2 := wk Z A S H i hR hF.le
            rw [hn] at w2
            obtain ⟨go, yl⟩ := w2
            show Seg _ A1 _ _ _ s₀ _ ((compTurn _ 0 (.ref it) .none cenv).onRaise (leaving cenv)) [] s
            rw [compTurn_gen, Sem.onRaise_eq_wrap]
            refine over_eq (hA _) (wpAny_standAt ?_)
            refine over_eq (hA _) (wpAny_mono (T.item X' rfl rfl rfl hcalm i _ s σw H (fun _ _ => False) I (stat _ _ _ _ I aone n0) st go) (fun r s1 ⟨u, hr, h6⟩ => ?_) fun _ _ e => e)
            subst hr
            refine over_eq (hA _) (wpAny_mono h6 (fun _ s2 ⟨x, H2, I2, rx, y2, st2, n2⟩ => ?_) fun _ _ e => e)
            obtain ⟨Z2, R2, f2, rp2⟩ := yl x H2 y2
            have I2' := I2.pinned (stat _ _ _ _ I2 aone n2) (T.obj _ _ st2)
            have E2 := hE.mono (hF.trans f2).le
            have hg2 := hg.run _ s2 σw H2 x u (fun σ2 H3 => H3 = H2 ∧ EnvR G' Z2 A en σ2 ∧ L2.wipe σ2 vs = σw) I2' rx ⟨Z2, A, S, Mp.wipe env vs, d, en, R2, E2, rp2, hen, fun σ2 E3 o2 => ⟨rfl, E3, by rw [o2 _ hown, hσ]⟩⟩
            rw [henv, hxe] at hg2
            refine over_eq (hA _) (wpAny_mono hg2 (fun _ s3 ⟨σ3, H3, I3, eH, E3, w3⟩ => ?_) fun _ _ e => e)
            subst eH
            have pin3 : ∀ b ∈ fp, ∀ o, s2.heap.get? b = some o → (b, o) ∈ [(a, og)] ++ pinsAt fp s2.heap := fun b hb o e => List.mem_append_right _ (mem_pinsAt hb e)
            have ht3 := ht.run _ s3 σ3 H3 (fun b' H4 => ∃ Z4 A4, b' = b ∧ Fut H3 Z2 A H4 Z4 A4 ∧ Rel G' Z4 A4 S2 H4) I3 ⟨Z2, A, en, S, R2, E3, by rw [hft]; exact fun H4 Z4 A4 f4 R4 => ⟨Z4, A4, rfl, f4, R4⟩⟩
            rw [henv, hxe] at ht3
            refine over_eq (hA _) (wpAny_mono ht3 (fun b' s4 ⟨H4, I4, Z4, A4, eb, f4, R4⟩ => ?_) fun _ _ e => e)
            subst eb
            have keep4 : ∀ b ∈ fp, ∀ o, s2.heap.get? b = some o → s4.heap.get? b = some o ∧ H4 b = none := fun b hb o e =>
              let z := I4.pin (b, o) (List.mem_append_right _ (pin3 b hb o e))
              ⟨z.1, z.2.1⟩
            refine hrest Z4 A4 H4 s₀ s4 σ3 _ R4 ((hF.trans f2).trans f4) (E3.mono f4.le) w3 I4 ?_ (T.keep _ _ _ st2 fun b hb o e => (keep4 b hb o e).1) (fun b hb => ?_) (fun b hb o e => ?_) (List.mem_append_left _ (by simp))
            · exact (I4.pin (a, og) (List.mem_append_right _ (List.mem_append_left _ (by simp)))).1
            · obtain ⟨o, e, _⟩ := T.obj _ _ st2 b hb
              exact (keep4 b hb o e).2
            · obtain ⟨o', e', _⟩ := T.obj _ _ st2 b hb
              have := (keep4 b hb o' e').1
              rw [e] at this
              cases this
              exact pin3 b hb o e'
          -- back at the loop's head
          have back : ∀ {H : Hp} {s : Shared} {σ2 : L2.St} {pins : List (Addr × Obj)}, L2.wipe σ2 vs = σw → Inv X' pins σ2 H s → (a, og) ∈ pins → Inv X' [(a, og)] σw H s := fun {H s σ2 pins} hw2 I ha => by
            have hl : σw.length = σ2.length := by rw [← hw2, wipe_length]
            refine (I.pins_of (pins' := [(a, og)]) fun p hp => ?_).weak hl fun j x e => ?_
            · have e : p = (a, og) := by simpa using hp
              subst e
              exact I.pin (a, og) (List.mem_append_right _ ha)
            · rw [← hw2] at e
              exact (wipe_some e).1
          cases b with
          | false =>
            obtain ⟨n, hn2⟩ := ih (i + 1) S2 hP
            refine ⟨n, open_ n fun Z A H s₀ s σ2 pins hR hF hE2 hw2 I ha st n0 hpf hpa => ?_⟩
            exact seg_again rfl (hn2 Z A H s₀ s hR hF (back hw2 I hpa) st n0)
          | true =>
            have hP := PostR.bind (show PostR ((fe en S2).bind fun x S => opt ((boolD x).map fun t => t != all) S) _ _ from hP)
            cases hfe : fe en S2 with
            | bad => rw [hfe] at hP; exact hP.elim
            | exc x S3 => rw [hfe] at hP; exact hP.elim
            | ok x S3 =>
              rw [hfe] at hP
              obtain ⟨r, hr, hP⟩ := PostR.opt hP
              obtain ⟨tt, htt, rfl⟩ := Option.map_eq_some_iff.mp hr
              have hy : ∀ v, yieldOut cenv v = yieldValue v := fun v => by simp only [yieldOut, hco, Bool.false_eq_true, if_false]
              -- at the yield
              have yield_ : ∀ (n : Nat), (if (tt != all) = true then K true S3 else ∀ (Z : Hp) (A : List Addr) (H : Hp) (s₀ s : Shared), Rel G' Z A S3 H → Fut Hr Zr Ar H Z A → Inv X' [(a, og)] σw H s → tn (i + 1) s.heap → (∀ b ∈ fp, H b = none) →
                    Seg (model X'.prog X'.w) A1 (genR (genE G' X' Hr Zr Ar K)) (genY G' X' a og Hr Zr Ar all K) n s₀ (.compLoop (.GeneratorExp elt [⟨tg, iter, ifs, 0⟩] scope gpos) 0 (.ref it) .none cenv)
                      ((model X'.prog X'.w).den (.compLoop (.GeneratorExp elt [⟨tg, iter, ifs, 0⟩] scope gpos) 0 (.ref it) .none cenv)) [] s) →
                  ∃ n, ∀ (Z : Hp) (A : List Addr) (H : Hp) (s₀ s : Shared), Rel G' Z A S H → Fut Hr Zr Ar H Z A → Inv X' [(a, og)] σw H s → tn i s.heap → (∀ b ∈ fp, H b = none) →
                    Seg (model X'.prog X'.w) A1 (genR (genE G' X' Hr Zr Ar K)) (genY G' X' a og Hr Zr Ar all K) n s₀ (.compLoop (.GeneratorExp elt [⟨tg, iter, ifs, 0⟩] scope gpos) 0 (.ref it) .none cenv)
                      ((model X'.prog X'.w).den (.compLoop (.GeneratorExp elt [⟨tg, iter, ifs, 0⟩] scope gpos) 0 (.ref it) .none cenv)) [] s := by
                intro n hk
                refine ⟨n + 1, open_ (n + 1) fun Z A H s₀ s σ2 pins hR hF hE2 hw2 I ha st n0 hpf hpa => ?_⟩
                rw [if_pos rfl]
                simp only [hy]
                have he2 := he.run _ s σ2 H (fun y H5 => ∃ Z5 A5, Fut H Z A H5 Z5 A5 ∧ Rel G' Z5 A5 S3 H5 ∧ Rp G' Z5 A5 y x) I ⟨Z, A, en, S2, hR, hE2, by rw [hfe]; exact fun y H5 Z5 A5 f5 R5 r5 => ⟨Z5, A5, f5, R5, r5⟩⟩
                rw [henv, hxe] at he2
                rw [Sem.bind_eq_wrap', Sem.bind_eq_wrap', Sem.wrap_wrap, Sem.wrap_wrap]
                refine seg_wrap ?_
                rw [hA]
                refine wpAny_mono he2 (fun u s5 ⟨y, H5, I5, ry, Z5, A5, f5, R5, r5⟩ => ?_) fun _ _ e => e.elim
                have ev : u = .bool tt := by
                  cases x <;> simp [boolD] at htt
                  subst htt
                  cases r5
                  exact ry
                have st5 : tn (i + 1) s5.heap := T.keep _ _ _ st fun b hb o e => (I5.pin (b, o) (List.mem_append_right _ (hpf b hb o e))).1
                have n5 : ∀ b ∈ fp, H5 b = none := fun b hb => by
                  obtain ⟨o, e, _⟩ := T.obj _ _ st b hb
                  exact (I5.pin (b, o) (List.mem_append_right _ (hpf b hb o e))).2.1
                refine seg_at (seg_yield rfl rfl rfl ⟨Z5, A5, S3, H5, tt, σ2, pins, R5, hF.trans f5, I5, (I5.pin (a, og) (List.mem_append_right _ hpa)).1, ev, ?_⟩)
                by_cases hq : (tt != all) = true
                · rw [if_pos hq] at hk ⊢
                  exact hk
                · rw [if_neg hq] at hk ⊢
                  intro s'' hl
                  refine seg_again rfl (hk Z5 A5 H5 s'' s'' R5 (hF.trans f5) (back hw2 (inv_same I5 hl.1 hl.2.1 hl.2.2) hpa) (by rw [hl.1]; exact st5) n5)
              by_cases hq : (tt != all) = true
              · refine yield_ 0 ?_
                rw [if_pos hq]
                rw [hq] at hP
                exact hP
              · have e : (tt != all) = false := by simpa using hq
                rw [e] at hP
                obtain ⟨n, hn2⟩ := ih (i + 1) S3 hP
                refine yield_ n ?_
                rw [if_neg hq]
                exact hn2
end
end Mp
set_option maxHeartbeats 200000
/-! Mp.Gen4: any, all over a generator expression. -/
namespace Mp
open PySem PySem.Spec PyProof.Rows L2 GenW
/-- any's loop, all's -/
abbrev loopId (all : Bool) : String := if all then "all.loop" else "any.loop"
theorem bare_set {gens : Array GenState} {s : Shared} {g : Nat} {x : GenState} (h : AllBare s.gens) (hx : x.bare = true) : AllBare (s.setGen g x).gens := by
  intro y hy
  simp only [Shared.setGen] at hy
  rcases Array.mem_or_eq_of_mem_setIfInBounds hy with hy | hy
  · exact h y hy
  · rw [hy]
    exact hx
theorem bne_t : ∀ {t all : Bool}, (t != all) = true → t = !all := by decide
theorem bne_f : ∀ {t all : Bool}, ¬ (t != all) = true → t = all := by decide
section
variable {G' : Wd} {P : Program} {w : World} {X' : Cx} {a : Addr} {og : Obj} {Hr Zr : Hp} {Ar : List Addr} {all : Bool} {K : Bool → Store → Prop} {A : Around} {g : Nat} {Rr : Result → Shared → Prop}
theorem gen_loop (hh : A.handled = none) (hroom : A.in1.depth < recursionLimit) (lim : ∀ {pins' : List (Addr × Obj)} {σ' : L2.St} {H' : Hp} {s' : Shared}, Inv X' pins' σ' H' s' → s'.heap.NoLimit)
    (hog : og.cls = .type "generator" ∧ ∃ nm qn, og.data = .fields #[.int g 0, nm, qn] ∧ og.slots = #[])
    (fin : ∀ (b : Bool) (Z : Hp) (A : List Addr) (S : Store) (H : Hp) (σ' : L2.St) (pins' : List (Addr × Obj)) (s s' : Shared), Rel G' Z A S H → Fut Hr Zr Ar H Z A → Inv X' pins' σ' H s → s'.os = s.os → AllBare s'.gens → (∀ b o, s.heap.get? b = some o → s'.heap.get? b = some o) → K b S → Rr (.ok (.ret (.bool (b != all)))) s') :
    ∀ (n : Nat) (s : Shared) (gs : GenState), s.gens[g]? = some gs → s.heap.IsGen a g → s.heap.NoLimit → AllBare s.gens →
      (∀ s'', Later s s'' → gs.Goes (model P w) A.in1.in1 (genR (genE G' X' Hr Zr Ar K)) (genY G' X' a og Hr Zr Ar all K) n (.send .none) s'') →
      codeAny (model P w) A (.builtin (loopId all) ⟨[.ref a], []⟩) Rr s := by
  have isg : ∀ {h : Heap}, h.get? a = some og → h.IsGen a g := fun {h} e => by
    obtain ⟨h1, nm, qn, h2, h3⟩ := hog
    exact ⟨og, nm, qn, e, h1, h2, h3⟩
  intro n
  induction n with
  | zero =>
    intro s gs hgs hg hl hb hgo
    have hgl : g < s.gens.size := (Array.getElem?_eq_some_iff.mp hgs).1
    have core : ∀ {Q : Option Value → Shared → Prop} {E : Value → Shared → Prop},
        (∀ (v : Value) (s₁ : Shared) (gs' : GenState), (∃ Z A S H σ' pins', Rel G' Z A S H ∧ Fut Hr Zr Ar H Z A ∧ Inv X' pins' σ' H s₁ ∧ v = .bool (!all) ∧ K true S ∧ AllBare (s₁.setGen g gs').gens) → Q (some v) (s₁.setGen g gs')) →
        (∀ (s₁ : Shared) (h' : Heap), (∃ Z A S H σ' pins', Rel G' Z A S H ∧ Fut Hr Zr Ar H Z A ∧ Inv X' pins' σ' H s₁ ∧ K false S) → (∀ b o, s₁.heap.get? b = some o → h'.get? b = some o) → Q none { s₁.setGen g .finished with heap := h' }) →
        wpAny (model P w) A.in1 (pyNext (.ref a)) Q E s := fun {Q E} q1 q2 => by
      refine wpAny_pyNext_genexpQ (n := 0) (P := fun _ _ s => genE G' X' Hr Zr Ar K s) (Y := genY G' X' a og Hr Zr Ar all K) hh hl hroom hg hgs (hgo _ ⟨rfl, rfl, bare_set (gens := s.gens) hb rfl⟩) (fun v s₁ gs' hbare hv => ?_) (fun s₁ hp h' hk => ?_)
      · obtain ⟨Z, A, S, H, t, σ', pins', hR, hF, I, hog1, ev, hq⟩ := hv
        by_cases ht : (t != all) = true
        · rw [if_pos ht] at hq
          refine q1 v s₁ gs' ⟨Z, A, S, H, σ', pins', hR, hF, I, ?_, hq, bare_set (gens := s.gens) I.bare hbare⟩
          rw [ev, bne_t ht]
        · rw [if_neg ht] at hq
          exact (hq s₁ ⟨rfl, rfl, I.bare⟩).elim
      · obtain ⟨Z, A, S, H, pins', σ', hR, hF, I, hK⟩ := hp
        exact q2 s₁ h' ⟨Z, A, S, H, σ', pins', hR, hF, I, hK⟩ hk
    cases all with
    | false =>
      show codeAny (model P w) A (.builtin "any.loop" ⟨[.ref a], []⟩) Rr s
      refine codeAny_builtin F.entry_any_loop ?_
      rw [Around.under_plainId F.plain_any_loop _]
      show wpAny _ A.in1 (pyNext (.ref a) >>= _) _ _ s
      refine wpAny_bind (core (fun v s₁ gs' ⟨Z, A, S, H, σ', pins', hR, hF, I, ev, hK, hb'⟩ => ?_) fun s₁ h' ⟨Z, A, S, H, σ', pins', hR, hF, I, hK⟩ hk => ?_)
      · subst ev
        refine wpAny_bind (wpAny_holding (wpAny_truthy_bool ?_))
        refine wpAny_bind (wpAny_letGo ?_)
        simp only [Bool.not_false, if_true]
        refine wpAny_bind (wpAny_rule (wpAny_pure ?_))
        exact fin true Z A S H σ' pins' s₁ _ hR hF I rfl hb' (fun _ _ e => e) hK
      · refine wpAny_bind (wpAny_rule (wpAny_pure ?_))
        exact fin false Z A S H σ' pins' s₁ _ hR hF I rfl (bare_set (gens := s.gens) I.bare rfl) hk hK
    | true =>
      show codeAny (model P w) A (.builtin "all.loop" ⟨[.ref a], []⟩) Rr s
      refine codeAny_builtin F.entry_all_loop ?_
      rw [Around.under_plainId F.plain_all_loop _]
      show wpAny _ A.in1 (pyNext (.ref a) >>= _) _ _ s
      refine wpAny_bind (core (fun v s₁ gs' ⟨Z, A, S, H, σ', pins', hR, hF, I, ev, hK, hb'⟩ => ?_) fun s₁ h' ⟨Z, A, S, H, σ', pins', hR, hF, I, hK⟩ hk => ?_)
      · subst ev
        refine wpAny_bind (wpAny_holding (wpAny_truthy_bool ?_))
        refine wpAny_bind (wpAny_letGo ?_)
        simp only [Bool.not_true, Bool.false_eq_true, if_false]
        refine wpAny_bind (wpAny_rule (wpAny_pure ?_))
        exact fin true Z A S H σ' pins' s₁ _ hR hF I rfl hb' (fun _ _ e => e) hK
      · refine wpAny_bind (wpAny_rule (wpAny_pure ?_))
        exact fin false Z A S H σ' pins' s₁ _ hR hF I rfl (bare_set (gens := s.gens) I.bare rfl) hk hK
  | succ m ih =>
    intro s gs hgs hg hl hb hgo
    have hgl : g < s.gens.size := (Array.getElem?_eq_some_iff.mp hgs).1
    have core : ∀ {Q : Option Value → Shared → Prop} {E : Value → Shared → Prop},
        (∀ (v : Value) (s₁ : Shared) (gs' : GenState), (∃ Z A S H σ' pins', Rel G' Z A S H ∧ Fut Hr Zr Ar H Z A ∧ Inv X' pins' σ' H s₁ ∧ v = .bool (!all) ∧ K true S ∧ AllBare (s₁.setGen g gs').gens) → Q (some v) (s₁.setGen g gs')) →
        (∀ (v : Value) (s₁ : Shared) (gs' : GenState), v = .bool all → codeAny (model P w) A (.builtin (loopId all) ⟨[.ref a], []⟩) Rr (s₁.setGen g gs') → Q (some v) (s₁.setGen g gs')) →
        (∀ (s₁ : Shared) (h' : Heap), (∃ Z A S H σ' pins', Rel G' Z A S H ∧ Fut Hr Zr Ar H Z A ∧ Inv X' pins' σ' H s₁ ∧ K false S) → (∀ b o, s₁.heap.get? b = some o → h'.get? b = some o) → Q none { s₁.setGen g .finished with heap := h' }) →
        wpAny (model P w) A.in1 (pyNext (.ref a)) Q E s := fun {Q E} q1 q3 q2 => by
      refine wpAny_gsz (n := g + 1) hgl (wpAny_mono (wpAny_pyNext_genexpQ (E := fun _ _ => False) (n := m + 1) (P := fun _ _ s => genE G' X' Hr Zr Ar K s) (Y := genY G' X' a og Hr Zr Ar all K) (Q := fun r s' => g + 1 ≤ s'.gens.size → Q r s') hh hl hroom hg hgs (hgo _ ⟨rfl, rfl, bare_set (gens := s.gens) hb rfl⟩) (fun v s₁ gs' hbare hv => ?_) (fun s₁ hp h' hk => ?_)) (fun _ _ e => e) fun _ _ e => e.elim)
      · intro hsz
        obtain ⟨Z, A, S, H, t, σ', pins', hR, hF, I, hog1, ev, hq⟩ := hv
        by_cases ht : (t != all) = true
        · rw [if_pos ht] at hq
          refine q1 v s₁ gs' ⟨Z, A, S, H, σ', pins', hR, hF, I, ?_, hq, bare_set (gens := s.gens) I.bare hbare⟩
          rw [ev, bne_t ht]
        · rw [if_neg ht] at hq
          have hb1 := bare_set (gens := s.gens) (g := g) I.bare hbare
          have hsz1 : g < s₁.gens.size := by
            have q : (s₁.setGen g gs').gens.size = s₁.gens.size := setGen_size _ _ _
            have hsz' : g + 1 ≤ (s₁.setGen g gs').gens.size := hsz
            omega
          refine q3 v s₁ gs' ?_ (ih (s₁.setGen g gs') gs' (setGen_at hsz1) (isg hog1) (show s₁.heap.NoLimit from lim I) hb1 fun s'' hs'' => hq s'' ⟨hs''.1, hs''.2.1, hs''.2.2⟩)
          rw [ev, bne_f ht]
      · intro hsz
        obtain ⟨Z, A, S, H, pins', σ', hR, hF, I, hK⟩ := hp
        exact q2 s₁ h' ⟨Z, A, S, H, σ', pins', hR, hF, I, hK⟩ hk
    cases all with
    | false =>
      show codeAny (model P w) A (.builtin "any.loop" ⟨[.ref a], []⟩) Rr s
      refine codeAny_builtin F.entry_any_loop ?_
      rw [Around.under_plainId F.plain_any_loop _]
      show wpAny _ A.in1 (pyNext (.ref a) >>= _) _ _ s
      refine wpAny_bind (core (fun v s₁ gs' ⟨Z, A, S, H, σ', pins', hR, hF, I, ev, hK, hb'⟩ => ?_) (fun v s₁ gs' ev hc => ?_) fun s₁ h' ⟨Z, A, S, H, σ', pins', hR, hF, I, hK⟩ hk => ?_)
      · subst ev
        refine wpAny_bind (wpAny_holding (wpAny_truthy_bool ?_))
        refine wpAny_bind (wpAny_letGo ?_)
        simp only [Bool.not_false, if_true]
        refine wpAny_bind (wpAny_rule (wpAny_pure ?_))
        exact fin true Z A S H σ' pins' s₁ _ hR hF I rfl hb' (fun _ _ e => e) hK
      · subst ev
        refine wpAny_bind (wpAny_holding (wpAny_truthy_bool ?_))
        refine wpAny_bind (wpAny_letGo ?_)
        simp only [Bool.false_eq_true, if_false]
        exact wpAny_pure ⟨plainId_quiet F.plain_any_loop _, hc⟩
      · refine wpAny_bind (wpAny_rule (wpAny_pure ?_))
        exact fin false Z A S H σ' pins' s₁ _ hR hF I rfl (bare_set (gens := s.gens) I.bare rfl) hk hK
    | true =>
      show codeAny (model P w) A (.builtin "all.loop" ⟨[.ref a], []⟩) Rr s
      refine codeAny_builtin F.entry_all_loop ?_
      rw [Around.under_plainId F.plain_all_loop _]
      show wpAny _ A.in1 (pyNext (.ref a) >>= _) _ _ s
      refine wpAny_bind (core (fun v s₁ gs' ⟨Z, A, S, H, σ', pins', hR, hF, I, ev, hK, hb'⟩ => ?_) (fun v s₁ gs' ev hc => ?_) fun s₁ h' ⟨Z, A, S, H, σ', pins', hR, hF, I, hK⟩ hk => ?_)
      · subst ev
        refine wpAny_bind (wpAny_holding (wpAny_truthy_bool ?_))
        refine wpAny_bind (wpAny_letGo ?_)
        simp only [Bool.not_true, Bool.false_eq_true, if_false]
        refine wpAny_bind (wpAny_rule (wpAny_pure ?_))
        exact fin true Z A S H σ' pins' s₁ _ hR hF I rfl hb' (fun _ _ e => e) hK
      · subst ev
        refine wpAny_bind (wpAny_holding (wpAny_truthy_bool ?_))
        refine wpAny_bind (wpAny_letGo ?_)
        simp only [if_true]
        exact wpAny_pure ⟨plainId_quiet F.plain_all_loop _, hc⟩
      · refine wpAny_bind (wpAny_rule (wpAny_pure ?_))
        exact fin false Z A S H σ' pins' s₁ _ hR hF I rfl (bare_set (gens := s.gens) I.bare rfl) hk hK
end
end Mp
set_option maxHeartbeats 1000000
/-! Mp.Gen5: a generator expression made, any, all called. -/
namespace Mp
open PySem PySem.Spec PyProof.Rows L2 GenW
section
variable {X : Cx} {pins : List (Addr × Obj)} {σ : L2.St} {H H' : Hp} {s : Shared}
/-- the table has grown, new objects are tracked -/
theorem inv_tabs {P : Addr} {ps more : Array Value} {h' : Heap} {g' : Array GenState} {t' : Nat} (I : Inv X pins σ H s) (hP : H P = some (.tbl ps)) (k : ∀ b o, b ≠ P → s.heap.get? b = some o → h'.get? b = some o)
    (hm : h'.get? P = some { cls := .none, data := .fields (ps ++ more) }) (e : ∀ b, b ≠ P → b < s.heap.objs.size → H' b = H b) (eP : H' P = some (.tbl (ps ++ more)))
    (new : ∀ b o, s.heap.objs.size ≤ b → H' b = some o → ObjOk X.prog X.w H' h' b o) (hg : AllBare g') : Inv X pins σ H' { s with heap := h', gens := g', toks := t' } := by
  have nP : ∀ b u, H b = some u → (∀ q, u ≠ .tbl q) → b ≠ P := fun b u e q z => by
    rw [z, hP] at e
    exact q ps (Option.some.inj e).symm
  have nN : ∀ b, H b = none → b ≠ P := fun b e z => by
    rw [z, hP] at e
    cases e
  have lt : ∀ b u, H b = some u → b < s.heap.objs.size := fun b u q => I.hok.lt q
  refine I.step (g' := g') (d' := s.drawn) (ch := []) (fun b hb => absurd hb (by simp)) (fun b o _ _ _ q n => k b o (nN b n) q) (fun b o _ _ _ q n => ⟨o.slots, k b o (nN b n) q⟩)
    (fun b o _ q n => by rw [e b (nN b n) (Heap.lt_size q)]; exact n) (fun b o _ q => ?_) (fun b xs q => by rw [e b (nP b _ q (fun q z => by cases z)) (lt b _ q)]; exact q) (fun b o u q => by rw [e b (nP b _ q (fun q z => by cases z)) (lt b _ q)]; exact q) (fun b qs q => ?_) (fun m hn => ?_) (fun b u q => ?_) hg
  · by_cases hb : b = P
    · rw [hb]
      exact ⟨_, hm⟩
    · exact ⟨o, k b o hb q⟩
  · by_cases hb : b = P
    · rw [hb, hP] at q
      cases q
      rw [hb, eP]
      exact ⟨more, rfl⟩
    · rw [e b hb (lt b _ q), q]
      exact ⟨#[], by simp⟩
  · obtain ⟨ob, es, ep, ho, r⟩ := hn
    exact ⟨ob, es, ep, k _ ob (nN _ I.free) ho, r⟩
  · by_cases hl : b < s.heap.objs.size
    · by_cases hb2 : b = P
      · rw [hb2, eP] at q
        cases q
        rw [hb2]
        exact hm
      · rw [e b hb2 hl] at q
        refine (I.hok b u q).stay (fun d v hd q => k d v ?_ q) (fun d q => by rw [e d (nP d _ q (fun q z => by cases z)) (lt d _ q)]; exact q) fun d xs q => by rw [e d (nP d _ q (fun q z => by cases z)) (lt d _ q)]; exact q
        rcases hd with z | z
        · rw [z]
          exact hb2
        · exact nP d _ z (fun q z => by cases z)
    · exact new b u (Nat.le_of_not_lt hl) q
end
section
variable {G : Wd} {Z H H' : Hp} {A : List Addr} {S : Store} {P : Addr} {ps ps' : Array Value}
/-- the table at P is written, new objects stand -/
theorem Rel.tab (r : Rel G Z A S H) (hP : H P = some (.tbl ps)) (e : ∀ b o, b ≠ P → H b = some o → H' b = some o) (eP : H' P = some (.tbl ps')) (ht : TriplesOk ps'.toList) (hk : ∀ q ∈ G.T, q.1 = P → TabK H' q) :
    Rel G Z A S H' ∧ Fut H Z A H' Z A := by
  have nP : ∀ b u, H b = some u → (∀ q, u ≠ .tbl q) → b ≠ P := fun b u e q z => by
    rw [z, hP] at e
    exact q ps (Option.some.inj e).symm
  have tb : ∀ b, TabG H b → TabG H' b := fun b ⟨qs, h1, h2⟩ => by
    by_cases hb : b = P
    · rw [hb]
      exact ⟨ps', eP, ht⟩
    · exact ⟨qs, e b _ hb h1, h2⟩
  have ca : ∀ {B : List Addr} {cv : Value}, CodeAt B H cv → CodeAt B H' cv := fun {B cv} ⟨c, Q, h0, hB, h1, h2⟩ => ⟨c, Q, h0, hB, e _ _ (nP _ _ h1 (fun q z => by cases z)) h1, tb _ h2⟩
  refine ⟨⟨fun a o q => e a o (fun z => ?_) (r.sub a o q), r.len, r.nd, fun l a m h1 h2 => ?_, fun q hq => ?_, r.zt⟩, ⟨fun a o q _ t => e a o (nP a o q t) q, fun a o q => ?_, fun _ _ q => q, fun a o q => .inl ⟨o, q⟩, ⟨[], by simp⟩, fun a m => .inl m, tb⟩⟩
  · have q' := r.sub a o q
    rw [z, hP] at q'
    cases q'
    rw [z] at q
    exact r.zt P ps q
  · have q := r.at_ l a m h1 h2
    cases m with
    | lst ds =>
      obtain ⟨z, vs, h, k⟩ := q
      exact ⟨z, vs, e _ _ (nP _ _ h (fun q z => by cases z)) h, k⟩
    | ins c fs =>
      obtain ⟨z, C, dx, gs, h, k⟩ := q
      exact ⟨z, C, dx, gs, e _ _ (nP _ _ h (fun q z => by cases z)) h, k⟩
    | dead =>
      obtain ⟨vs, h⟩ := q
      exact ⟨vs, e _ _ (nP _ _ h (fun q z => by cases z)) h⟩
  · by_cases hb : q.1 = P
    · exact hk q hq hb
    · have t := r.tabs q hq
      obtain ⟨Q, k⟩ := q
      cases k with
      | gen => exact tb _ t
      | nest B =>
        obtain ⟨qs, h1, h2, h3⟩ := t
        exact ⟨qs, e _ _ hb h1, h2, fun pos cv hc => ca (h3 pos cv hc)⟩
      | dyn c => exact ⟨e _ _ (nP _ _ t.1 (fun q z => by cases z)) t.1, tb _ t.2⟩
      | lam q =>
        obtain ⟨qs, h1, h2, h3⟩ := t
        refine ⟨qs, e _ _ hb h1, h2, fun pos cv hc => ?_⟩
        obtain ⟨c, e1, e2⟩ := h3 pos cv hc
        exact ⟨c, e1, e _ _ (nP _ _ e2 (fun q z => by cases z)) e2⟩
  · by_cases hb : a = P
    · rw [hb]
      exact ⟨_, eP⟩
    · exact ⟨o, e a o hb q⟩
theorem Fut.grow (e : ∀ b o, H b = some o → H' b = some o) : Fut H Z A H' Z A :=
  ⟨fun b o q _ _ => e b o q, fun b o q => ⟨o, e b o q⟩, fun _ _ q => q, fun b o q => .inl ⟨o, q⟩, ⟨[], by simp⟩, fun b m => .inl m, fun b ⟨qs, h1, h2⟩ => ⟨qs, e _ _ h1, h2⟩⟩
end
theorem TabK.there {H : Hp} {q : Addr × TK} (t : TabK H q) : H q.1 ≠ none := by
  obtain ⟨Q, k⟩ := q
  cases k with
  | gen =>
    obtain ⟨ps, h, _⟩ := t
    exact fun z => by rw [show H Q = some (.tbl ps) from h] at z; cases z
  | nest B =>
    obtain ⟨ps, h, _⟩ := t
    exact fun z => by rw [show H Q = some (.tbl ps) from h] at z; cases z
  | dyn c =>
    obtain ⟨_, ps, h, _⟩ := t
    exact fun z => by rw [show H Q = some (.tbl ps) from h] at z; cases z
  | lam q =>
    obtain ⟨ps, h, _⟩ := t
    exact fun z => by rw [show H Q = some (.tbl ps) from h] at z; cases z
/-! ### who may make a generator expression -/
structure GenC (G : Wd) (X : Cx) (c P : Addr) (ki : TK) : Prop where
  code : X.env.code = .ref c
  mem : (P, ki) ∈ G.T
  uniq : ∀ q ∈ G.T, q.1 = P → q.2 = ki
  bm : X.base.BuiltinsAt X.mg P
  gP : mainGlobals ≠ P
  hd : PySem.W.CodeHd X.base c P ∨ ki = .dyn c
  kind : ki = .gen ∨ (∃ L, ki = .nest L ∧ L = G.T.map (·.1)) ∨ ki = .dyn c
/-- as deep as this -/
def GenA (G : Wd) (X : Cx) : Nat → Prop
  | 0 => True
  | 1 => ∃ c P ki, GenC G X c P ki
  | _ + 2 => ∃ c P L, GenC G X c P (.nest L)
theorem GenA.one {G : Wd} {X : Cx} : ∀ {d : Nat}, GenA G X (d + 1) → ∃ c P ki, GenC G X c P ki
  | 0, h => h
  | _ + 1, ⟨c, P, L, h⟩ => ⟨c, P, _, h⟩
theorem GenC.tab {G : Wd} {X : Cx} {c P : Addr} {ki : TK} (g : GenC G X c P ki) {Z H : Hp} {A : List Addr} {S : Store} (r : Rel G Z A S H) : TabG H P := by
  have t := r.tabs _ g.mem
  rcases g.kind with e | ⟨L, e, _⟩ | e <;> rw [e] at t
  · exact t
  · obtain ⟨ps, h1, h2, _⟩ := t
    exact ⟨ps, h1, h2⟩
  · exact t.2
theorem GenC.head {G : Wd} {X : Cx} {c P : Addr} {ki : TK} (g : GenC G X c P ki) {Z H : Hp} {A : List Addr} {S : Store} {pins : List (Addr × Obj)} {σ : L2.St} {s : Shared} (r : Rel G Z A S H) (I : Inv X pins σ H s) : PySem.W.CodeHd s.heap c P := by
  rcases g.hd with h | e
  · exact h.keeps I.bk
  · have t := r.tabs _ g.mem
    rw [e] at t
    obtain ⟨q, _⟩ := I.hok c _ t.1
    exact q
section
variable {G : Wd} {P : Program} {w : World} {base : Heap} {N : List Str} {n : Nat} {W : L2.St → XK} {X : Cx}
theorem Cok.gen (c : Cok G P w base N (n + 1) W X) {G' : Wd} (h : Sup G G') {s : Shared} {H : Hp} {scope : Scope} {cenv : Env} {fp : List Addr} : Cok G' P w base N n noW (gcx X s H scope cenv fp) :=
  ⟨c.prog, c.wo, c.base, by rw [h.K]; exact c.K, by rw [h.mg]; exact c.mg, c.nm, c.nd, c.calm, ⟨c.room.hd, by have := c.room.dp; show X.A.depth + 1 + 3 * n + 5 < _; omega, by have := c.room.un; show X.A.units + 1 + 1 + 3 + 16 * n + 200 < _; omega⟩, LamX.takes0, PassesOwn.never⟩
end
end Mp
set_option maxHeartbeats 1000000
/-! Mp.Key: sorted(xs, key=lambda x: (len(x), x)). -/
namespace Mp
open PySem PySem.Spec PyProof.Rows L2
/-- lambda x: (len(x), x) -/
abbrev keyBody (x : Str) (p1 p2 p3 p4 p5 : Pos) (k : Nat) : Expr := .Tuple [.Call (.Name "len" p1) [.Name x p2] [] p3, .Name x p4] k p5
structure KeyS (x : Str) (scope : Scope) : Prop where
  kind : scope.kind = .function
  co : scope.isCoroutine = false
  gen : scope.isGenerator = false
  cell : ∀ y ∈ scope.names, y.2 ≠ .cell
  free : ∀ y ∈ scope.names, y.2 ≠ .free
  loc : scope.names.lookup x = some .local
  len : scope.names.lookup ("len" : Str) = some .globalImplicit
  db : (x == ("__debug__" : Str)) = false
section
variable {prog : Program} {w : World} {A : Around} {s : Shared} {E : Value → Shared → Prop}
theorem lam_turn {f T c' : Addr} {x q : Str} {params : Arguments} {scope : Scope} {p1 p2 p3 p4 p5 : Pos} {k : Nat} {pm ctv : Value} {items : Array Value} {mg mb : Str → Option Value} {Q : Value → Shared → Prop} (hroom : A.depth < recursionLimit)
    (ho : s.heap.get? f = some (PySem.W.kla_obj "<lambda>" q params (keyBody x p1 p2 p3 p4 p5 k) scope [] pm c' ctv)) (hcd : s.heap.CodeRec (.ref c') q) (lim : s.heap.NoLimit) (hT : IsTup s.heap T items) (hz : items.size ≤ sizeLine)
    (S : KeyS x scope) (hg : s.heap.Ns mainGlobals mg) (hm : mg "len" = none) (hb : s.heap.Ns builtinsNs mb) (hl : mb "len" = some (.builtin "len"))
    (hbind : bindArgs (PySem.W.kla_fn "<lambda>" q params (keyBody x p1 p2 p3 p4 p5 k) scope [] pm (.ref c') ctv) ⟨[.ref T], []⟩ = pure [(x, .ref T)])
    (h : ∀ h' tk a t, (∀ b o, s.heap.get? b = some o → h'.get? b = some o) → s.heap.objs.size ≤ a → h'.get? a = some { cls := .type "tuple", data := .seq #[.int items.size t, .ref T] } → Q (.ref a) { s with heap := h', toks := tk }) :
    wpAny (model prog w) A (call (.ref f) [.ref T]) Q E s := by
  refine wpAny_call (PySem.W.kla_callFunE hroom ho rfl S.co S.gen rfl hcd ?_)
  rw [hbind]
  refine wpAny_pure (wpAny_newFunctionEnv S.cell (fun y hy => ?_) (fun h₁ hns hsb => ⟨lim.fresh _ hsb, ?_⟩) S.kind)
  · have e : y = (x, .ref T) := by simpa using hy
    rw [e]
    exact S.loc
  show codeAny _ _ (.expr (keyBody x p1 p2 p3 p4 p5 k) (PySem.W.envX q scope s.heap.objs.size f (.ref c') [])) _ _
  have kp : ∀ b o, s.heap.get? b = some o → h₁.get? b = some o := fun b o e => hsb.extBut b o (Nat.ne_of_lt (Heap.lt_size e)) (Heap.get?_push_of_some _ e)
  have hsz : h₁.objs.size = s.heap.objs.size + 1 := by rw [hsb.1, Heap.size_push]
  have hx : ([(x, Value.ref T)] : List (Str × Value)).reverse.lookup x = some (.ref T) := by simp
  have ev : ∀ {A' : Around} {E' : Value → Shared → Prop} {Q' : Value → Shared → Prop} {s' : Shared} {p : Pos}, (∀ b o, h₁.get? b = some o → s'.heap.get? b = some o) → Q' (.ref T) s' → wpAny (model prog w) A' (eval (.Name x p) (PySem.W.envX q scope s.heap.objs.size f (.ref c') [])) Q' E' s' := fun {A' E' Q' s' p} k q =>
    wpAny_Name (wpAny_loadName_local S.kind S.loc (hns.keeps k) hx q) S.db
  have hn := line63
  refine PySem.W.kla_codeExpr (wpAny_Tuple_spliced (Calls.spliced_cons (wpAny_Call_Name_kw (Calls.Name_function_global S.kind S.len (Calls.loadGlobal_builtin (hg.keeps kp) hm (hb.keeps kp) hl ?_)))))
  refine PyProof.Rows.callWith_builtin1 (PyProof.Rows.args_cons (ev (fun _ _ e => e) (PyProof.Rows.args_nil ?_))) rfl (by rfl)
  refine len_tuple (hT.keeps kp) (by omega) ?_
  refine Calls.spliced_cons (ev (fun _ _ e => e) (Calls.spliced_nil ⟨by show 2 ≤ sizeLine; decide, ?_⟩))
  exact h _ _ h₁.objs.size _ (fun b o e => Heap.get?_push_of_some _ (kp b o e)) (by rw [hsz]; exact Nat.le_succ _) (Heap.get?_push_size _ rfl)
end
/-! ### the lambda made -/
structure LamC (G : Wd) (X : Cx) (c P : Addr) : Prop where
  code : X.env.code = .ref c
  mem : (P, TK.lam (X.env.qual ++ "<lambda>")) ∈ G.T
  uniq : ∀ q ∈ G.T, q.1 = P → q.2 = .lam (X.env.qual ++ "<lambda>")
  tb : LamX.TabB X.base X.mg c P
theorem lam_code {G : Wd} {X : Cx} {c P : Addr} {pins : List (Addr × Obj)} {σ : L2.St} {Z H : Hp} {A : List Addr} {S : Store} {s : Shared} {E : Value → Shared → Prop} {Q : Value → Shared → Prop} {params : Arguments} {body : Expr} {scope : Scope} {pos : Pos}
    (g : LamC G X c P) (I : Inv X pins σ H s) (r : Rel G Z A S H) (hdef : defaultsOf params X.env = ([], [])) (hfree : ∀ y ∈ scope.names, y.2 ≠ .free)
    (h : ∀ (f c' : Addr) (pm ctv : Value) (H' : Hp) (s' : Shared), Inv X pins σ H' s' → Rel G Z A S H' → Fut H Z A H' Z A → s'.heap.get? f = some (PySem.W.kla_obj "<lambda>" (X.env.qual ++ "<lambda>") params body scope [] pm c' ctv) → s'.heap.CodeRec (.ref c') (X.env.qual ++ "<lambda>") → Q (.ref f) s') :
    wpAny (model X.prog X.w) X.A (eval (.Lambda params body scope pos) X.env) Q E s := by
  obtain ⟨ps, hP, ht, ha⟩ := r.tabs _ g.mem
  have hP : H P = some (.tbl ps) := hP
  refine PySem.W.kla_eval hdef ?_
  have cl : ∀ (ns : List (Str × NameKind)) (acc : List (Str × Addr)), (∀ y ∈ ns, y.2 ≠ .free) → cloFrom X.env.cells ns acc = acc := by
    intro ns
    induction ns with
    | nil => intro acc _; rfl
    | cons y ys ih =>
      intro acc hy
      obtain ⟨y1, y2⟩ := y
      have hk : (y2 == NameKind.free) = false := by
        have := hy (y1, y2) List.mem_cons_self
        simpa using this
      simp only [cloFrom, hk, Bool.false_eq_true, if_false]
      exact ih acc fun z hz => hy z (List.mem_cons_of_mem _ hz)
  have hcl : closureFor scope X.env = pure [] := by
    rw [closure_ok fun y hy e => absurd e (hfree y hy), cl _ _ hfree]
  have bP : s.heap.BuiltinsAt X.mg P := g.tb.bm.keeps I.bk
  have hP' : s.heap.get? P = some { cls := .none, data := .fields ps } := I.hok P _ hP
  cases hc : codeAmong pos ps.toList with
  | none =>
    refine PySem.W.kla_makeFunction (mg := X.mg) (c := c) (P := P) (ps := ps) hcl I.ok.glob (I.mod.glob.keeps I.bk) g.code (g.tb.code.keeps I.bk) hP' ht hc g.tb.gP bP fun c' ctv h' tk hx hge hlt hrec htb => ?_
    obtain ⟨c2, oc, vs, t, e2, hoc, hd, hv⟩ := id hrec
    cases e2
    have hPl : P < s.heap.objs.size := Heap.lt_size hP'
    have nP : c' ≠ P := Nat.ne_of_gt (Nat.lt_of_lt_of_le hPl hge)
    generalize hps : ps ++ #[rawInt pos.line, rawInt pos.col, .ref c'] = ps' at htb
    have htr : TriplesOk ps'.toList := by
      rw [← hps]
      have hl : (ps ++ #[rawInt pos.line, rawInt pos.col, .ref c']).toList = ps.toList ++ [rawInt pos.line, rawInt pos.col, .ref c'] := by simp
      rw [hl]
      exact PySem.TriplesOk_snoc _ _ _ _ ht
    let H' : Hp := upd (upd H P (.tbl ps')) c' (LamX.CodeO c' (X.env.qual ++ "<lambda>"))
    have a1 : H' c' = some (LamX.CodeO c' (X.env.qual ++ "<lambda>")) := upd_same
    have a2 : H' P = some (.tbl ps') := by
      show upd (upd H P (.tbl ps')) c' _ P = _
      rw [upd_ne (Ne.symm nP), upd_same]
    have a3 : ∀ b, b ≠ P → b ≠ c' → H' b = H b := fun b b1 b2 => by
      show upd (upd H P (.tbl ps')) c' _ b = _
      rw [upd_ne b2, upd_ne b1]
    have a4 : ∀ b, b < s.heap.objs.size → b ≠ c' := fun b hb => Nat.ne_of_lt (Nat.lt_of_lt_of_le hb hge)
    have st : ∀ b o, b ≠ P → H b = some o → H' b = some o := fun b o b1 e => by
      rw [a3 b b1 (a4 b (I.hok.lt e))]
      exact e
    have hk : ∀ q ∈ G.T, q.1 = P → TabK H' q := fun q hq e => by
      have u := g.uniq q hq e
      obtain ⟨Q', k⟩ := q
      simp only at e u
      subst e u
      refine ⟨ps', a2, htr, fun p' cv hcv => ?_⟩
      rw [← hps] at hcv
      have hl : (ps ++ #[rawInt pos.line, rawInt pos.col, .ref c']).toList = ps.toList ++ [rawInt pos.line, rawInt pos.col, .ref c'] := by simp
      rw [hl] at hcv
      rcases LamX.among_app _ ht hcv with z | z
      · obtain ⟨c0, e1, e2⟩ := ha p' cv z
        have n0 : c0 ≠ Q' := fun z => by rw [z, hP] at e2; cases e2
        exact ⟨c0, e1, st _ _ n0 e2⟩
      · exact ⟨c', z, a1⟩
    obtain ⟨R', F'⟩ := Rel.tab (H' := H') r hP st a2 htr hk
    have I' : Inv X pins σ H' { s with heap := h'.push (PySem.W.kla_obj "<lambda>" (X.env.qual ++ "<lambda>") params body scope [] ((X.mg "__name__").getD .none) c' ctv), gens := s.gens, toks := tk } := inv_tabs (more := #[rawInt pos.line, rawInt pos.col, .ref c']) I hP (fun b o hb e => Heap.get?_push_of_some _ (hx b o hb e)) (by rw [hps]; exact Heap.get?_push_of_some _ htb) (fun b b1 b2 => a3 b b1 (a4 b b2)) (by rw [hps]; exact a2) (fun b o hb e => ?_) I.bare
    · exact h h'.objs.size c' ((X.mg "__name__").getD .none) ctv H' _ I' R' F' (Heap.get?_push_size _ rfl) ⟨c', oc, vs, t, rfl, Heap.get?_push_of_some _ hoc, hd, hv⟩
    · by_cases b2 : b = c'
      · rw [b2, a1] at e
        cases e
        rw [b2]
        exact ⟨⟨oc, vs, t, Heap.get?_push_of_some _ hoc, hd, hv⟩, ⟨oc, Heap.get?_push_of_some _ hoc⟩, fun h1 h2 ⟨oc, vs, t, q1, q2, q3⟩ k => ⟨oc, vs, t, k _ q1, q2, q3⟩⟩
      · rw [a3 b (Nat.ne_of_gt (Nat.lt_of_lt_of_le hPl hb)) b2, I.hok.fresh hb] at e
        cases e
  | some cv =>
    obtain ⟨c', e, hco⟩ := ha pos cv hc
    subst e
    refine PySem.W.kla_makeFunctionHit (mg := X.mg) (c := c) (P := P) (ps := ps) hcl I.ok.glob (I.mod.glob.keeps I.bk) g.code (g.tb.code.keeps I.bk) hP' ht hc bP fun ctv h' tk hx hsz => ?_
    obtain ⟨⟨oc, vs, t, hoc, hd, hv⟩, _, _⟩ := I.hok c' _ hco
    exact h h'.objs.size c' ((X.mg "__name__").getD .none) ctv H _ (I.kept fun b o e => Heap.get?_push_of_some _ (hx b o e)) r .refl (Heap.get?_push_size _ rfl) ⟨c', oc, vs, t, rfl, Heap.get?_push_of_some _ (hx _ _ hoc), hd, hv⟩
end Mp
set_option maxHeartbeats 1000000
/-! Mp.Key2: sorted by (len, itself). -/
namespace Mp
open PySem PySem.Spec PyProof.Rows L2
/-! ### the order -/
theorem ins_mem {lt : D → D → Bool} {x : D} : ∀ {l : List D} {y : D}, y ∈ ins lt x l → y = x ∨ y ∈ l
  | [], y, h => .inl (by simpa [ins] using h)
  | z :: r, y, h => by
    unfold ins at h
    split at h
    · rcases List.mem_cons.mp h with h | h
      · exact .inr (h ▸ List.mem_cons_self)
      · rcases ins_mem h with h | h
        · exact .inl h
        · exact .inr (List.mem_cons_of_mem _ h)
    · rcases List.mem_cons.mp h with h | h
      · exact .inl h
      · exact .inr h
theorem isort_mem {lt : D → D → Bool} : ∀ {l : List D} {y : D}, y ∈ isort lt l → y ∈ l
  | [], y, h => h
  | x :: r, y, h => by
    rcases ins_mem (show y ∈ ins lt x (isort lt r) from h) with h | h
    · exact h ▸ List.mem_cons_self
    · exact List.mem_cons_of_mem _ (isort_mem h)
theorem ins_map {lt lt' : D → D → Bool} {g : D → D} {x : D} : ∀ {l : List D}, (∀ y ∈ l, lt y x = lt' (g y) (g x)) → (ins lt x l).map g = ins lt' (g x) (l.map g)
  | [], _ => rfl
  | z :: r, h => by
    show (if lt z x then z :: ins lt x r else x :: z :: r).map g = if lt' (g z) (g x) then g z :: ins lt' (g x) (r.map g) else g x :: g z :: r.map g
    rw [h z List.mem_cons_self]
    cases lt' (g z) (g x) with
    | true =>
      simp only [if_true, List.map_cons]
      rw [ins_map fun y hy => h y (List.mem_cons_of_mem _ hy)]
    | false => simp
theorem isort_map {lt lt' : D → D → Bool} {g : D → D} : ∀ {l : List D}, (∀ x ∈ l, ∀ y ∈ l, lt y x = lt' (g y) (g x)) → (isort lt l).map g = isort lt' (l.map g)
  | [], _ => rfl
  | x :: r, h => by
    show (ins lt x (isort lt r)).map g = ins lt' (g x) (isort lt' (r.map g))
    rw [ins_map fun y hy => h x List.mem_cons_self y (List.mem_cons_of_mem _ (isort_mem hy)), isort_map fun a ha b hb => h a (List.mem_cons_of_mem _ ha) b (List.mem_cons_of_mem _ hb)]
/-- the key -/
def keyOf (d : D) : D := match d with
  | .tuple xs => .tuple [.int (xs.length : Nat), d]
  | _ => .tuple [.int 0, d]
def unKey (d : D) : D := match d with
  | .tuple [_, y] => y
  | _ => d
theorem unKey_of (d : D) : unKey (keyOf d) = d := by cases d <;> rfl
theorem tup_ints {d : D} (h : tupInts d = true) : ∃ ns : List Int, d = .tuple (ns.map .int) := by
  cases d with
  | tuple xs =>
    have h : (asInts xs).isSome = true := h
    obtain ⟨ns, e⟩ := Option.isSome_iff_exists.mp h
    exact ⟨ns, by rw [asInts_map e]⟩
  | _ => cases h
theorem alike_tups (ns ms : List Int) : PySem.W.alike (.tuple (ns.map .int)) (.tuple (ms.map .int)) = true := by
  rw [PySem.W.alike]
  exact PySem.W.alike_ints ns ms
theorem key_lt {d e : D} (hd : tupInts d = true) (he : tupInts e = true) : tupleLt (keyOf d) (keyOf e) = lenLt d e := by
  obtain ⟨ns, rfl⟩ := tup_ints hd
  obtain ⟨ms, rfl⟩ := tup_ints he
  show PySem.W.dataLt (.tuple [.int ((ns.map PyData.int).length : Nat), .tuple (ns.map .int)]) (.tuple [.int ((ms.map PyData.int).length : Nat), .tuple (ms.map .int)]) = if (ns.map PyData.int).length = (ms.map PyData.int).length then _ else _
  rw [PySem.W.dataLt_pair (by simp [PySem.W.alike]) (alike_tups ns ms), PySem.W.dataLt_int]
  simp only [List.length_map]
  by_cases h : ns.length = ms.length
  · have e1 : PyData.eqv (.int (ns.length : Nat)) (.int (ms.length : Nat)) = true := by simp [PyData.eqv, h]
    rw [if_pos e1, if_pos h]
  · have e1 : ¬ PyData.eqv (.int (ns.length : Nat)) (.int (ms.length : Nat)) = true := by
      simp [PyData.eqv]
      omega
    rw [if_neg e1, if_neg h]
    simp
theorem sort_key (bs : List (V × D)) (h : ∀ b ∈ bs, tupInts b.2 = true) : (bs.mergeSort (PySem.W.dataLe false fun b => keyOf b.2)).map Prod.snd = isort lenLt (bs.map Prod.snd) := by
  have e : ∀ l : List (V × D), l.map Prod.snd = (l.map fun b => keyOf b.2).map unKey := fun l => by
    rw [List.map_map]
    exact List.map_congr_left fun b _ => (unKey_of b.2).symm
  rw [e, isort_merge (fun b : V × D => keyOf b.2), e]
  refine isort_map fun x hx y hy => ?_
  obtain ⟨b, hb, rfl⟩ := List.mem_map.mp hx
  obtain ⟨c, hc, rfl⟩ := List.mem_map.mp hy
  rw [unKey_of, unKey_of]
  exact key_lt (h c hc) (h b hb)
section
variable {G : Wd} {X : Cx} {Z H : Hp} {A : List Addr} {S : Store} {vs : List V} {ds : List D} {pins : List (Addr × Obj)} {σ : L2.St} {s : Shared}
theorem zip_key (us : List Value) : ∀ {vs : List V} {ds : List D} {us : List Value}, RpAll G Z A vs ds → Vals vs us → (∀ d ∈ ds, tupInts d = true) → PySem.W.EachIs (fun u (b : V × D) => RelV b.1 u ∧ Rp G Z A b.1 b.2 ∧ tupInts b.2 = true) us (vs.zip ds)
  | _, _, _, .nil, .nil, _ => .nil
  | _, _, _, .cons h1 h2, .cons r t, h => .cons ⟨r, h1, h _ List.mem_cons_self⟩ (zip_key us h2 t fun d hd => h d (List.mem_cons_of_mem _ hd))
theorem ints_reads {h : Heap} : ∀ {ns : List Int} {us : List Value}, Vals (ns.map V.int) us → ReadsAll h us (ns.map .int) []
  | [], _, .nil => .nil
  | n :: ns, _, .cons r t => by
    obtain ⟨k, rfl⟩ := r
    exact ReadsAll.cons (as := []) (bs := []) (.int n k) (ints_reads t)
theorem key_core {x : Str} {params : Arguments} {scope : Scope} {p1 p2 p3 p4 p5 : Pos} {k : Nat} {f c' l : Addr} {pm ctv : Value} {q : Str} {Q : VK} (hK : X.K = G.K) (hu : X.A.units + 66 < cLine) (hdp : X.A.depth + 4 < recursionLimit) (I : Inv X pins σ H s) (hR : Rel G Z A S H) (hq : SqL X.K H l vs) (hv : RpAll G Z A vs ds) (ht : ∀ d ∈ ds, tupInts d = true)
    (ho : s.heap.get? f = some (PySem.W.kla_obj "<lambda>" q params (keyBody x p1 p2 p3 p4 p5 k) scope [] pm c' ctv)) (hcd : s.heap.CodeRec (.ref c') q) (Sc : KeyS x scope) (hm : X.mg "len" = none)
    (hbind : ∀ (pm ctv : Value) (T : Addr), bindArgs (PySem.W.kla_fn "<lambda>" q params (keyBody x p1 p2 p3 p4 p5 k) scope [] pm (.ref c') ctv) ⟨[.ref T], []⟩ = pure [(x, .ref T)])
    (kk : Kon G H Z A (.list (isort lenLt ds)) S Q) : wpAny (model X.prog X.w) X.A (call (.builtin "sorted") [.ref l] [(Str.ofString "key", .ref f)]) (EP X pins σ Q) X.xe s := by
  obtain ⟨its, rv, pl, hz⟩ := I.list hq
  have ez := zip_snd hv
  have hl2 : (vs.zip ds).length = ds.length := by
    have := congrArg List.length ez
    rwa [List.length_map] at this
  have hl3 := hv.length
  have hl4 := rv.length
  obtain ⟨mb, hb1, hb2⟩ := I.mod.blt
  have tk : ∀ b ∈ vs.zip ds, tupInts b.2 = true := fun b hb => ht _ (by rw [← ez]; exact List.mem_map_of_mem hb)
  have al : PySem.W.AllAlike ((vs.zip ds).map fun b => keyOf b.2) := by
    intro d hd e he
    obtain ⟨b, hb, rfl⟩ := List.mem_map.mp hd
    obtain ⟨c, hc, rfl⟩ := List.mem_map.mp he
    obtain ⟨ns, e1⟩ := tup_ints (tk b hb)
    obtain ⟨ms, e2⟩ := tup_ints (tk c hc)
    rw [e1, e2]
    show PySem.W.alike (.tuple [.int _, .tuple (ns.map .int)]) (.tuple [.int _, .tuple (ms.map .int)]) = true
    have := alike_tups ns ms
    simp [PySem.W.alike, PySem.W.alikeAll] at this ⊢
    exact this
  refine PySem.W.sorted_key_data (b := false) (fun b : V × D => keyOf b.2) pl.isList (zip_key (us := its) hv rv ht) al (.inl fun d hd => ?_) (by rw [hl2]; omega) (fun b hb => ?_) (PyProof.Rows.ksk_s1 _ _) (fun _ => PyProof.Rows.ksk_l1 _ _) (fun _ => PyProof.Rows.ksk_t1 _ _)
    (fun v b ⟨rb, hrb, htb⟩ hb h tk' kp => ?_) fun out c h' tk' kp _ hD _ eo => ?_
  · obtain ⟨b, hb, rfl⟩ := List.mem_map.mp hd
    obtain ⟨ns, e1⟩ := tup_ints (tk b hb)
    rw [e1]
    exact ⟨_, _, rfl⟩
  · obtain ⟨ns, e1⟩ := tup_ints (tk b hb)
    rw [e1]
    have hd : (keyOf (.tuple (ns.map .int))).depth = 2 := by
      show PyData.depth (.tuple [.int _, .tuple (ns.map .int)]) = 2
      simp [PyData.depth, PyData.depthAll, PySem.W.depth_ints]
    omega
  · obtain ⟨ns, e1⟩ := tup_ints htb
    obtain ⟨bv, bd⟩ := b
    simp only at e1 hrb rb
    subst e1
    cases hrb with
    | tup h1 h2 =>
      cases rb
      obtain ⟨its2, rv2, p, hz2⟩ := I.tuple (sqT_le hR.sub (by rw [hK]; exact h1))
      have ei := rpInts h2
      subst ei
      refine lam_turn (by show X.A.depth < _; omega) (kp _ _ ho) (by obtain ⟨a, b, c, d, e, f, g, h⟩ := hcd; exact ⟨a, b, c, d, e, kp _ _ f, g, h⟩) (I.nolimit.keeps kp) (p.keeps kp) (by have q := rv2.length; simp only [List.length_map] at q hz2; simp only [List.size_toArray]; omega) Sc ((I.mod.glob.keeps I.bk).keeps kp) hm ((hb1.keeps I.bk).keeps kp) ((hb2 _ (by decide)).trans boot_len) (hbind _ _ _) fun h2' tk2 a t kp2 hs2 ha => ?_
      refine ⟨h2', tk2, rfl, kp2, ?_⟩
      obtain ⟨o, ho2, hoc, nn, hod⟩ := p.keeps fun b o e => kp2 b o (kp b o e)
      have hlen : (ns.map PyData.int).length = its2.toArray.size := by
        have := rv2.length
        simp only [List.length_map] at this
        simp [this]
      show Reads h2' (.ref a) (.tuple [.int ((ns.map PyData.int).length : Nat), .tuple (ns.map .int)]) []
      rw [hlen]
      exact .tuple ha rfl rfl (ReadsAll.cons (as := []) (bs := []) (.int _ t) (ReadsAll.cons (as := []) (bs := []) (.tuple ho2 hoc hod (ints_reads rv2)) .nil))
  · have hrp := rp_zip _ fun b (hb : b ∈ (vs.zip ds).mergeSort (PySem.W.dataLe false fun b => keyOf b.2)) => zip_rp hv b (List.mem_mergeSort.mp hb)
    rw [sort_key _ tk, ez] at hrp
    have ev := each_vals (eo.mono fun _ _ h => h.1)
    have hlen : (((vs.zip ds).mergeSort (PySem.W.dataLe false fun b => keyOf b.2)).map Prod.fst).length ≤ sizeLine := by
      rw [List.length_map, List.length_mergeSort, hl2]
      omega
    exact ⟨.ref _, upd H (s.heap.objs.size + 1) (.lst _), I.laid (t' := tk') kp (Nat.le_succ _) ⟨hlen, out, c, ev, hD⟩, rfl, kk.lst hR hrp _ (I.hok.fresh (Nat.le_succ _))⟩
variable {P : Program} {w : World} {base : Heap} {N : List Str} {n : Nat} {W : L2.St → XK} {a : Expr} {fa : FE}
/-- sorted(a, key=lambda x: (len(x), x)) -/
theorem s_sortLen (c : Cok G P w base N (n + 1) W X) {cc PP : Addr} {x : Str} {params : Arguments} {scope : Scope} {p p1 p2 p3 p4 p5 lpos pos kpos : Pos} {k : Nat} (g : LamC G X cc PP) (h1 : Bn X "sorted" (.builtin "sorted")) (hm : X.mg "len" = none) (Sc : KeyS x scope)
    (hdef : defaultsOf params X.env = ([], [])) (hbind : ∀ (q : Str) (pm cv ctv : Value) (T : Addr), bindArgs (PySem.W.kla_fn "<lambda>" q params (keyBody x p1 p2 p3 p4 p5 k) scope [] pm cv ctv) ⟨[.ref T], []⟩ = pure [(x, .ref T)]) (ha : PE X a (tD G fa W)) (hs : noStar a = true) :
    PE X (.Call (.Name "sorted" p) [a] [⟨some "key", .Lambda params (keyBody x p1 p2 p3 p4 p5 k) scope lpos, kpos⟩] pos) (tD G (primF .sortLen (oneF fa)) W) := by
  refine ⟨fun pins s σ H Q I h => ?_⟩
  obtain ⟨Z, A, env, S, hR, hE, hP⟩ := h
  unfold primF oneF at hP
  rw [R.bind_assoc] at hP
  refine wpAny_Call_Name_kw (ld_blt I h1.gl h1.mg h1.boot ?_ h1.nm h1.db)
  have he : starEach [a] X.env = (false, eval a X.env) :: starEach [] X.env := star_cons hs _ _
  refine PyProof.Rows.callWith_kw ?_ (by rw [he]; rfl) (by rw [he]; rfl)
  rw [he]
  let RR : VK := fun v H1 => ∃ d S1 Z1 A1, Fut H Z A H1 Z1 A1 ∧ Rel G Z1 A1 S1 H1 ∧ Rp G Z1 A1 v d ∧ PostR ((opt (sortLenD [rd S1 d]) S1).bind fun d S1 => .ok d S1) (fun d S' => Kon G H Z A d S' Q) (fun x S' => KonX G H1 Z1 A1 x S' (W σ))
  refine Calls.spliced_cons (thn (ha.run pins s σ H RR I (step hR hE hP fun v d S1 Z1 A1 H1 f1 R1 E1 r1 P1 => ⟨d, S1, Z1, A1, f1, R1, r1, P1⟩)) fun u s1 ⟨v, H1, I1, ru, d, S1, Z1, A1, f1, R1, r1, P1⟩ => Calls.spliced_nil ?_)
  show wpAny _ _ (evalAll ((do let v ← eval (.Lambda params (keyBody x p1 p2 p3 p4 p5 k) scope lpos) X.env; standAt pos; pure v) :: [])) _ _ s1
  refine wpAny_evalAll_cons (wpAny_bind (lam_code g I1 R1 hdef Sc.free fun f c' pm ctv H2 s2 I2 R2 f2 ho hcd => wpAny_bind (wpAny_standAt (wpAny_pure (wpAny_evalAll_nil ?_)))))
  obtain ⟨r, hr, kk⟩ := P1.bind.opt
  have kk : Kon G H Z A r S1 Q := kk
  unfold sortLenD at hr
  split at hr
  · rename_i ds hd
    split at hr
    · rename_i ht
      cases hr
      have hd : rd S1 d = .list ds := by simpa using hd
      obtain ⟨l, vs, rfl, q1, q2⟩ := rd_list R2 (f2.rp r1) hd
      cases ru
      have hRoom := c.room
      exact key_core c.K (by have := hRoom.un; omega) (by have := hRoom.dp; omega) I2 R2 (.of q1) q2 (fun d hd => List.all_eq_true.mp ht d hd) ho hcd Sc hm (fun pm ctv T => hbind _ _ _ _ _) (Kon.fut (Kon.fut kk f1) f2)
    · cases hr
  · cases hr
end
end Mp
set_option maxHeartbeats 1000000
/-! Mp.Gen6: a generator expression's code object. -/
namespace Mp
open PySem PySem.Spec PyProof.Rows L2 GenW
/-- a code object of its own for a nested one -/
def NestIn (G' : Wd) (H' : Hp) (ki : TK) (code : Value) : Prop := ∀ B, ki = .nest B → ∃ c' P', code = .ref c' ∧ (P', TK.dyn c') ∈ G'.T ∧ (∀ q ∈ G'.T, q.1 = P' → q.2 = .dyn c') ∧ H' P' ≠ none
theorem among_in {pos p' : Pos} {c cv : Value} {ps : Array Value} (ht : TriplesOk ps.toList) (h : codeAmong p' (ps ++ #[rawInt pos.line, rawInt pos.col, c]).toList = some cv) : codeAmong p' ps.toList = some cv ∨ cv = c := by
  have hl : (ps ++ #[rawInt pos.line, rawInt pos.col, c]).toList = ps.toList ++ [rawInt pos.line, rawInt pos.col, c] := by simp
  rw [hl] at h
  exact LamX.among_app _ ht h
theorem codeX_ok {P : Program} {w : World} {H : Hp} {h : Heap} {c Q : Addr} (x : PySem.W.CodeHd h c Q) : ObjOk P w H h c (CodeX c Q) := by
  obtain ⟨o, vs, file, tf, flags, tg, inF, text, tt, e, r⟩ := id x
  exact ⟨x, ⟨o, e⟩, fun h1 h2 ⟨o, vs, file, tf, flags, tg, inF, text, tt, e, r⟩ k => ⟨o, vs, file, tf, flags, tg, inF, text, tt, k _ e, r⟩⟩
section
variable {G : Wd} {X : Cx} {c P : Addr} {ki : TK} {pins : List (Addr × Obj)} {σ : L2.St} {Z H : Hp} {A : List Addr} {S : Store} {s : Shared} {E : Value → Shared → Prop} {Qc : Value → Shared → Prop}
theorem gen_code (g : GenC G X c P ki) (I : Inv X pins σ H s) (r : Rel G Z A S H) {pos : Pos} {qual : Str} {scope : Scope}
    (h : ∀ (code : Value) (h' : Heap) (tk : Nat) (H' : Hp) (G' : Wd), Sup G G' → Rel G' Z A S H' → Fut H Z A H' Z A → Inv X pins σ H' { s with heap := h', toks := tk } → Heap.ExtBut P s.heap h' → (∀ b, b < s.heap.objs.size → H b = none → H' b = none) → H P ≠ none →
      s.heap.objs.size ≤ h'.objs.size → NestIn G' H' ki code → Qc code { s with heap := h', toks := tk }) :
    wpAny (model X.prog X.w) X.A (genexprCode X.env pos qual scope) Qc E s := by
  obtain ⟨ps, hP, ht⟩ := g.tab r
  have hd := g.head r I
  have hPs : s.heap.get? P = some { cls := .none, data := .fields ps } := I.hok P _ hP
  have nonP : H P ≠ none := fun z => by rw [hP] at z; cases z
  cases hf : codeAmong pos ps.toList with
  | some cv =>
    refine wpAny_genexprCode_hit g.code (hd.code hPs ht) hf ?_
    have go : ∀ G', Sup G G' → Rel G' Z A S H → NestIn G' H ki cv → Qc cv s := fun G' hS r' hN =>
      h cv s.heap s.toks H G' hS r' .refl I (Heap.ExtBut.refl _ _) (fun _ _ e => e) nonP (Nat.le_refl _) hN
    rcases g.kind with e | ⟨L, e, hL⟩ | e
    · exact go G Sup.refl r (fun B z => by rw [e] at z; cases z)
    · have t := r.tabs _ g.mem
      rw [e] at t
      obtain ⟨ps', h1, h2, h3⟩ := t
      have h1 : H P = some (.tbl ps') := h1
      rw [hP] at h1
      cases h1
      obtain ⟨c', P', e1, e2, e3, e4⟩ := h3 pos cv hf
      refine go (G.add P' c') (Sup.one P' c') (Rel.gw (G := G) (G' := G.add P' c') rfl ⟨rfl, rfl⟩ r fun q hq => ?_) (fun B z => ⟨c', P', e1, List.mem_cons_self, fun q hq z => ?_, by
        obtain ⟨qs, q1, _⟩ := e4
        rw [q1]
        exact fun z => by cases z⟩)
      · rcases List.mem_cons.mp hq with z | hq
        · rw [z]
          exact ⟨e3, e4⟩
        · exact r.tabs q hq
      · rcases List.mem_cons.mp hq with z2 | hq
        · rw [z2]
        · exact absurd (by rw [hL, ← z]; exact List.mem_map_of_mem hq) e2
    · exact go G Sup.refl r (fun B z => by rw [e] at z; cases z)
  | none =>
    refine wpAny_genexprCodeX g.code (hd.code hPs ht) (hd.tab hPs) hf fun c' h' tk hx hge hlt hco' _ htab' ⟨P', hP', hcode2, htab2⟩ => ?_
    have hd2 := PySem.W.CodeHd.of hcode2 htab2
    have hne : c' ≠ P' := by
      obtain ⟨_, _, _, _, _, _, _, _, _, _, _, _, _, _, _, _, _, _, _, _, q⟩ := hcode2
      exact q
    have hPl : P < s.heap.objs.size := Heap.lt_size hPs
    have hcP : c' ≠ P := Nat.ne_of_gt (Nat.lt_of_lt_of_le hPl hge)
    have hPP : P' ≠ P := Nat.ne_of_gt (Nat.lt_of_lt_of_le hPl hP')
    have htr : TriplesOk (ps ++ #[rawInt pos.line, rawInt pos.col, .ref c']).toList := by
      obtain ⟨_, _, _, _, _, _, _, _, _, _, _, _, _, _, _, _, _, _, _, q, _⟩ := hco'
      exact q
    generalize hps : ps ++ #[rawInt pos.line, rawInt pos.col, .ref c'] = ps' at htr htab' hco'
    let H' : Hp := upd (upd (upd H P (.tbl ps')) c' (CodeX c' P')) P' (.tbl #[])
    have old : ∀ q ∈ G.T, q.1 ≠ P' := fun q hq z => (r.tabs q hq).there (by rw [z]; exact I.hok.fresh hP')
    have a1 : H' P' = some (.tbl #[]) := upd_same
    have a2 : H' c' = some (CodeX c' P') := by
      show upd (upd (upd H P (.tbl ps')) c' (CodeX c' P')) P' (.tbl #[]) c' = _
      rw [upd_ne hne, upd_same]
    have a3 : H' P = some (.tbl ps') := by
      show upd (upd (upd H P (.tbl ps')) c' (CodeX c' P')) P' (.tbl #[]) P = _
      rw [upd_ne (Ne.symm hPP), upd_ne (Ne.symm hcP), upd_same]
    have a4 : ∀ b, b ≠ P → b ≠ c' → b ≠ P' → H' b = H b := fun b b1 b2 b3 => by
      show upd (upd (upd H P (.tbl ps')) c' (CodeX c' P')) P' (.tbl #[]) b = _
      rw [upd_ne b3, upd_ne b2, upd_ne b1]
    have a5 : ∀ b, b < s.heap.objs.size → b ≠ c' ∧ b ≠ P' := fun b hb => ⟨Nat.ne_of_lt (Nat.lt_of_lt_of_le hb hge), Nat.ne_of_lt (Nat.lt_of_lt_of_le hb hP')⟩
    have I' : Inv X pins σ H' { s with heap := h', gens := s.gens, toks := tk } := inv_tabs (more := #[rawInt pos.line, rawInt pos.col, .ref c']) I hP (fun b o hb e => hx b o hb e) (by rw [hps]; exact htab'.2) (fun b b1 b2 => a4 b b1 (a5 b b2).1 (a5 b b2).2) (by rw [hps]; exact a3) (fun b o hb e => ?_) I.bare
    · have st : ∀ b o, b ≠ P → H b = some o → H' b = some o := fun b o b1 e => by
        have b2 := I.hok.lt e
        rw [a4 b b1 (a5 b b2).1 (a5 b b2).2]
        exact e
      have hk : ∀ q ∈ G.T, q.1 = P → TabK H' q := fun q hq e => by
        have u := g.uniq q hq e
        obtain ⟨Q, k⟩ := q
        simp only at e u
        subst e u
        have t := r.tabs _ hq
        rcases g.kind with e | ⟨L, e, hL⟩ | e
        · rw [e]
          exact ⟨ps', a3, htr⟩
        · rw [e] at t ⊢
          obtain ⟨ps2, h1, h2, h3⟩ := t
          have h1 : H Q = some (.tbl ps2) := h1
          rw [hP] at h1
          cases h1
          refine ⟨ps', a3, htr, fun p' cv hc => ?_⟩
          rw [← hps] at hc
          rcases among_in ht hc with z | z
          · obtain ⟨c2, P2, e1, e2, e3, qs, e4, e5⟩ := h3 p' cv z
            have n2 : P2 ≠ Q := fun z => e2 (by rw [z, hL]; exact List.mem_map_of_mem (f := (·.1)) hq)
            have n3 : c2 ≠ Q := fun z => by
              rw [z, hP] at e3
              cases e3
            exact ⟨c2, P2, e1, e2, st _ _ n3 e3, qs, st _ _ n2 e4, e5⟩
          · refine ⟨c', P', z, fun m => ?_, a2, #[], a1, True.intro⟩
            rw [hL] at m
            obtain ⟨q, hq, eq⟩ := List.mem_map.mp m
            exact old q hq eq
        · rw [e] at t ⊢
          have t1 : H c = some (CodeX c Q) := t.1
          have n3 : c ≠ Q := fun z => by
            rw [z, hP] at t1
            cases t1
          exact ⟨st _ _ n3 t1, ps', a3, htr⟩
      obtain ⟨R', F'⟩ := Rel.tab (H' := H') r hP st a3 htr hk
      have go : ∀ G', Sup G G' → Rel G' Z A S H' → NestIn G' H' ki (.ref c') → Qc (.ref c') { s with heap := h', toks := tk } := fun G' hS r' hN =>
        h (.ref c') h' tk H' G' hS r' F' I' hx (fun b b2 e => by
          have b1 : b ≠ P := fun z => by rw [z, hP] at e; cases e
          rw [a4 b b1 (a5 b b2).1 (a5 b b2).2]
          exact e) nonP (Nat.le_of_lt (Nat.lt_of_le_of_lt hge hlt)) hN
      rcases g.kind with e | ⟨L, e, hL⟩ | e
      · exact go G Sup.refl R' (fun B z => by rw [e] at z; cases z)
      · refine go (G.add P' c') (Sup.one P' c') (Rel.gw (G := G) (G' := G.add P' c') rfl ⟨rfl, rfl⟩ R' fun q hq => ?_) (fun B z => ⟨c', P', rfl, List.mem_cons_self, fun q hq z => ?_, by
          rw [a1]
          exact fun z => by cases z⟩)
        · rcases List.mem_cons.mp hq with z | hq
          · rw [z]
            exact ⟨a2, #[], a1, True.intro⟩
          · exact R'.tabs q hq
        · rcases List.mem_cons.mp hq with z2 | hq
          · rw [z2]
          · exact absurd z (old q hq)
      · exact go G Sup.refl R' (fun B z => by rw [e] at z; cases z)
    · by_cases b1 : b = P'
      · rw [b1, a1] at e
        cases e
        rw [b1]
        exact htab2.2
      · by_cases b2 : b = c'
        · rw [b2, a2] at e
          cases e
          rw [b2]
          exact codeX_ok hd2
        · have b3 : b ≠ P := Nat.ne_of_gt (Nat.lt_of_lt_of_le hPl hb)
          rw [a4 b b3 b2 b1, I.hok.fresh hb] at e
          cases e
end
end Mp
set_option maxHeartbeats 1000000
/-! Mp.Gen7: any, all of a generator expression of one clause. -/
namespace Mp
open PySem PySem.Spec PyProof.Rows L2 GenW
theorem cells_none : ∀ (names : List (Str × NameKind)) (n : Nat) (acc : List (Str × Addr)), (∀ y ∈ names, y.2 ≠ .cell) → cellsFrom n names acc = acc
  | [], _, _, _ => rfl
  | (x, k) :: r, n, acc, h => by
    have hk : (k == NameKind.cell) = false := by
      have := h (x, k) List.mem_cons_self
      simpa using this
    show (if (k == NameKind.cell) = true then _ else _) = _
    rw [hk]
    exact cells_none r n acc fun y hy => h y (List.mem_cons_of_mem _ hy)
theorem push_none : ∀ (names : List (Str × NameKind)) (h : Heap), (∀ y ∈ names, y.2 ≠ .cell) → pushCells h names = h
  | [], _, _ => rfl
  | (x, k) :: r, h, hn => by
    have hk : (k == NameKind.cell) = false := by
      have := hn (x, k) List.mem_cons_self
      simpa using this
    show (if (k == NameKind.cell) = true then _ else _) = _
    rw [hk]
    exact push_none r h fun y hy => hn y (List.mem_cons_of_mem _ hy)
abbrev anyId (all : Bool) : String := if all then "all" else "any"
abbrev anyNm (all : Bool) : Str := if all then "all" else "any"
theorem over_eqW {A A' : Around} {c : Code} {R : GenEnd} {Y : Protocol} {M : Model} {n : Nat} {s₀ s : Shared} {α : Type} {m : Sem α} {K' : α → Sem PySem.Fin} {H' : Value → Sem PySem.Fin} {gd lv} (e : A.over c [] = A')
    (h : wpAny M A' m (fun a s' => Seg M A R Y n s₀ c (K' a) [] s') (fun _ _ => False) s) : Seg M A R Y n s₀ c (m.wrap K' H' gd lv) [] s := by
  subst e
  exact seg_wrap (wpAny_mono h (fun _ _ q => q) fun _ _ q => q.elim)
/-- the generator's start -/
theorem seg_begin {P : Program} {w : World} {A1 A' : Around} {R : GenEnd} {Y : Protocol} {n : Nat} {s₀ s : Shared} {elt tg iter : Expr} {ifs : List Expr} {scope : Scope} {gpos : Pos} {it : Addr} {cenv : Env} {tn : Nat → Heap → Prop} {fp : List Addr} {J : L2.It} {K : PySem.W.Frag}
    (hA : ∀ i, A1.over (.compStart (.GeneratorExp elt [⟨tg, iter, ifs, 0⟩] scope gpos) 0 i .none cenv) [] = A') (T : Turn P w K tg J fp it tn) (st : tn 0 s.heap)
    (loop : Seg (model P w) A1 R Y n s₀ (.compLoop (.GeneratorExp elt [⟨tg, iter, ifs, 0⟩] scope gpos) 0 (.ref it) .none cenv) ((model P w).den (.compLoop (.GeneratorExp elt [⟨tg, iter, ifs, 0⟩] scope gpos) 0 (.ref it) .none cenv)) [] s) :
    Seg (model P w) A1 R Y n s₀ (.compStart (.GeneratorExp elt [⟨tg, iter, ifs, 0⟩] scope gpos) 0 (.ref it) .none cenv) ((model P w).den (.compStart (.GeneratorExp elt [⟨tg, iter, ifs, 0⟩] scope gpos) 0 (.ref it) .none cenv)) [] s := by
  show Seg _ A1 _ _ _ s₀ _ ((compStart (.GeneratorExp elt [⟨tg, iter, ifs, 0⟩] scope gpos) 0 (.ref it) .none cenv).onRaise (leaving cenv)) [] s
  unfold compStart
  rw [Sem.onRaise_eq_wrap]
  show Seg _ A1 _ _ _ s₀ _ ((ask >>= _).wrap _ _ _ _) [] s
  refine over_eq (hA _) (wpAny_askSetting ?_)
  split
  · exact seg_again rfl loop
  · refine over_eq (hA _) (wpAny_rule ?_)
    show Seg _ A1 _ _ _ s₀ _ ((standAt iter.pos >>= _).wrap _ _ _ _) [] s
    refine over_eq (hA _) (wpAny_standAt ?_)
    exact over_eq (hA _) (T.self A' 0 s _ _ st (seg_again rfl loop))
section
variable {G : Wd} {P : Program} {w : World} {base : Heap} {N : List Str} {n : Nat} {W : L2.St → XK} {X : Cx}
theorem s_gen {elt tg iter : Expr} {ifs : List Expr} {scope : Scope} {own : List (Str × Nat)} {gpos p pos : Pos} {fi : FI} {ft : FT} {fe : FE} {t : Tg} {d : Nat} (c : Cok G P w base N (n + 1) W X) (all : Bool) (hd1 : d ≤ 1) (ga : GenA G X (d + 1)) (hg : Gl X (anyNm all)) (hm : X.mg (anyNm all) = none)
    (hi : PI X tg iter (tI G fi W)) (ok : BlkOk X.N X.env.scope scope own) (hcell : ∀ y ∈ scope.names, y.2 ≠ .cell) (h0 : scope.names.lookup (".0" : Str) = some NameKind.local) (n0 : (".0" : Str) ∉ X.N) (hco : scope.isCoroutine = false)
    (hfold : ∀ v, genFold iter X.env v = pure v) (hown : ∀ i ∈ slots t, i ∈ own.map (·.2))
    (sub : ∀ (G' : Wd) (s : Shared) (H : Hp) (code : Value) (fp : List Addr), Sup G G' → GenA G' (gcx X s H scope (genEv scope (cloFrom X.env.cells scope.names []) s.heap.objs.size code X.env) fp) d →
      PG (gcx X s H scope (genEv scope (cloFrom X.env.cells scope.names []) s.heap.objs.size code X.env) fp) tg (gT G' t) ∧ PTs (gcx X s H scope (genEv scope (cloFrom X.env.cells scope.names []) s.heap.objs.size code X.env) fp) ifs (tT G' ft noW) ∧
      PE (gcx X s H scope (genEv scope (cloFrom X.env.cells scope.names []) s.heap.objs.size code X.env) fp) elt (tD G' fe noW)) :
    PE X (.Call (.Name (anyNm all) p) [.GeneratorExp elt [⟨tg, iter, ifs, 0⟩] scope gpos] [] pos) (tD G (genF all (own.map (·.2)) t fi ft fe) W) := by
  have hP0 := c.prog
  have hw0 := c.wo
  subst hP0 hw0
  obtain ⟨cc, PP, ki, g, nest⟩ : ∃ cc PP ki, GenC G X cc PP ki ∧ (d = 0 ∨ ∃ L, ki = .nest L) := by
    cases d with
    | zero =>
      obtain ⟨a, b, k, h⟩ := ga
      exact ⟨a, b, k, h, .inl rfl⟩
    | succ d =>
      obtain ⟨a, b, L, h⟩ := ga
      exact ⟨a, b, _, h, .inr ⟨L, rfl⟩⟩
  refine ⟨fun pins s σ H Q I h => ?_⟩
  obtain ⟨Z, A, env, S, hR, hE, hP⟩ := h
  have he : starEach [.GeneratorExp elt [⟨tg, iter, ifs, 0⟩] scope gpos] X.env = (false, eval (.GeneratorExp elt [⟨tg, iter, ifs, 0⟩] scope gpos) X.env) :: starEach [] X.env := by rfl
  have hbb : bootBuiltins (anyNm all) = some (.builtin (anyId all)) := by cases all <;> rfl
  refine wpAny_Call_Name_kw (ld_blt I hg hm hbb ?_ (by cases all <;> decide) (by cases all <;> decide))
  refine PyProof.Rows.callWith_builtin1 ?_ he (by rfl)
  rw [he]
  show wpAny _ _ (spliced ((false, eval (.GeneratorExp elt [⟨tg, iter, ifs, 0⟩] scope gpos) X.env) :: backTo pos (starEach [] X.env))) _ _ s
  have hfree : ∀ y ∈ scope.names, y.2 = .free → ∃ c, X.env.cells.lookup y.1 = some c := fun y hy e => by
    rcases ok.free y hy e with k | k
    · exact I.ok.has _ (.inl k)
    · exact I.ok.has _ (.inr k)
  have hRoom := c.room
  refine Calls.spliced_cons (wpAny_GeneratorExp_make hco (closure_ok hfree) hcell h0 ok.kind (by have := hRoom.dp; omega) ?_ hfold)
  let RJ : L2.It → Hp → Prop := fun J H1 => ∃ v S1 Z1 A1, Fut H Z A H1 Z1 A1 ∧ Rel G Z1 A1 S1 H1 ∧ EnvR G Z1 A1 env σ ∧ Wk G J v Z1 A1 ∧ PostR ((noX (anyItv (aturnF all t (own.map (·.2)) ft fe env) v S1)).bind fun b S2 => .ok (.bool (b != all)) S2) (fun d S' => Kon G H Z A d S' Q) (fun x S' => KonX G H1 Z1 A1 x S' (W σ))
  refine wpAny_mono (hi.run pins s σ H RJ I (stepI hR hE hP fun v J S1 Z1 A1 H1 f1 R1 E1 wk P1 => ⟨v, S1, Z1, A1, f1, R1, E1, wk, P1⟩)) (fun xv s1 h1 => wpAny_mono h1 (fun itv s2 h2 => ?_) fun _ _ e => e) fun _ _ e => e
  obtain ⟨it, fp, tn, J, H1, e, I2, T, t0, fpk, v, S1, Z1, A1, f1, R1, E1, wk, P1⟩ := h2
  subst e
  refine ⟨I2.nolimit, gen_code g I2 R1 fun code h3 tk H3 G' hS R3 f3 I3 hx hfr hPn hsz hN => ?_⟩
  obtain ⟨bm, ob, e1, e2, e3, e4, e5, e6, e7, e8⟩ := g.bm
  refine wpAny_builtinsFor (m := X.mg) (by rw [I3.ok.glob]; exact I3.mod.glob.keeps I3.bk) e1 e2 (I3.bk _ _ e5) e6 e7 e8 ?_
  intro h4 hn4 hs4
  refine Calls.spliced_nil ?_
  -- the iterator's cells
  have fpl : ∀ b ∈ fp, b < s2.heap.objs.size := fun b hb => by
    obtain ⟨o, q, _⟩ := T.obj _ _ t0 b hb
    exact Heap.lt_size q
  have fp3 : ∀ b ∈ fp, FpOk X pins H3 b := fun b hb => by
    obtain ⟨q1, q2⟩ := fpk b hb
    exact ⟨hfr b (fpl b hb) q1, q2⟩
  have t3 : tn 0 h3 := T.keep _ _ _ t0 fun b hb o q => hx b o (fun z => hPn (by rw [← z]; exact (fpk b hb).1)) q
  generalize hog : ({ cls := .type "generator", data := .fields #[.int ({ s2 with heap := h3, toks := tk } : Shared).gens.size 0, .str "<genexpr>" (({ s2 with heap := h3, toks := tk } : Shared).toks + 1), .str (X.env.qual ++ "<genexpr>") (({ s2 with heap := h3, toks := tk } : Shared).toks + 1 + 1)] } : Obj) = og
  have ogc : og.cls = .type "generator" ∧ ∃ nm qn, og.data = .fields #[.int s2.gens.size 0, nm, qn] ∧ og.slots = #[] := by
    rw [← hog]
    exact ⟨rfl, _, _, rfl, rfl⟩
  have ogf : og.isFreed = false := by rw [← hog]; rfl
  have ogd : ∀ v, og.data ≠ .cell v := fun v z => by rw [← hog] at z; cases z
  -- the frame
  have J0 := gen_start (g' := s2.gens.push (.fresh (.compStart (.GeneratorExp elt [⟨tg, iter, ifs, 0⟩] scope gpos) 0 (.ref it) .none (genEv scope (cloFrom X.env.cells scope.names []) h3.objs.size code X.env)))) (t' := tk + 1 + 1 + 1) (fp := fp) (code := code) (og := og) I3 ok (by rw [c.nm]; exact c.nd)
    (fun b hb => ⟨fp3 b hb, Nat.lt_of_lt_of_le (fpl b hb) hsz⟩) (m := fun y => if y = ".0" then some (.ref it) else none) (fun y hy => if_neg fun z => n0 (by rw [← z]; exact hy)) hn4 (by rw [mpFrame, push_none _ _ hcell]; exact hs4) (I2.bare.push rfl) ogf ogd
  rw [cells_none _ _ _ hcell] at J0
  -- what runs in it
  have sub' := sub G' { s2 with heap := h3, toks := tk } H3 code fp hS (by
    cases d with
    | zero => exact True.intro
    | succ d =>
      have d0 : d = 0 := by omega
      subst d0
      rcases nest with z | ⟨L, z⟩
      · cases z
      · obtain ⟨c', P', q1, q2, q3, q4⟩ := hN _ z
        refine ⟨c', P', .dyn c', q1, q2, q3, ?_, ?_, .inr rfl, .inr (.inr rfl)⟩
        · obtain ⟨bm, ob, e1, e2, e3, e4, e5, e6⟩ := g.bm
          exact ⟨bm, ob, e1, e2, e3, fun z => q4 (by rw [← z]; exact (I3.bs _ _ e5).2), e5, e6⟩
        · obtain ⟨o, _, _, ho, _⟩ := I2.mod.glob
          exact fun z => q4 (by rw [← z]; exact (I3.bs _ _ ho).2))
  obtain ⟨hg1, ht1, he1⟩ := sub'
  have P2 := noX_post P1.bind
  obtain ⟨f, hf⟩ := anyItv_W (aturnF all t (own.map (·.2)) ft fe env) v S1
  rw [hf] at P2
  have E3 : EnvR G' Z1 A1 env σ := EnvR.gw hS.K hS.mw E1
  have hgenv : ∀ cl C, genEnv scope cl C code builtinsNs X.env = genEv scope cl C code X.env := fun _ _ => rfl
  rw [hgenv]
  generalize hcv : genEv scope (cloFrom X.env.cells scope.names []) h3.objs.size code X.env = cenv at *
  have hafp : h4.objs.size ∉ fp := fun hb => by
    have q := fpl _ hb
    rw [hs4.1, Heap.size_push] at q
    exact absurd (Nat.lt_of_lt_of_le q (Nat.le_trans hsz (Nat.le_succ _))) (Nat.lt_irrefl _)
  obtain ⟨m, seg⟩ := seg_one (G' := G') (P := X.prog) (w := X.w) (X' := gcx X { s2 with heap := h3, toks := tk } H3 scope cenv fp) (a := h4.objs.size) (og := og) (Hr := H3) (Zr := Z1) (Ar := A1) (all := all)
    (K := fun b S2 => Kon G H Z A (.bool (b != all)) S2 Q) (A1 := X.A.in1.in1) (cenv := cenv) (tg := tg) (iter := iter) (ifs := ifs) (elt := elt) (scope := scope) (gpos := gpos) (t := t) (ft := ft) (fe := fe) (J := J) (v := v) (fp := fp) (it := it) (tn := tn) (env := env) (vs := own.map (·.2)) (σw := L2.wipe σ (own.map (·.2)))
    (by rw [hS.K]; exact c.K) rfl rfl c.calm rfl rfl rfl rfl (by rw [← hcv]; exact hco) (fun _ => rfl) T
    (fun H pins σ s I ha hn b hb => ⟨hn b hb, (I.ok.exf b hb).1, I.ok.exfs b hb, .inl hb, (I.ok.exf b hb).2, fun p hp z => ha p hp (by rw [z]; exact hb)⟩) hafp (Wk.up hS wk) (E3.wipe _) (wipe_wipe _ _ _ fun u hu => hu) hown hg1 ht1 he1 f 0 S1 (P2.mono (fun _ _ _ h => h) fun _ _ h => h)
  have begin_ : ∀ s'' : Shared, s''.heap = h4.push og → s''.os = s2.os → AllBare s''.gens → Seg (model X.prog X.w) X.A.in1.in1 _ _ m s'' (.compStart (.GeneratorExp elt [⟨tg, iter, ifs, 0⟩] scope gpos) 0 (.ref it) .none cenv) ((model X.prog X.w).den (.compStart (.GeneratorExp elt [⟨tg, iter, ifs, 0⟩] scope gpos) 0 (.ref it) .none cenv)) [] s'' := fun s'' q1 q2 q3 => by
    have t5 : tn 0 s''.heap := by
      rw [q1]
      refine T.keep _ _ _ t3 fun b hb o q => Heap.get?_push_of_some _ (hs4.extBut b o (Nat.ne_of_lt (Nat.lt_of_lt_of_le (fpl b hb) hsz)) (Heap.get?_push_of_some _ q))
    exact seg_begin (A' := (X.A.in1.in1).deeper cenv) (fun _ => rfl) T t5 (seg Z1 A1 H3 s'' s'' R3 .refl (inv_same J0 q1 q2 q3) t5 fun b hb => (fp3 b hb).1)
  have isg : (h4.push og).IsGen h4.objs.size s2.gens.size := by
    obtain ⟨q1, nm, qn, q2, q3⟩ := ogc
    exact ⟨og, nm, qn, Heap.get?_push_size _ ogf, q1, q2, q3⟩
  have lp := gen_loop (G' := G') (P := X.prog) (w := X.w) (X' := gcx X { s2 with heap := h3, toks := tk } H3 scope cenv fp) (a := h4.objs.size) (og := og) (Hr := H3) (Zr := Z1) (Ar := A1) (all := all) (K := fun b S2 => Kon G H Z A (.bool (b != all)) S2 Q) (A := X.A) (g := s2.gens.size)
    (Rr := fun r s' => match r with | .ok (.ret v) => EP X pins σ Q v s' | .ok _ => False | .error e => X.xe e s') hRoom.hd (by have := hRoom.dp; show X.A.depth < _; omega) (fun I => I.nolimit) ogc
    (fun b Z5 A5 S5 H5 σ' pins' s5 s6 R5 F5 J5 os5 b5 k5 K5 => by
      have I5 : Inv X pins σ H5 s6 := inv_same ((gen_out I3 fp3 J5).kept (h' := s6.heap) (t' := s6.toks) k5) rfl os5 b5
      exact ⟨.bl (b != all), H5, I5, rfl, Kon.at_ (Kon.fut K5 (f1.trans (f3.trans F5))) (hS.down R5) (.bl _)⟩)
  cases all with
  | false =>
    show wpAny _ X.A (call (.builtin "any") [.ref h4.objs.size]) _ _ _
    refine call_function_tree F.kind_any F.plain_any F.entry_any (F.args_any1 _) ?_
    unfold Builtin.«any»
    refine wpAny_bind (m := oneArg "any" _) (wpAny_pure ?_)
    refine wpAny_bind (wpAny_pyIter_gen isg ?_)
    exact wpAny_pure ⟨plainId_quiet F.plain_any_loop _, lp m _ _ (Array.getElem?_push_size ..) isg J0.nolimit J0.bare fun s'' hl => ⟨rfl, begin_ s'' hl.1 hl.2.1 hl.2.2⟩⟩
  | true =>
    show wpAny _ X.A (call (.builtin "all") [.ref h4.objs.size]) _ _ _
    refine call_function_tree F.kind_all F.plain_all F.entry_all (F.args_all1 _) ?_
    unfold Builtin.«all»
    refine wpAny_bind (m := oneArg "all" _) (wpAny_pure ?_)
    refine wpAny_bind (wpAny_pyIter_gen isg ?_)
    exact wpAny_pure ⟨plainId_quiet F.plain_all_loop _, lp m _ _ (Array.getElem?_push_size ..) isg J0.nolimit J0.bare fun s'' hl => ⟨rfl, begin_ s'' hl.1 hl.2.1 hl.2.2⟩⟩
end
end Mp
set_option maxHeartbeats 1000000
/-! Mp.Gen8: the inner turns of a generator expression of two clauses. -/
namespace Mp
open PySem PySem.Spec PyProof.Rows L2 GenW
/-- what the inner code does with an exception -/
abbrev inLv (cenv : Env) : Value → Sem Unit := fun x => do noteFrame x cenv; theTreesLotGoes x
theorem compTurn_in (elt tg0 iter0 tg iter : Expr) (ifs0 ifs : List Expr) (scope : Scope) (pos : Pos) (it acc : Value) (env : Env) :
    compTurn (.GeneratorExp elt [⟨tg0, iter0, ifs0, 0⟩, ⟨tg, iter, ifs, 0⟩] scope pos) 1 it acc env = (do
      standAt iter.pos
      match ← pyNext it with
      | none => pure (.done .next)
      | some v =>
        letOwnedTupleGo tg it v
        assign tg env v
        let mut ok := true
        for c in ifs do
          if ok then ok ← isTrue c env (eval c env)
        if ok then
          (do let v ← eval elt env; standAt elt.pos; let _ ← yieldOut env v)
        again (.compLoop (.GeneratorExp elt [⟨tg0, iter0, ifs0, 0⟩, ⟨tg, iter, ifs, 0⟩] scope pos) 1 it acc env)) := by rfl
theorem over_eqF {A A' : Around} {c : Code} {fs : List Frame} {R : GenEnd} {Y : Protocol} {M : Model} {n : Nat} {s₀ s : Shared} {α β : Type} {m : Sem α} {K : α → Sem β} {K' : β → Sem PySem.Fin} {H' : Value → Sem PySem.Fin} {gd lv} (e : A.over c fs = A')
    (h : wpAny M A' m (fun a s' => Seg M A R Y n s₀ c ((K a).wrap K' H' gd lv) fs s') (fun _ _ => False) s) : Seg M A R Y n s₀ c ((m >>= K).wrap K' H' gd lv) fs s := by
  subst e
  exact seg_bind_wrap (wpAny_mono h (fun _ _ q => q) fun _ _ q => q.elim)
section
variable {G' : Wd} {P : Program} {w : World} {X' : Cx} {a : Addr} {og : Obj} {Hr Zr : Hp} {Ar : List Addr} {all : Bool} {K : Bool → Store → Prop} {vs : List Nat} {en : EnvD}
  {elt tg0 iter0 tg iter : Expr} {ifs0 ifs : List Expr} {scope : Scope} {gpos : Pos} {t : Tg} {ft : FT} {fe : FE} {v : Itv} {cenv : Env} {A1 : Around} {FrOk : Frame → Prop} {C : Store → Prop} {Good : List (Addr × Obj) → L2.St → Prop}
/-- the inner walk -/
structure InIt (G' : Wd) (P : Program) (w : World) (X' : Cx) (tg : Expr) (v : Itv) (Zb : Hp) (Ab : List Addr) (po : List (Addr × Obj)) (J : L2.It) (fp : List Addr) (it : Addr) (tn : Nat → Heap → Prop) : Prop where
  T : Turn P w X'.K tg J fp it tn
  st : ∀ b ∈ fp, b ≠ X'.env.locals ∧ b ∉ X'.fs ∧ (b ∈ X'.ex ∨ X'.s_0.heap.objs.size ≤ b) ∧ (∀ x c, X'.env.cells.lookup x = some c → c ≠ b) ∧ ∀ p ∈ X'.pn ++ po, p.1 ≠ b
  wk : Wk G' J v Zb Ab
/-- the inner turns of a generator expression of two clauses -/
theorem seg_in (hK : X'.K = G'.K) (hprog : X'.prog = P) (hw : X'.w = w) (hcalm : X'.calm = true) (hxe : X'.xe = fun _ _ => False) (hpn : X'.pn = []) (henv : X'.env = cenv) (hco : cenv.scope.isCoroutine = false)
    (hA : ∀ i (p : {fr : Frame // FrOk fr}), A1.over (.compLoop (.GeneratorExp elt [⟨tg0, iter0, ifs0, 0⟩, ⟨tg, iter, ifs, 0⟩] scope gpos) 1 i .none cenv) [p.1] = X'.A) (hfs : ∀ p : {fr : Frame // FrOk fr}, splitAtGen [p.1] = none) (hfg : ∀ p : {fr : Frame // FrOk fr}, [p.1].any Frame.guarded = false)
    (good : ∀ po σin, Good po σin → (a, og) ∈ po)
    (cont : ∀ S, C S → ∃ n, ∀ (p : {fr : Frame // FrOk fr}) po σin, Good po σin → ∀ Z A H s₀ s it, Rel G' Z A S H → Fut Hr Zr Ar H Z A → Inv X' po σin H s → Seg (model P w) A1 (genR (genE G' X' Hr Zr Ar K)) (genY G' X' a og Hr Zr Ar all K) n s₀ (.compLoop (.GeneratorExp elt [⟨tg0, iter0, ifs0, 0⟩, ⟨tg, iter, ifs, 0⟩] scope gpos) 1 (.ref it) .none cenv) (leafOf (.ok .next)) [p.1] s)
    (hown : ∀ i ∈ slots t, i ∈ vs) (hg : PG X' tg (gT G' t)) (ht : PTs X' ifs (tT G' ft noW)) (he : PE X' elt (tD G' fe noW)) :
    ∀ (m i : Nat) (S : Store), PostR (anyW (nxt v) (aturnF all t vs ft fe en) m i S) (fun b S2 => if b = true then K true S2 else C S2) (fun _ _ => False) → ∃ n, ∀ (p : {fr : Frame // FrOk fr}) (po : List (Addr × Obj)) (σin : L2.St), Good po σin → ∀ (J : L2.It) (fp : List Addr) (it : Addr) (tn : Nat → Heap → Prop) (Hb Zb : Hp) (Ab : List Addr), InIt G' P w X' tg v Zb Ab po J fp it tn → Fut Hr Zr Ar Hb Zb Ab → EnvR G' Zb Ab (Mp.wipe en vs) σin → L2.wipe σin vs = σin →
      ∀ (Z : Hp) (A : List Addr) (H : Hp) (s₀ s : Shared), Rel G' Z A S H → Fut Hb Zb Ab H Z A → Inv X' po σin H s → tn i s.heap → (∀ b ∈ fp, H b = none) →
      Seg (model P w) A1 (genR (genE G' X' Hr Zr Ar K)) (genY G' X' a og Hr Zr Ar all K) n s₀ (.compLoop (.GeneratorExp elt [⟨tg0, iter0, ifs0, 0⟩, ⟨tg, iter, ifs, 0⟩] scope gpos) 1 (.ref it) .none cenv) ((model P w).den (.compLoop (.GeneratorExp elt [⟨tg0, iter0, ifs0, 0⟩, ⟨tg, iter, ifs, 0⟩] scope gpos) 1 (.ref it) .none cenv)) [p.1] s := by
  subst hprog hw
  intro m
  induction m with
  | zero => intro i S hP; exact hP.elim
  | succ m ih =>
    intro i S hP
    unfold anyW at hP
    cases hn : nxt v i S with
    | none =>
      rw [hn] at hP
      exact hP.elim
    | some o =>
      rw [hn] at hP
      cases o with
      | none =>
        obtain ⟨n, hc⟩ := cont S hP
        refine ⟨n, fun p po σin hG J fp it tn Hb Zb Ab hI hFb hE hσ Z A H s₀ s hR hF I st n0 => ?_⟩
        have stop : J.stop i H := by
          have w2 := hI.wk Z A S H i hR hF.le
          rw [hn] at w2
          exact w2
        have fpk : ∀ b ∈ fp, FpOk X' po H b := fun b hb => ⟨n0 b hb, hI.st b hb⟩
        show Seg _ A1 _ _ _ s₀ _ ((compTurn _ 1 (.ref it) .none cenv).onRaise (inLv cenv)) [p.1] s
        rw [compTurn_in, Sem.onRaise_eq_wrap]
        refine over_eqF (hA _ _) (wpAny_standAt ?_)
        refine over_eqF (hA _ _) (wpAny_mono (hI.T.done X' rfl rfl rfl hcalm i _ s σin H (fun _ _ => False) I fpk st stop) (fun r s1 ⟨hr, I1⟩ => ?_) fun _ _ e => e)
        subst hr
        exact hc p po σin hG Z A H s₀ s1 it hR (hFb.trans hF) I1
      | some d =>
        have hP := PostR.bind (PostR.bind (show PostR ((aturnF all t vs ft fe en d S).bind _) _ _ from hP))
        obtain ⟨en2, hen, hP⟩ := hP.opt
        have hP := PostR.bind hP
        cases hft : ft en2 S with
        | bad => rw [hft] at hP; exact hP.elim
        | exc x S2 => rw [hft] at hP; exact hP.elim
        | ok b S2 =>
          rw [hft] at hP
          have open_ : ∀ (n : Nat) (p : {fr : Frame // FrOk fr}) (po : List (Addr × Obj)) (σin : L2.St), Good po σin → ∀ (J : L2.It) (fp : List Addr) (it : Addr) (tn : Nat → Heap → Prop) (Hb Zb : Hp) (Ab : List Addr), InIt G' X'.prog X'.w X' tg v Zb Ab po J fp it tn → EnvR G' Zb Ab (Mp.wipe en vs) σin → L2.wipe σin vs = σin →
              (∀ (Z : Hp) (A : List Addr) (H : Hp) (s₀ s : Shared) (σ2 : L2.St) (pins : List (Addr × Obj)), Rel G' Z A S2 H → Fut Hb Zb Ab H Z A → EnvR G' Z A en2 σ2 → L2.wipe σ2 vs = σin → Inv X' pins σ2 H s → tn (i + 1) s.heap → (∀ b ∈ fp, H b = none) →
                (∀ b ∈ fp, ∀ o, s.heap.get? b = some o → (b, o) ∈ pins) → (∀ p ∈ po, p ∈ pins) →
                Seg (model X'.prog X'.w) A1 (genR (genE G' X' Hr Zr Ar K)) (genY G' X' a og Hr Zr Ar all K) n s₀ (.compLoop (.GeneratorExp elt [⟨tg0, iter0, ifs0, 0⟩, ⟨tg, iter, ifs, 0⟩] scope gpos) 1 (.ref it) .none cenv)
                  ((if b = true then ((do let v ← eval elt cenv; standAt elt.pos; let _ ← yieldOut cenv v; pure ()) >>= fun _ => again (.compLoop (.GeneratorExp elt [⟨tg0, iter0, ifs0, 0⟩, ⟨tg, iter, ifs, 0⟩] scope gpos) 1 (.ref it) .none cenv)) else again (.compLoop (.GeneratorExp elt [⟨tg0, iter0, ifs0, 0⟩, ⟨tg, iter, ifs, 0⟩] scope gpos) 1 (.ref it) .none cenv)).wrap Sem.pure (fun e => (inLv cenv e).bind fun _ => .raise e) id id) [p.1] s) →
              ∀ (Z : Hp) (A : List Addr) (H : Hp) (s₀ s : Shared), Rel G' Z A S H → Fut Hb Zb Ab H Z A → Inv X' po σin H s → tn i s.heap → (∀ b ∈ fp, H b = none) →
              Seg (model X'.prog X'.w) A1 (genR (genE G' X' Hr Zr Ar K)) (genY G' X' a og Hr Zr Ar all K) n s₀ (.compLoop (.GeneratorExp elt [⟨tg0, iter0, ifs0, 0⟩, ⟨tg, iter, ifs, 0⟩] scope gpos) 1 (.ref it) .none cenv) ((model X'.prog X'.w).den (.compLoop (.GeneratorExp elt [⟨tg0, iter0, ifs0, 0⟩, ⟨tg, iter, ifs, 0⟩] scope gpos) 1 (.ref it) .none cenv)) [p.1] s := by
            intro n p po σin hG J fp it tn Hb Zb Ab hI hE hσ hrest Z A H s₀ s hR hF I st n0
            have w2 := hI.wk Z A S H i hR hF.le
            rw [hn] at w2
            obtain ⟨go, yl⟩ := w2
            have T := hI.T
            show Seg _ A1 _ _ _ s₀ _ ((compTurn _ 1 (.ref it) .none cenv).onRaise (inLv cenv)) [p.1] s
            rw [compTurn_in, Sem.onRaise_eq_wrap]
            refine over_eqF (hA _ _) (wpAny_standAt ?_)
            refine over_eqF (hA _ _) (wpAny_mono (T.item X' rfl rfl rfl hcalm i _ s σin H (fun _ _ => False) I (fun b hb => ⟨n0 b hb, hI.st b hb⟩) st go) (fun r s1 ⟨u, hr, h6⟩ => ?_) fun _ _ e => e)
            subst hr
            refine over_eqF (hA _ _) (wpAny_mono h6 (fun _ s2 ⟨x, H2, I2, rx, y2, st2, n2⟩ => ?_) fun _ _ e => e)
            obtain ⟨Z2, R2, f2, rp2⟩ := yl x H2 y2
            have I2' := I2.pinned (fun b hb => ⟨n2 b hb, hI.st b hb⟩) (T.obj _ _ st2)
            have E2 := hE.mono (hF.trans f2).le
            have hg2 := hg.run _ s2 σin H2 x u (fun σ2 H3 => H3 = H2 ∧ EnvR G' Z2 A en2 σ2 ∧ L2.wipe σ2 vs = σin) I2' rx ⟨Z2, A, S, Mp.wipe en vs, d, en2, R2, E2, rp2, hen, fun σ2 E3 o2 => ⟨rfl, E3, by rw [o2 _ hown, hσ]⟩⟩
            rw [henv, hxe] at hg2
            refine over_eqF (hA _ _) (wpAny_mono hg2 (fun _ s3 ⟨σ3, H3, I3, eH, E3, w3⟩ => ?_) fun _ _ e => e)
            subst eH
            have pin3 : ∀ b ∈ fp, ∀ o, s2.heap.get? b = some o → (b, o) ∈ po ++ pinsAt fp s2.heap := fun b hb o e => List.mem_append_right _ (mem_pinsAt hb e)
            have ht3 := ht.run _ s3 σ3 H3 (fun b' H4 => ∃ Z4 A4, b' = b ∧ Fut H3 Z2 A H4 Z4 A4 ∧ Rel G' Z4 A4 S2 H4) I3 ⟨Z2, A, en2, S, R2, E3, by rw [hft]; exact fun H4 Z4 A4 f4 R4 => ⟨Z4, A4, rfl, f4, R4⟩⟩
            rw [henv, hxe] at ht3
            refine over_eqF (hA _ _) (wpAny_mono ht3 (fun b' s4 ⟨H4, I4, Z4, A4, eb, f4, R4⟩ => ?_) fun _ _ e => e)
            subst eb
            have keep4 : ∀ b ∈ fp, ∀ o, s2.heap.get? b = some o → s4.heap.get? b = some o ∧ H4 b = none := fun b hb o e =>
              let z := I4.pin (b, o) (List.mem_append_right _ (pin3 b hb o e))
              ⟨z.1, z.2.1⟩
            refine hrest Z4 A4 H4 s₀ s4 σ3 _ R4 ((hF.trans f2).trans f4) (E3.mono f4.le) w3 I4 (T.keep _ _ _ st2 fun b hb o e => (keep4 b hb o e).1) (fun b hb => ?_) (fun b hb o e => ?_) fun p hp => List.mem_append_left _ hp
            · obtain ⟨o, e, _⟩ := T.obj _ _ st2 b hb
              exact (keep4 b hb o e).2
            · obtain ⟨o', e', _⟩ := T.obj _ _ st2 b hb
              have := (keep4 b hb o' e').1
              rw [e] at this
              cases this
              exact pin3 b hb o e'
          have back : ∀ {po : List (Addr × Obj)} {σin : L2.St} {H : Hp} {s : Shared} {σ2 : L2.St} {pins : List (Addr × Obj)}, L2.wipe σ2 vs = σin → Inv X' pins σ2 H s → (∀ p ∈ po, p ∈ pins) → Inv X' po σin H s := fun {po σin H s σ2 pins} hw2 I ha => by
            have hl : σin.length = σ2.length := by rw [← hw2, wipe_length]
            refine (I.pins_of (pins' := po) fun p hp => ?_).weak hl fun j x e => ?_
            · exact I.pin p (List.mem_append_right _ (ha p hp))
            · rw [← hw2] at e
              exact (wipe_some e).1
          cases b with
          | false =>
            obtain ⟨n, hn2⟩ := ih (i + 1) S2 hP
            refine ⟨n, fun p po σin hG J fp it tn Hb Zb Ab hI hFb hE hσ => open_ n p po σin hG J fp it tn Hb Zb Ab hI hE hσ fun Z A H s₀ s σ2 pins hR hF hE2 hw2 I st n0 hpf hpa => ?_⟩
            exact seg_again rfl (hn2 p po σin hG J fp it tn Hb Zb Ab hI hFb hE hσ Z A H s₀ s hR hF (back hw2 I hpa) st n0)
          | true =>
            have hP := PostR.bind (show PostR ((fe en2 S2).bind fun x S => opt ((boolD x).map fun t => t != all) S) _ _ from hP)
            cases hfe : fe en2 S2 with
            | bad => rw [hfe] at hP; exact hP.elim
            | exc x S3 => rw [hfe] at hP; exact hP.elim
            | ok x S3 =>
              rw [hfe] at hP
              obtain ⟨r, hr, hP⟩ := PostR.opt hP
              obtain ⟨tt, htt, rfl⟩ := Option.map_eq_some_iff.mp hr
              have hy : ∀ v, yieldOut cenv v = yieldValue v := fun v => by simp only [yieldOut, hco, Bool.false_eq_true, if_false]
              have yield_ : ∀ (n : Nat), (if (tt != all) = true then K true S3 else ∀ (p : {fr : Frame // FrOk fr}) (po : List (Addr × Obj)) (σin : L2.St), Good po σin → ∀ (J : L2.It) (fp : List Addr) (it : Addr) (tn : Nat → Heap → Prop) (Hb Zb : Hp) (Ab : List Addr), InIt G' X'.prog X'.w X' tg v Zb Ab po J fp it tn → Fut Hr Zr Ar Hb Zb Ab → EnvR G' Zb Ab (Mp.wipe en vs) σin → L2.wipe σin vs = σin →
                    ∀ (Z : Hp) (A : List Addr) (H : Hp) (s₀ s : Shared), Rel G' Z A S3 H → Fut Hb Zb Ab H Z A → Inv X' po σin H s → tn (i + 1) s.heap → (∀ b ∈ fp, H b = none) →
                    Seg (model X'.prog X'.w) A1 (genR (genE G' X' Hr Zr Ar K)) (genY G' X' a og Hr Zr Ar all K) n s₀ (.compLoop (.GeneratorExp elt [⟨tg0, iter0, ifs0, 0⟩, ⟨tg, iter, ifs, 0⟩] scope gpos) 1 (.ref it) .none cenv) ((model X'.prog X'.w).den (.compLoop (.GeneratorExp elt [⟨tg0, iter0, ifs0, 0⟩, ⟨tg, iter, ifs, 0⟩] scope gpos) 1 (.ref it) .none cenv)) [p.1] s) →
                  ∃ n, ∀ (p : {fr : Frame // FrOk fr}) (po : List (Addr × Obj)) (σin : L2.St), Good po σin → ∀ (J : L2.It) (fp : List Addr) (it : Addr) (tn : Nat → Heap → Prop) (Hb Zb : Hp) (Ab : List Addr), InIt G' X'.prog X'.w X' tg v Zb Ab po J fp it tn → Fut Hr Zr Ar Hb Zb Ab → EnvR G' Zb Ab (Mp.wipe en vs) σin → L2.wipe σin vs = σin →
                    ∀ (Z : Hp) (A : List Addr) (H : Hp) (s₀ s : Shared), Rel G' Z A S H → Fut Hb Zb Ab H Z A → Inv X' po σin H s → tn i s.heap → (∀ b ∈ fp, H b = none) →
                    Seg (model X'.prog X'.w) A1 (genR (genE G' X' Hr Zr Ar K)) (genY G' X' a og Hr Zr Ar all K) n s₀ (.compLoop (.GeneratorExp elt [⟨tg0, iter0, ifs0, 0⟩, ⟨tg, iter, ifs, 0⟩] scope gpos) 1 (.ref it) .none cenv) ((model X'.prog X'.w).den (.compLoop (.GeneratorExp elt [⟨tg0, iter0, ifs0, 0⟩, ⟨tg, iter, ifs, 0⟩] scope gpos) 1 (.ref it) .none cenv)) [p.1] s := by
                intro n hk
                refine ⟨n + 1, fun p po σin hG J fp it tn Hb Zb Ab hI hFb hE hσ => open_ (n + 1) p po σin hG J fp it tn Hb Zb Ab hI hE hσ fun Z A H s₀ s σ2 pins hR hF hE2 hw2 I st n0 hpf hpa => ?_⟩
                have hap := hpa _ (good _ _ hG)
                rw [if_pos rfl]
                simp only [hy]
                have he2 := he.run _ s σ2 H (fun y H5 => ∃ Z5 A5, Fut H Z A H5 Z5 A5 ∧ Rel G' Z5 A5 S3 H5 ∧ Rp G' Z5 A5 y x) I ⟨Z, A, en2, S2, hR, hE2, by rw [hfe]; exact fun y H5 Z5 A5 f5 R5 r5 => ⟨Z5, A5, f5, R5, r5⟩⟩
                rw [henv, hxe] at he2
                rw [Sem.bind_eq_wrap', Sem.bind_eq_wrap', Sem.wrap_wrap, Sem.wrap_wrap]
                refine seg_wrap ?_
                rw [hA]
                refine wpAny_mono he2 (fun u s5 ⟨y, H5, I5, ry, Z5, A5, f5, R5, r5⟩ => ?_) fun _ _ e => e.elim
                have ev : u = .bool tt := by
                  cases x <;> simp [boolD] at htt
                  subst htt
                  cases r5
                  exact ry
                have T := hI.T
                have st5 : tn (i + 1) s5.heap := T.keep _ _ _ st fun b hb o e => (I5.pin (b, o) (List.mem_append_right _ (hpf b hb o e))).1
                have n5 : ∀ b ∈ fp, H5 b = none := fun b hb => by
                  obtain ⟨o, e, _⟩ := T.obj _ _ st b hb
                  exact (I5.pin (b, o) (List.mem_append_right _ (hpf b hb o e))).2.1
                refine seg_at (seg_yield (hfs p) rfl (hfg p) ⟨Z5, A5, S3, H5, tt, σ2, pins, R5, hFb.trans (hF.trans f5), I5, (I5.pin (a, og) (List.mem_append_right _ hap)).1, ev, ?_⟩)
                by_cases hq : (tt != all) = true
                · rw [if_pos hq] at hk ⊢
                  exact hk
                · rw [if_neg hq] at hk ⊢
                  intro s'' hl
                  refine seg_again rfl (hk p po σin hG J fp it tn Hb Zb Ab hI hFb hE hσ Z5 A5 H5 s'' s'' R5 (hF.trans f5) (back hw2 (inv_same I5 hl.1 hl.2.1 hl.2.2) hpa) (by rw [hl.1]; exact st5) n5)
              by_cases hq : (tt != all) = true
              · refine yield_ 0 ?_
                rw [if_pos hq]
                rw [hq] at hP
                exact hP
              · have e : (tt != all) = false := by simpa using hq
                rw [e] at hP
                obtain ⟨n, hn2⟩ := ih (i + 1) S3 hP
                refine yield_ n ?_
                rw [if_neg hq]
                exact hn2
end
end Mp
set_option maxHeartbeats 1000000
/-! Mp.Gen9: the turns of a generator expression of two clauses. -/
namespace Mp
open PySem PySem.Spec PyProof.Rows L2 GenW
theorem compTurn_out (elt tg iter tg1 iter1 : Expr) (ifs ifs1 : List Expr) (scope : Scope) (pos : Pos) (it acc : Value) (env : Env) :
    compTurn (.GeneratorExp elt [⟨tg, iter, ifs, 0⟩, ⟨tg1, iter1, ifs1, 0⟩] scope pos) 0 it acc env = (do
      standAt iter.pos
      match ← pyNext it with
      | none => pure (.done .next)
      | some v =>
        letOwnedTupleGo tg it v
        assign tg env v
        let mut ok := true
        for c in ifs do
          if ok then ok ← isTrue c env (eval c env)
        if ok then
          let x ← eval iter1 env
          standAt iter1.pos
          let x ← foldedSetIterable iter1 env x
          let _ ← runOwn (.compStart (.GeneratorExp elt [⟨tg, iter, ifs, 0⟩, ⟨tg1, iter1, ifs1, 0⟩] scope pos) 1 (← holding [x] (pyIter x)) acc env) env
        again (.compLoop (.GeneratorExp elt [⟨tg, iter, ifs, 0⟩, ⟨tg1, iter1, ifs1, 0⟩] scope pos) 0 it acc env)) := by rfl
def aturnF2 (all : Bool) (t : Tg) (own : List Nat) (ft : FT) (fi1 : FI) (t1 : Tg) (ft1 : FT) (fe : FE) (env : EnvD) : D → Store → R Bool := fun d S => (opt (asg t d (wipe env own)) S).bind fun en S => (ft en S).bind fun b S =>
  if b then (fi1 en S).bind fun v' S => anyItv (aturnF all t1 (slots t1) ft1 fe en) v' S else .ok false S
def genF2 (all : Bool) (own : List Nat) (t : Tg) (fi : FI) (ft : FT) (fi1 : FI) (t1 : Tg) (ft1 : FT) (fe : FE) : FE := fun env S => (fi env S).bind fun v S1 => (noX (anyItv (aturnF2 all t own ft fi1 t1 ft1 fe env) v S1)).bind fun b S2 => .ok (.bool (b != all)) S2
section
variable {G' : Wd} {P : Program} {w : World} {X X' : Cx} {a : Addr} {og : Obj} {Hr Zr : Hp} {Ar : List Addr} {all : Bool} {K : Bool → Store → Prop} {σw : L2.St} {vs : List Nat} {env : EnvD}
  {elt tg iter tg1 iter1 : Expr} {ifs ifs1 : List Expr} {scope : Scope} {gpos : Pos} {t t1 : Tg} {ft ft1 : FT} {fi1 : FI} {fe : FE} {J : L2.It} {v : Itv} {fp : List Addr} {it : Addr} {tn : Nat → Heap → Prop} {cenv : Env} {A1 : Around}
/-- the turns of a generator expression of two clauses -/
theorem seg_two (hK : X'.K = G'.K) (hprog : X'.prog = P) (hw : X'.w = w) (hcalm : X'.calm = true) (hxe : X'.xe = fun _ _ => False) (hpn : X'.pn = []) (henv : X'.env = cenv) (hex : X'.ex = fp) (hco : cenv.scope.isCoroutine = false)
    (hA : ∀ i, A1.over (.compLoop (.GeneratorExp elt [⟨tg, iter, ifs, 0⟩, ⟨tg1, iter1, ifs1, 0⟩] scope gpos) 0 i .none cenv) [] = X'.A)
    (T : Turn P w X'.K tg J fp it tn) (stat : ∀ (H : Hp) (pins : List (Addr × Obj)) (σ : L2.St) (s : Shared), Inv X' pins σ H s → (∀ p ∈ pins, p.1 ∉ fp) → (∀ b ∈ fp, H b = none) → ∀ b ∈ fp, FpOk X' pins H b) (hafp : a ∉ fp)
    (wk : Wk G' J v Zr Ar) (hE : EnvR G' Zr Ar (Mp.wipe env vs) σw) (hσ : L2.wipe σw vs = σw) (hown : ∀ i ∈ slots t, i ∈ vs)
    (hg : PG X' tg (gT G' t)) (ht : PTs X' ifs (tT G' ft noW)) (hi1 : PI X' tg1 iter1 (tI G' fi1 noW)) (hs1 : ∀ env x, foldedSetIterable iter1 env x = pure x) (hown1 : ∀ i ∈ slots t1, i ∈ vs) (hg1 : PG X' tg1 (gT G' t1)) (ht1 : PTs X' ifs1 (tT G' ft1 noW)) (he : PE X' elt (tD G' fe noW)) :
    ∀ (m i : Nat) (S : Store), PostR (anyW (nxt v) (aturnF2 all t vs ft fi1 t1 ft1 fe env) m i S) K (fun _ _ => False) → ∃ n, ∀ (Z : Hp) (A : List Addr) (H : Hp) (s₀ s : Shared), Rel G' Z A S H → Fut Hr Zr Ar H Z A → Inv X' [(a, og)] σw H s → tn i s.heap → (∀ b ∈ fp, H b = none) →
      Seg (model P w) A1 (genR (genE G' X' Hr Zr Ar K)) (genY G' X' a og Hr Zr Ar all K) n s₀ (.compLoop (.GeneratorExp elt [⟨tg, iter, ifs, 0⟩, ⟨tg1, iter1, ifs1, 0⟩] scope gpos) 0 (.ref it) .none cenv)
        ((model P w).den (.compLoop (.GeneratorExp elt [⟨tg, iter, ifs, 0⟩, ⟨tg1, iter1, ifs1, 0⟩] scope gpos) 0 (.ref it) .none cenv)) [] s := by
  subst hprog hw
  intro m
  induction m with
  | zero => intro i S hP; exact hP.elim
  | succ m ih =>
    intro i S hP
    unfold anyW at hP
    have aone : ∀ p ∈ [(a, og)], p.1 ∉ fp := fun p hp => by
      have e : p = (a, og) := by simpa using hp
      rw [e]
      exact hafp
    cases hn : nxt v i S with
    | none =>
      rw [hn] at hP
      exact hP.elim
    | some o =>
      rw [hn] at hP
      cases o with
      | none =>
        refine ⟨0, fun Z A H s₀ s hR hF I st n0 => ?_⟩
        have stop : J.stop i H := by
          have w2 := wk Z A S H i hR hF.le
          rw [hn] at w2
          exact w2
        show Seg _ A1 _ _ _ s₀ _ ((compTurn _ 0 (.ref it) .none cenv).onRaise (leaving cenv)) [] s
        rw [compTurn_out, Sem.onRaise_eq_wrap]
        refine over_eq (hA _) (wpAny_standAt ?_)
        refine over_eq (hA _) (wpAny_mono (T.done X' rfl rfl rfl hcalm i _ s σw H (fun _ _ => False) I (stat _ _ _ _ I aone n0) st stop) (fun r s1 ⟨hr, I1⟩ => ?_) fun _ _ e => e)
        subst hr
        exact seg_end (.ok .next) ⟨rfl, Z, A, S, H, _, _, hR, hF, I1, hP⟩
      | some d =>
        have hP := PostR.bind (PostR.bind (show PostR ((aturnF2 all t vs ft fi1 t1 ft1 fe env d S).bind _) _ _ from hP))
        obtain ⟨en, hen, hP⟩ := hP.opt
        have hP := PostR.bind hP
        -- what the data say
        cases hft : ft en S with
        | bad => rw [hft] at hP; exact hP.elim
        | exc x S2 => rw [hft] at hP; exact hP.elim
        | ok b S2 =>
          rw [hft] at hP
          -- up to the test
          have open_ : ∀ (n : Nat), (∀ (Z : Hp) (A : List Addr) (H : Hp) (s₀ s : Shared) (σ2 : L2.St) (pins : List (Addr × Obj)), Rel G' Z A S2 H → Fut Hr Zr Ar H Z A → EnvR G' Z A en σ2 → L2.wipe σ2 vs = σw → Inv X' pins σ2 H s → s.heap.get? a = some og → tn (i + 1) s.heap → (∀ b ∈ fp, H b = none) →
                (∀ b ∈ fp, ∀ o, s.heap.get? b = some o → (b, o) ∈ pins) → ((a, og) ∈ pins) →
                Seg (model X'.prog X'.w) A1 (genR (genE G' X' Hr Zr Ar K)) (genY G' X' a og Hr Zr Ar all K) n s₀ (.compLoop (.GeneratorExp elt [⟨tg, iter, ifs, 0⟩, ⟨tg1, iter1, ifs1, 0⟩] scope gpos) 0 (.ref it) .none cenv)
                  ((if b = true then (do let x ← eval iter1 cenv; standAt iter1.pos; let x ← foldedSetIterable iter1 cenv x; let _ ← runOwn (.compStart (.GeneratorExp elt [⟨tg, iter, ifs, 0⟩, ⟨tg1, iter1, ifs1, 0⟩] scope gpos) 1 (← holding [x] (pyIter x)) .none cenv) cenv; again (.compLoop (.GeneratorExp elt [⟨tg, iter, ifs, 0⟩, ⟨tg1, iter1, ifs1, 0⟩] scope gpos) 0 (.ref it) .none cenv)) else again (.compLoop (.GeneratorExp elt [⟨tg, iter, ifs, 0⟩, ⟨tg1, iter1, ifs1, 0⟩] scope gpos) 0 (.ref it) .none cenv)).wrap Sem.pure (fun e => (leaving cenv e).bind fun _ => .raise e) id id) [] s) →
              ∀ (Z : Hp) (A : List Addr) (H : Hp) (s₀ s : Shared), Rel G' Z A S H → Fut Hr Zr Ar H Z A → Inv X' [(a, og)] σw H s → tn i s.heap → (∀ b ∈ fp, H b = none) →
              Seg (model X'.prog X'.w) A1 (genR (genE G' X' Hr Zr Ar K)) (genY G' X' a og Hr Zr Ar all K) n s₀ (.compLoop (.GeneratorExp elt [⟨tg, iter, ifs, 0⟩, ⟨tg1, iter1, ifs1, 0⟩] scope gpos) 0 (.ref it) .none cenv)
                ((model X'.prog X'.w).den (.compLoop (.GeneratorExp elt [⟨tg, iter, ifs, 0⟩, ⟨tg1, iter1, ifs1, 0⟩] scope gpos) 0 (.ref it) .none cenv)) [] s := by
            intro n hrest Z A H s₀ s hR hF I st n0
            have w2 := wk Z A S H i hR hF.le
            rw [hn] at w2
            obtain ⟨go, yl⟩ := w2
            show Seg _ A1 _ _ _ s₀ _ ((compTurn _ 0 (.ref it) .none cenv).onRaise (leaving cenv)) [] s
            rw [compTurn_out, Sem.onRaise_eq_wrap]
            refine over_eq (hA _) (wpAny_standAt ?_)
            refine over_eq (hA _) (wpAny_mono (T.item X' rfl rfl rfl hcalm i _ s σw H (fun _ _ => False) I (stat _ _ _ _ I aone n0) st go) (fun r s1 ⟨u, hr, h6⟩ => ?_) fun _ _ e => e)
            subst hr
            refine over_eq (hA _) (wpAny_mono h6 (fun _ s2 ⟨x, H2, I2, rx, y2, st2, n2⟩ => ?_) fun _ _ e => e)
            obtain ⟨Z2, R2, f2, rp2⟩ := yl x H2 y2
            have I2' := I2.pinned (stat _ _ _ _ I2 aone n2) (T.obj _ _ st2)
            have E2 := hE.mono (hF.trans f2).le
            have hg2 := hg.run _ s2 σw H2 x u (fun σ2 H3 => H3 = H2 ∧ EnvR G' Z2 A en σ2 ∧ L2.wipe σ2 vs = σw) I2' rx ⟨Z2, A, S, Mp.wipe env vs, d, en, R2, E2, rp2, hen, fun σ2 E3 o2 => ⟨rfl, E3, by rw [o2 _ hown, hσ]⟩⟩
            rw [henv, hxe] at hg2
            refine over_eq (hA _) (wpAny_mono hg2 (fun _ s3 ⟨σ3, H3, I3, eH, E3, w3⟩ => ?_) fun _ _ e => e)
            subst eH
            have pin3 : ∀ b ∈ fp, ∀ o, s2.heap.get? b = some o → (b, o) ∈ [(a, og)] ++ pinsAt fp s2.heap := fun b hb o e => List.mem_append_right _ (mem_pinsAt hb e)
            have ht3 := ht.run _ s3 σ3 H3 (fun b' H4 => ∃ Z4 A4, b' = b ∧ Fut H3 Z2 A H4 Z4 A4 ∧ Rel G' Z4 A4 S2 H4) I3 ⟨Z2, A, en, S, R2, E3, by rw [hft]; exact fun H4 Z4 A4 f4 R4 => ⟨Z4, A4, rfl, f4, R4⟩⟩
            rw [henv, hxe] at ht3
            refine over_eq (hA _) (wpAny_mono ht3 (fun b' s4 ⟨H4, I4, Z4, A4, eb, f4, R4⟩ => ?_) fun _ _ e => e)
            subst eb
            have keep4 : ∀ b ∈ fp, ∀ o, s2.heap.get? b = some o → s4.heap.get? b = some o ∧ H4 b = none := fun b hb o e =>
              let z := I4.pin (b, o) (List.mem_append_right _ (pin3 b hb o e))
              ⟨z.1, z.2.1⟩
            refine hrest Z4 A4 H4 s₀ s4 σ3 _ R4 ((hF.trans f2).trans f4) (E3.mono f4.le) w3 I4 ?_ (T.keep _ _ _ st2 fun b hb o e => (keep4 b hb o e).1) (fun b hb => ?_) (fun b hb o e => ?_) (List.mem_append_left _ (by simp))
            · exact (I4.pin (a, og) (List.mem_append_right _ (List.mem_append_left _ (by simp)))).1
            · obtain ⟨o, e, _⟩ := T.obj _ _ st2 b hb
              exact (keep4 b hb o e).2
            · obtain ⟨o', e', _⟩ := T.obj _ _ st2 b hb
              have := (keep4 b hb o' e').1
              rw [e] at this
              cases this
              exact pin3 b hb o e'
          -- back at the loop's head
          have back : ∀ {H : Hp} {s : Shared} {σ2 : L2.St} {pins : List (Addr × Obj)}, L2.wipe σ2 vs = σw → Inv X' pins σ2 H s → (a, og) ∈ pins → Inv X' [(a, og)] σw H s := fun {H s σ2 pins} hw2 I ha => by
            have hl : σw.length = σ2.length := by rw [← hw2, wipe_length]
            refine (I.pins_of (pins' := [(a, og)]) fun p hp => ?_).weak hl fun j x e => ?_
            · have e : p = (a, og) := by simpa using hp
              subst e
              exact I.pin (a, og) (List.mem_append_right _ ha)
            · rw [← hw2] at e
              exact (wipe_some e).1
          cases b with
          | false =>
            obtain ⟨n, hn2⟩ := ih (i + 1) S2 hP
            refine ⟨n, open_ n fun Z A H s₀ s σ2 pins hR hF hE2 hw2 I ha st n0 hpf hpa => ?_⟩
            exact seg_again rfl (hn2 Z A H s₀ s hR hF (back hw2 I hpa) st n0)
          | true =>
            have hP := PostR.bind (show PostR ((fi1 en S2).bind fun v' S => anyItv (aturnF all t1 (slots t1) ft1 fe en) v' S) _ _ from hP)
            cases hfi : fi1 en S2 with
            | bad => rw [hfi] at hP; exact hP.elim
            | exc x S3 => rw [hfi] at hP; exact hP.elim
            | ok v' S3 =>
              rw [hfi] at hP
              have hP : PostR (anyItv (aturnF all t1 (slots t1) ft1 fe en) v' S3) _ _ := hP
              obtain ⟨m', hm'⟩ := anyItv_W (aturnF all t1 (slots t1) ft1 fe en) v' S3
              rw [hm'] at hP
              let Good : List (Addr × Obj) → L2.St → Prop := fun po σin => (a, og) ∈ po ∧ L2.wipe σin vs = σw ∧ ∃ h, tn (i + 1) h ∧ ∀ b ∈ fp, ∀ o, h.get? b = some o → (b, o) ∈ po
              let Sg : Nat → Shared → Code → Sem PySem.Fin → List Frame → Shared → Prop := fun n s₀ c x fs s => Seg (model X'.prog X'.w) A1 (genR (genE G' X' Hr Zr Ar K)) (genY G' X' a og Hr Zr Ar all K) n s₀ c x fs s
              let FrOk : Frame → Prop := fun fr => (∀ i, A1.over (.compLoop (.GeneratorExp elt [⟨tg, iter, ifs, 0⟩, ⟨tg1, iter1, ifs1, 0⟩] scope gpos) 1 i .none cenv) [fr] = X'.A ∧ A1.over (.compStart (.GeneratorExp elt [⟨tg, iter, ifs, 0⟩, ⟨tg1, iter1, ifs1, 0⟩] scope gpos) 1 i .none cenv) [fr] = X'.A) ∧ splitAtGen [fr] = none ∧ [fr].any Frame.guarded = false ∧ ∀ n s₀ s it1, Sg n s₀ (.compLoop (.GeneratorExp elt [⟨tg, iter, ifs, 0⟩, ⟨tg1, iter1, ifs1, 0⟩] scope gpos) 0 (.ref it) .none cenv) ((model X'.prog X'.w).den (.compLoop (.GeneratorExp elt [⟨tg, iter, ifs, 0⟩, ⟨tg1, iter1, ifs1, 0⟩] scope gpos) 0 (.ref it) .none cenv)) [] s → Sg n s₀ (.compLoop (.GeneratorExp elt [⟨tg, iter, ifs, 0⟩, ⟨tg1, iter1, ifs1, 0⟩] scope gpos) 1 (.ref it1) .none cenv) (leafOf (.ok .next)) [fr] s
              obtain ⟨n, hin⟩ := seg_in (G' := G') (P := X'.prog) (w := X'.w) (X' := X') (a := a) (og := og) (Hr := Hr) (Zr := Zr) (Ar := Ar) (all := all) (K := K) (vs := slots t1) (en := en) (elt := elt) (tg0 := tg) (iter0 := iter) (tg := tg1) (iter := iter1) (ifs0 := ifs) (ifs := ifs1) (scope := scope) (gpos := gpos) (t := t1) (ft := ft1) (fe := fe) (v := v') (cenv := cenv) (A1 := A1) (FrOk := FrOk)
                (C := fun S => PostR (anyW (nxt v) (aturnF2 all t vs ft fi1 t1 ft1 fe env) m (i + 1) S) K fun _ _ => False) (Good := Good) hK rfl rfl hcalm hxe hpn henv hco (fun j p => (p.2.1 j).1) (fun p => p.2.2.1) (fun p => p.2.2.2.1) (fun po σin h => h.1)
                (fun S hC => by
                  obtain ⟨n, hn2⟩ := ih (i + 1) S hC
                  refine ⟨n, fun p po σin ⟨g1, g2, h0, g3, g4⟩ Z A H s₀ s it1 hR hF I => p.2.2.2.2 n s₀ s it1 (hn2 Z A H s₀ s hR hF (back g2 I g1) (T.keep _ _ _ g3 fun b hb o e => (I.pin (b, o) (List.mem_append_right _ (g4 b hb o e))).1) fun b hb => ?_)⟩
                  obtain ⟨o, e, _⟩ := T.obj _ _ g3 b hb
                  exact (I.pin (b, o) (List.mem_append_right _ (g4 b hb o e))).2.1)
                (fun i hi => hi) hg1 ht1 he m' 0 S3 (hP.mono (fun b S4 _ h => by
                  cases b with
                  | true => exact h
                  | false => exact h) fun _ _ h => h)
              refine ⟨n, open_ n fun Z A H s₀ s σ2 pins hR hF hE2 hw2 I ha st n0 hpf hpa => ?_⟩
              rw [if_pos rfl]
              have hi2 := hi1.run _ s σ2 H (fun J2 H5 => ∃ Z5 A5, Fut H Z A H5 Z5 A5 ∧ Rel G' Z5 A5 S3 H5 ∧ Wk G' J2 v' Z5 A5) I ⟨Z, A, en, S2, hR, hE2, by rw [hfi]; exact fun J2 H5 Z5 A5 f5 R5 w5 => ⟨Z5, A5, f5, R5, w5⟩⟩
              rw [henv, hxe] at hi2
              refine over_eq (hA _) (wpAny_mono hi2 (fun x s4 h4 => ?_) fun _ _ e => e)
              refine over_eq (hA _) (wpAny_standAt ?_)
              refine over_eq (hA _) (wpAny_of_eq (hs1 cenv x) ?_)
              refine over_eq (hA _) (wpAny_holding (wpAny_mono h4 (fun itv s5 h5 => ?_) fun _ _ e => e))
              obtain ⟨it1, fp1, tn1, J1, H5, e, I5, T1, t5, fpk, Z5, A5, f5, R5, w5⟩ := h5
              subst e
              refine seg_call fun p => ?_
              have fin : ∀ fr, FrOk fr → Seg (model X'.prog X'.w) A1 (genR (genE G' X' Hr Zr Ar K)) (genY G' X' a og Hr Zr Ar all K) n s₀ (.compStart (.GeneratorExp elt [⟨tg, iter, ifs, 0⟩, ⟨tg1, iter1, ifs1, 0⟩] scope gpos) 1 (.ref it1) .none cenv) ((model X'.prog X'.w).den (.compStart (.GeneratorExp elt [⟨tg, iter, ifs, 0⟩, ⟨tg1, iter1, ifs1, 0⟩] scope gpos) 1 (.ref it1) .none cenv)) [fr] s5 := fun fr ok => by
                have hS := fun i => (ok.1 i).2
                have loop := hin ⟨fr, ok⟩ pins (L2.wipe σ2 (slots t1)) ⟨hpa, by rw [wipe_wipe _ _ _ hown1, hw2], s.heap, st, hpf⟩ J1 fp1 it1 tn1 H5 Z5 A5 ⟨T1, fun b hb => (fpk b hb).2, w5⟩ (hF.trans f5) ((hE2.mono f5.le).wipe _) (wipe_wipe _ _ _ fun u hu => hu)
                  Z5 A5 H5 s₀ s5 R5 .refl (I5.weak (wipe_length _ _) fun j x e => (wipe_some e).1) t5 fun b hb => (fpk b hb).1
                show Seg _ A1 _ _ _ s₀ _ ((compStart (.GeneratorExp elt [⟨tg, iter, ifs, 0⟩, ⟨tg1, iter1, ifs1, 0⟩] scope gpos) 1 (.ref it1) .none cenv).onRaise (fun x => do noteFrame x cenv; standAt theWindowsPlace)) [fr] s5
                unfold compStart
                rw [Sem.onRaise_eq_wrap]
                show Seg _ A1 _ _ _ s₀ _ ((ask >>= _).wrap _ _ _ _) [fr] s5
                refine over_eqF (hS _) (wpAny_askSetting ?_)
                split
                · exact seg_again rfl loop
                · refine over_eqF (hS _) (wpAny_rule ?_)
                  show Seg _ A1 _ _ _ s₀ _ ((standAt iter1.pos >>= _).wrap _ _ _ _) [fr] s5
                  refine over_eqF (hS _) (wpAny_standAt ?_)
                  exact over_eqF (hS _) (T1.self X'.A 0 s5 _ _ t5 (seg_again rfl loop))
              exact fin _ ⟨fun i => ⟨(over_loop rfl rfl).trans (hA _), (over_loop rfl rfl).trans (hA _)⟩, rfl, rfl, fun n s₀ s it1 h => seg_leaf (.ok .next) (seg_again rfl h)⟩
end
end Mp
set_option maxHeartbeats 1000000
/-! Mp.Gen10: any, all of a generator expression of two clauses. -/
namespace PySem
open Sem (wp)
theorem mpEvalGen2 (elt tg iter tg1 iter1 : Expr) (ifs ifs1 : List Expr) (scope : Scope) (pos : Pos) (env : Env) (hco : scope.isCoroutine = false) :
    eval (.GeneratorExp elt [⟨tg, iter, ifs, 0⟩, ⟨tg1, iter1, ifs1, 0⟩] scope pos) env = (eval iter env >>= fun x => standAt iter.pos >>= fun _ => genFold iter env x >>= fun x => holding [x] (pyIter x) >>= fun it => enterFrame >>= fun _ => closureFor scope env >>= fun cl =>
      genexprCode env pos (env.qual ++ "<genexpr>") scope >>= fun code => builtinsFor env.globals env.builtins >>= fun bi => newFunctionEnv scope env.globals cl [(".0", it)] (env.qual ++ "<genexpr>.") none code none bi >>= fun cenv =>
      newGenerator (.compStart (.GeneratorExp elt [⟨tg, iter, ifs, 0⟩, ⟨tg1, iter1, ifs1, 0⟩] scope pos) 0 it .none cenv) "<genexpr>" (env.qual ++ "<genexpr>")) := by
  rw [arm_eval_GeneratorExp]
  simp only [hco, Bool.false_eq_true, if_false]
  cases iter <;> rfl
section
variable {M : Model} {A : Around} {E : Value → Shared → Prop} {s : Shared}
theorem mpGenMake2 {env : Env} {elt tg iter tg1 iter1 : Expr} {ifs ifs1 : List Expr} {scope : Scope} {cl : List (Str × Addr)} {pos : Pos} {Q : Value → Shared → Prop}
    (hco : scope.isCoroutine = false) (hclos : closureFor scope env = pure cl) (hcell : ∀ y ∈ scope.names, y.2 ≠ .cell) (h0 : scope.names.lookup (".0" : Str) = some NameKind.local) (hkind : scope.kind = .function) (hroom : A.depth < recursionLimit)
    (h : wpAny M A (eval iter env) (fun xv s1 => wpAny M A (pyIter xv) (fun it s2 => s2.heap.NoLimit ∧ wpAny M A (genexprCode env pos (env.qual ++ "<genexpr>") scope) (fun code s3 => wpAny M A (builtinsFor env.globals env.builtins) (fun bi s4 =>
        ∀ h', h'.Ns s4.heap.objs.size (fun y => if y = ".0" then some it else none) → Heap.SameBut s4.heap.objs.size (s4.heap.push { cls := .type "frame", data := .dict #[] }) h' → Q (.ref h'.objs.size) { s4 with
            gens := s4.gens.push (.fresh (.compStart (.GeneratorExp elt [⟨tg, iter, ifs, 0⟩, ⟨tg1, iter1, ifs1, 0⟩] scope pos) 0 it .none (genEnv scope cl s4.heap.objs.size code bi env))), toks := s4.toks + 1 + 1 + 1,
            heap := h'.push { cls := .type "generator", data := .fields #[.int s4.gens.size 0, .str "<genexpr>" (s4.toks + 1), .str (env.qual ++ "<genexpr>") (s4.toks + 1 + 1)] } }) E s3) E s2) E s1) E s)
    (hs : ∀ x, genFold iter env x = pure x) : wpAny M A (eval (.GeneratorExp elt [⟨tg, iter, ifs, 0⟩, ⟨tg1, iter1, ifs1, 0⟩] scope pos) env) Q E s := by
  rw [mpEvalGen2 _ _ _ _ _ _ _ _ _ _ hco, hclos]
  refine wpAny_bind (wpAny_mono h (fun xv s1 h1 => wpAny_bind (wpAny_standAt (wpAny_bind (wpAny_of_eq (hs xv) (wpAny_bind (wpAny_holding (wpAny_mono h1 (fun it s2 h2 => ?_) fun _ _ e => e))))))) fun _ _ e => e)
  refine wpAny_bind (wpAny_enterFrame h2.1 hroom (wpAny_bind (wpAny_pure (wpAny_bind (wpAny_mono h2.2 (fun code s3 h3 => wpAny_bind (wpAny_mono h3 (fun bi s4 h4 => ?_) fun _ _ e => e)) fun _ _ e => e)))))
  have hb : ∀ y ∈ ([((".0" : Str), it)] : List (Str × Value)), scope.names.lookup y.1 = some NameKind.local := fun y hy => by
    have e : y = ((".0" : Str), it) := by simpa using hy
    rw [e]
    exact h0
  refine wpAny_bind (wpAny_newFunctionEnv hcell hb (fun h' hn' hs' => ?_) hkind)
  have e : (fun y : Str => ([((".0" : Str), it)] : List (Str × Value)).reverse.lookup y) = fun y : Str => if y = (".0" : Str) then some it else none := by
    funext y
    by_cases hy : y = ".0"
    · subst hy
      simp
    · have : (y == (".0" : Str)) = false := by simpa using hy
      simp [List.lookup, this, hy]
  rw [e] at hn'
  simp only [newGenerator, newFields]
  exact wpAny_bind (wpAny_newGen (wpAny_bind (wpAny_mkText (wpAny_bind (wpAny_mkText (wpAny_newObj_type (h4 h' hn' hs') (by size_fits)))))))
end
end PySem
namespace Mp
open PySem PySem.Spec PyProof.Rows L2 GenW
/-- the generator's start -/
theorem seg_begin2 {P : Program} {w : World} {A1 A' : Around} {R : GenEnd} {Y : Protocol} {n : Nat} {s₀ s : Shared} {elt tg iter tg1 iter1 : Expr} {ifs ifs1 : List Expr} {scope : Scope} {gpos : Pos} {it : Addr} {cenv : Env} {tn : Nat → Heap → Prop} {fp : List Addr} {J : L2.It} {K : PySem.W.Frag}
    (hA : ∀ i, A1.over (.compStart (.GeneratorExp elt [⟨tg, iter, ifs, 0⟩, ⟨tg1, iter1, ifs1, 0⟩] scope gpos) 0 i .none cenv) [] = A') (T : Turn P w K tg J fp it tn) (st : tn 0 s.heap)
    (loop : Seg (model P w) A1 R Y n s₀ (.compLoop (.GeneratorExp elt [⟨tg, iter, ifs, 0⟩, ⟨tg1, iter1, ifs1, 0⟩] scope gpos) 0 (.ref it) .none cenv) ((model P w).den (.compLoop (.GeneratorExp elt [⟨tg, iter, ifs, 0⟩, ⟨tg1, iter1, ifs1, 0⟩] scope gpos) 0 (.ref it) .none cenv)) [] s) :
    Seg (model P w) A1 R Y n s₀ (.compStart (.GeneratorExp elt [⟨tg, iter, ifs, 0⟩, ⟨tg1, iter1, ifs1, 0⟩] scope gpos) 0 (.ref it) .none cenv) ((model P w).den (.compStart (.GeneratorExp elt [⟨tg, iter, ifs, 0⟩, ⟨tg1, iter1, ifs1, 0⟩] scope gpos) 0 (.ref it) .none cenv)) [] s := by
  show Seg _ A1 _ _ _ s₀ _ ((compStart (.GeneratorExp elt [⟨tg, iter, ifs, 0⟩, ⟨tg1, iter1, ifs1, 0⟩] scope gpos) 0 (.ref it) .none cenv).onRaise (leaving cenv)) [] s
  unfold compStart
  rw [Sem.onRaise_eq_wrap]
  show Seg _ A1 _ _ _ s₀ _ ((ask >>= _).wrap _ _ _ _) [] s
  refine over_eq (hA _) (wpAny_askSetting ?_)
  split
  · exact seg_again rfl loop
  · refine over_eq (hA _) (wpAny_rule ?_)
    show Seg _ A1 _ _ _ s₀ _ ((standAt iter.pos >>= _).wrap _ _ _ _) [] s
    refine over_eq (hA _) (wpAny_standAt ?_)
    exact over_eq (hA _) (T.self A' 0 s _ _ st (seg_again rfl loop))
section
variable {G : Wd} {P : Program} {w : World} {base : Heap} {N : List Str} {n : Nat} {W : L2.St → XK} {X : Cx}
theorem s_gen2 {elt tg iter tg1 iter1 : Expr} {ifs ifs1 : List Expr} {scope : Scope} {own : List (Str × Nat)} {gpos p pos : Pos} {fi fi1 : FI} {ft ft1 : FT} {fe : FE} {t t1 : Tg} {d : Nat} (c : Cok G P w base N (n + 1) W X) (all : Bool) (hd1 : d ≤ 1) (ga : GenA G X (d + 1)) (hg : Gl X (anyNm all)) (hm : X.mg (anyNm all) = none)
    (hi : PI X tg iter (tI G fi W)) (ok : BlkOk X.N X.env.scope scope own) (hcell : ∀ y ∈ scope.names, y.2 ≠ .cell) (h0 : scope.names.lookup (".0" : Str) = some NameKind.local) (n0 : (".0" : Str) ∉ X.N) (hco : scope.isCoroutine = false)
    (hfold : ∀ v, genFold iter X.env v = pure v) (hown : ∀ i ∈ slots t, i ∈ own.map (·.2)) (hown1 : ∀ i ∈ slots t1, i ∈ own.map (·.2)) (hs1 : ∀ env x, foldedSetIterable iter1 env x = pure x)
    (sub : ∀ (G' : Wd) (s : Shared) (H : Hp) (code : Value) (fp : List Addr), Sup G G' → GenA G' (gcx X s H scope (genEv scope (cloFrom X.env.cells scope.names []) s.heap.objs.size code X.env) fp) d →
      PG (gcx X s H scope (genEv scope (cloFrom X.env.cells scope.names []) s.heap.objs.size code X.env) fp) tg (gT G' t) ∧ PTs (gcx X s H scope (genEv scope (cloFrom X.env.cells scope.names []) s.heap.objs.size code X.env) fp) ifs (tT G' ft noW) ∧
      PI (gcx X s H scope (genEv scope (cloFrom X.env.cells scope.names []) s.heap.objs.size code X.env) fp) tg1 iter1 (tI G' fi1 noW) ∧ PG (gcx X s H scope (genEv scope (cloFrom X.env.cells scope.names []) s.heap.objs.size code X.env) fp) tg1 (gT G' t1) ∧ PTs (gcx X s H scope (genEv scope (cloFrom X.env.cells scope.names []) s.heap.objs.size code X.env) fp) ifs1 (tT G' ft1 noW) ∧
      PE (gcx X s H scope (genEv scope (cloFrom X.env.cells scope.names []) s.heap.objs.size code X.env) fp) elt (tD G' fe noW)) :
    PE X (.Call (.Name (anyNm all) p) [.GeneratorExp elt [⟨tg, iter, ifs, 0⟩, ⟨tg1, iter1, ifs1, 0⟩] scope gpos] [] pos) (tD G (genF2 all (own.map (·.2)) t fi ft fi1 t1 ft1 fe) W) := by
  have hP0 := c.prog
  have hw0 := c.wo
  subst hP0 hw0
  obtain ⟨cc, PP, ki, g, nest⟩ : ∃ cc PP ki, GenC G X cc PP ki ∧ (d = 0 ∨ ∃ L, ki = .nest L) := by
    cases d with
    | zero =>
      obtain ⟨a, b, k, h⟩ := ga
      exact ⟨a, b, k, h, .inl rfl⟩
    | succ d =>
      obtain ⟨a, b, L, h⟩ := ga
      exact ⟨a, b, _, h, .inr ⟨L, rfl⟩⟩
  refine ⟨fun pins s σ H Q I h => ?_⟩
  obtain ⟨Z, A, env, S, hR, hE, hP⟩ := h
  have he : starEach [.GeneratorExp elt [⟨tg, iter, ifs, 0⟩, ⟨tg1, iter1, ifs1, 0⟩] scope gpos] X.env = (false, eval (.GeneratorExp elt [⟨tg, iter, ifs, 0⟩, ⟨tg1, iter1, ifs1, 0⟩] scope gpos) X.env) :: starEach [] X.env := by rfl
  have hbb : bootBuiltins (anyNm all) = some (.builtin (anyId all)) := by cases all <;> rfl
  refine wpAny_Call_Name_kw (ld_blt I hg hm hbb ?_ (by cases all <;> decide) (by cases all <;> decide))
  refine PyProof.Rows.callWith_builtin1 ?_ he (by rfl)
  rw [he]
  show wpAny _ _ (spliced ((false, eval (.GeneratorExp elt [⟨tg, iter, ifs, 0⟩, ⟨tg1, iter1, ifs1, 0⟩] scope gpos) X.env) :: backTo pos (starEach [] X.env))) _ _ s
  have hfree : ∀ y ∈ scope.names, y.2 = .free → ∃ c, X.env.cells.lookup y.1 = some c := fun y hy e => by
    rcases ok.free y hy e with k | k
    · exact I.ok.has _ (.inl k)
    · exact I.ok.has _ (.inr k)
  have hRoom := c.room
  refine Calls.spliced_cons (mpGenMake2 hco (closure_ok hfree) hcell h0 ok.kind (by have := hRoom.dp; omega) ?_ hfold)
  let RJ : L2.It → Hp → Prop := fun J H1 => ∃ v S1 Z1 A1, Fut H Z A H1 Z1 A1 ∧ Rel G Z1 A1 S1 H1 ∧ EnvR G Z1 A1 env σ ∧ Wk G J v Z1 A1 ∧ PostR ((noX (anyItv (aturnF2 all t (own.map (·.2)) ft fi1 t1 ft1 fe env) v S1)).bind fun b S2 => .ok (.bool (b != all)) S2) (fun d S' => Kon G H Z A d S' Q) (fun x S' => KonX G H1 Z1 A1 x S' (W σ))
  refine wpAny_mono (hi.run pins s σ H RJ I (stepI hR hE hP fun v J S1 Z1 A1 H1 f1 R1 E1 wk P1 => ⟨v, S1, Z1, A1, f1, R1, E1, wk, P1⟩)) (fun xv s1 h1 => wpAny_mono h1 (fun itv s2 h2 => ?_) fun _ _ e => e) fun _ _ e => e
  obtain ⟨it, fp, tn, J, H1, e, I2, T, t0, fpk, v, S1, Z1, A1, f1, R1, E1, wk, P1⟩ := h2
  subst e
  refine ⟨I2.nolimit, gen_code g I2 R1 fun code h3 tk H3 G' hS R3 f3 I3 hx hfr hPn hsz hN => ?_⟩
  obtain ⟨bm, ob, e1, e2, e3, e4, e5, e6, e7, e8⟩ := g.bm
  refine wpAny_builtinsFor (m := X.mg) (by rw [I3.ok.glob]; exact I3.mod.glob.keeps I3.bk) e1 e2 (I3.bk _ _ e5) e6 e7 e8 ?_
  intro h4 hn4 hs4
  refine Calls.spliced_nil ?_
  -- the iterator's cells
  have fpl : ∀ b ∈ fp, b < s2.heap.objs.size := fun b hb => by
    obtain ⟨o, q, _⟩ := T.obj _ _ t0 b hb
    exact Heap.lt_size q
  have fp3 : ∀ b ∈ fp, FpOk X pins H3 b := fun b hb => by
    obtain ⟨q1, q2⟩ := fpk b hb
    exact ⟨hfr b (fpl b hb) q1, q2⟩
  have t3 : tn 0 h3 := T.keep _ _ _ t0 fun b hb o q => hx b o (fun z => hPn (by rw [← z]; exact (fpk b hb).1)) q
  generalize hog : ({ cls := .type "generator", data := .fields #[.int ({ s2 with heap := h3, toks := tk } : Shared).gens.size 0, .str "<genexpr>" (({ s2 with heap := h3, toks := tk } : Shared).toks + 1), .str (X.env.qual ++ "<genexpr>") (({ s2 with heap := h3, toks := tk } : Shared).toks + 1 + 1)] } : Obj) = og
  have ogc : og.cls = .type "generator" ∧ ∃ nm qn, og.data = .fields #[.int s2.gens.size 0, nm, qn] ∧ og.slots = #[] := by
    rw [← hog]
    exact ⟨rfl, _, _, rfl, rfl⟩
  have ogf : og.isFreed = false := by rw [← hog]; rfl
  have ogd : ∀ v, og.data ≠ .cell v := fun v z => by rw [← hog] at z; cases z
  -- the frame
  have J0 := gen_start (g' := s2.gens.push (.fresh (.compStart (.GeneratorExp elt [⟨tg, iter, ifs, 0⟩, ⟨tg1, iter1, ifs1, 0⟩] scope gpos) 0 (.ref it) .none (genEv scope (cloFrom X.env.cells scope.names []) h3.objs.size code X.env)))) (t' := tk + 1 + 1 + 1) (fp := fp) (code := code) (og := og) I3 ok (by rw [c.nm]; exact c.nd)
    (fun b hb => ⟨fp3 b hb, Nat.lt_of_lt_of_le (fpl b hb) hsz⟩) (m := fun y => if y = ".0" then some (.ref it) else none) (fun y hy => if_neg fun z => n0 (by rw [← z]; exact hy)) hn4 (by rw [mpFrame, push_none _ _ hcell]; exact hs4) (I2.bare.push rfl) ogf ogd
  rw [cells_none _ _ _ hcell] at J0
  -- what runs in it
  have sub' := sub G' { s2 with heap := h3, toks := tk } H3 code fp hS (by
    cases d with
    | zero => exact True.intro
    | succ d =>
      have d0 : d = 0 := by omega
      subst d0
      rcases nest with z | ⟨L, z⟩
      · cases z
      · obtain ⟨c', P', q1, q2, q3, q4⟩ := hN _ z
        refine ⟨c', P', .dyn c', q1, q2, q3, ?_, ?_, .inr rfl, .inr (.inr rfl)⟩
        · obtain ⟨bm, ob, e1, e2, e3, e4, e5, e6⟩ := g.bm
          exact ⟨bm, ob, e1, e2, e3, fun z => q4 (by rw [← z]; exact (I3.bs _ _ e5).2), e5, e6⟩
        · obtain ⟨o, _, _, ho, _⟩ := I2.mod.glob
          exact fun z => q4 (by rw [← z]; exact (I3.bs _ _ ho).2))
  obtain ⟨hg1, ht1, hi1, hg2, ht2, he1⟩ := sub'
  have P2 := noX_post P1.bind
  obtain ⟨f, hf⟩ := anyItv_W (aturnF2 all t (own.map (·.2)) ft fi1 t1 ft1 fe env) v S1
  rw [hf] at P2
  have E3 : EnvR G' Z1 A1 env σ := EnvR.gw hS.K hS.mw E1
  have hgenv : ∀ cl C, genEnv scope cl C code builtinsNs X.env = genEv scope cl C code X.env := fun _ _ => rfl
  rw [hgenv]
  generalize hcv : genEv scope (cloFrom X.env.cells scope.names []) h3.objs.size code X.env = cenv at *
  have hafp : h4.objs.size ∉ fp := fun hb => by
    have q := fpl _ hb
    rw [hs4.1, Heap.size_push] at q
    exact absurd (Nat.lt_of_lt_of_le q (Nat.le_trans hsz (Nat.le_succ _))) (Nat.lt_irrefl _)
  obtain ⟨m, seg⟩ := seg_two (G' := G') (P := X.prog) (w := X.w) (X' := gcx X { s2 with heap := h3, toks := tk } H3 scope cenv fp) (a := h4.objs.size) (og := og) (Hr := H3) (Zr := Z1) (Ar := A1) (all := all)
    (K := fun b S2 => Kon G H Z A (.bool (b != all)) S2 Q) (A1 := X.A.in1.in1) (cenv := cenv) (tg := tg) (iter := iter) (ifs := ifs) (elt := elt) (scope := scope) (gpos := gpos) (tg1 := tg1) (iter1 := iter1) (ifs1 := ifs1) (t := t) (t1 := t1) (fi1 := fi1) (ft := ft) (ft1 := ft1) (fe := fe) (J := J) (v := v) (fp := fp) (it := it) (tn := tn) (env := env) (vs := own.map (·.2)) (σw := L2.wipe σ (own.map (·.2)))
    (by rw [hS.K]; exact c.K) rfl rfl c.calm rfl rfl rfl rfl (by rw [← hcv]; exact hco) (fun _ => rfl) T
    (fun H pins σ s I ha hn b hb => ⟨hn b hb, (I.ok.exf b hb).1, I.ok.exfs b hb, .inl hb, (I.ok.exf b hb).2, fun p hp z => ha p hp (by rw [z]; exact hb)⟩) hafp (Wk.up hS wk) (E3.wipe _) (wipe_wipe _ _ _ fun u hu => hu) hown hg1 ht1 hi1 hs1 hown1 hg2 ht2 he1 f 0 S1 (P2.mono (fun _ _ _ h => h) fun _ _ h => h)
  have begin_ : ∀ s'' : Shared, s''.heap = h4.push og → s''.os = s2.os → AllBare s''.gens → Seg (model X.prog X.w) X.A.in1.in1 _ _ m s'' (.compStart (.GeneratorExp elt [⟨tg, iter, ifs, 0⟩, ⟨tg1, iter1, ifs1, 0⟩] scope gpos) 0 (.ref it) .none cenv) ((model X.prog X.w).den (.compStart (.GeneratorExp elt [⟨tg, iter, ifs, 0⟩, ⟨tg1, iter1, ifs1, 0⟩] scope gpos) 0 (.ref it) .none cenv)) [] s'' := fun s'' q1 q2 q3 => by
    have t5 : tn 0 s''.heap := by
      rw [q1]
      refine T.keep _ _ _ t3 fun b hb o q => Heap.get?_push_of_some _ (hs4.extBut b o (Nat.ne_of_lt (Nat.lt_of_lt_of_le (fpl b hb) hsz)) (Heap.get?_push_of_some _ q))
    exact seg_begin2 (A' := (X.A.in1.in1).deeper cenv) (fun _ => rfl) T t5 (seg Z1 A1 H3 s'' s'' R3 .refl (inv_same J0 q1 q2 q3) t5 fun b hb => (fp3 b hb).1)
  have isg : (h4.push og).IsGen h4.objs.size s2.gens.size := by
    obtain ⟨q1, nm, qn, q2, q3⟩ := ogc
    exact ⟨og, nm, qn, Heap.get?_push_size _ ogf, q1, q2, q3⟩
  have lp := gen_loop (G' := G') (P := X.prog) (w := X.w) (X' := gcx X { s2 with heap := h3, toks := tk } H3 scope cenv fp) (a := h4.objs.size) (og := og) (Hr := H3) (Zr := Z1) (Ar := A1) (all := all) (K := fun b S2 => Kon G H Z A (.bool (b != all)) S2 Q) (A := X.A) (g := s2.gens.size)
    (Rr := fun r s' => match r with | .ok (.ret v) => EP X pins σ Q v s' | .ok _ => False | .error e => X.xe e s') hRoom.hd (by have := hRoom.dp; show X.A.depth < _; omega) (fun I => I.nolimit) ogc
    (fun b Z5 A5 S5 H5 σ' pins' s5 s6 R5 F5 J5 os5 b5 k5 K5 => by
      have I5 : Inv X pins σ H5 s6 := inv_same ((gen_out I3 fp3 J5).kept (h' := s6.heap) (t' := s6.toks) k5) rfl os5 b5
      exact ⟨.bl (b != all), H5, I5, rfl, Kon.at_ (Kon.fut K5 (f1.trans (f3.trans F5))) (hS.down R5) (.bl _)⟩)
  cases all with
  | false =>
    show wpAny _ X.A (call (.builtin "any") [.ref h4.objs.size]) _ _ _
    refine call_function_tree F.kind_any F.plain_any F.entry_any (F.args_any1 _) ?_
    unfold Builtin.«any»
    refine wpAny_bind (m := oneArg "any" _) (wpAny_pure ?_)
    refine wpAny_bind (wpAny_pyIter_gen isg ?_)
    exact wpAny_pure ⟨plainId_quiet F.plain_any_loop _, lp m _ _ (Array.getElem?_push_size ..) isg J0.nolimit J0.bare fun s'' hl => ⟨rfl, begin_ s'' hl.1 hl.2.1 hl.2.2⟩⟩
  | true =>
    show wpAny _ X.A (call (.builtin "all") [.ref h4.objs.size]) _ _ _
    refine call_function_tree F.kind_all F.plain_all F.entry_all (F.args_all1 _) ?_
    unfold Builtin.«all»
    refine wpAny_bind (m := oneArg "all" _) (wpAny_pure ?_)
    refine wpAny_bind (wpAny_pyIter_gen isg ?_)
    exact wpAny_pure ⟨plainId_quiet F.plain_all_loop _, lp m _ _ (Array.getElem?_push_size ..) isg J0.nolimit J0.bare fun s'' hl => ⟨rfl, begin_ s'' hl.1 hl.2.1 hl.2.2⟩⟩
end
end Mp
set_option maxHeartbeats 1000000
/-! Mp.Stm3: raise, try. -/
namespace Mp
open PySem PySem.Spec PyProof.Rows L2
/-- an own class of exceptions, of no __init__ of its own or of one -/
structure ExcIs (G : Wd) (x : Str) (C : Addr) : Prop where
  gl : G.mg x = some (.ref C)
  ex : PySem.W.excIn G.K C He.veBase "ValueError.__new__" = true
  kp : PySem.W.keepIn G.K (.ref C) = true
  sub : PySem.W.subIn G.K (.ref C) (.type "BaseException") = some true
  ty : PySem.W.typeIn G.K (.ref C) = some (.type "type")
  db : (x == ("__debug__" : Str)) = false
theorem pmk_own0 {X : Cx} {C : Addr} {bmB : List Value} {B newId initId : String} {x : Str} {p pos : Pos} (F : ExcBaseFacts B newId initId bmB) (q : PySem.W.excIn X.K C bmB newId = true) (gC : X.mg x = some (.ref C)) (kC : PySem.W.keepIn X.K (.ref C) = true) (r : Raises X (.ref C)) (hg : Gl X x)
    (hdb : (x == ("__debug__" : Str)) = false) : PMk X (.Call (.Name x p) [] [] pos) (fun _ H Q => Q (.ref C) none H) := fun pins s σ H Q I h => by
  refine wpAny_Call_Name_kw (ld_glob I hg gC ?_ hdb)
  refine PySem.W.callWith_K0 I.kIn kC ?_
  show wpAny _ _ (call (.ref C) []) _ _ _
  have ho := exc_obj I.kIn q
  obtain ⟨bm, N, nm, qn, bs, hdct, sn, sub, ab, col, dd, k0, k1, k2, k3, k5, mN, hC, hN, hni, T⟩ := ho
  exact wpAny_call_exc_subT F T hC hN hni (fun h' e hm => mk_of I hm r h (I.hok.gone hm.new)) (Nat.zero_le _)
section
variable {G : Wd} {P : Program} {w : World} {base : Heap} {N : List Str} {n : Nat} {W : XK} {X : Cx}
/-- {} -/
theorem s_edict {WW : L2.St → XK} {pos : Pos} : PE X (.Dict [] [] pos) (tD G (fun _ S => .ok (.dict []) S) WW) := PE.imp pe_dnewK fun σ H Q ⟨Z, A, env, S, hR, hE, hP⟩ p hp => by
  obtain ⟨R, f⟩ := hR.freeze (o := .dK []) hp fun ps z => by cases z
  exact (show Kon G H Z A (.dict []) S Q from hP) (.ref p) _ _ _ f R (.edc upd_same)
theorem x_rais (c : Cok G P w base N n (kW W) X) {x : Str} {C : Addr} (h : ExcIs G x C) (hg : Gl X x) {p pos pos' : Pos} : PS X (.Raise (some (.Call (.Name x p) [] [] pos)) none pos') (tS G (fun _ S => .exc ⟨x, none⟩ S) W) := by
  have r : Raises X (.ref C) := raises_own (by rw [c.K]; exact h.sub) (by rw [c.K]; exact h.ty)
  refine PS.imp (ps_raise c.calm c.tk (pmk_own0 PySem.F.excBase_ValueError (by rw [c.K]; exact h.ex) (by rw [c.mg]; exact h.gl) (by rw [c.K]; exact h.kp) r hg h.db)) fun D σ H ⟨Z, A, env, S, hR, hE, hP⟩ => ?_
  exact (show KonX G H Z A ⟨x, none⟩ S W from hP) (.ref C) none H Z A .refl hR ⟨C, rfl, h.gl, rfl⟩
/-- try: e; rest / except c as i: k = d -/
def tryF (fe : FE) (fb : FS) (i : Nat) (x : Str) (xs : List Str) (k : Nat) (d : D) : FS := fun env S => match fe env S with
  | .ok _ S1 => noX (fb env S1)
  | .exc q S1 => if xs.contains q.cls then (if catchB q.cls x then (if decide (k < env.length) && decide (k ≠ i) then .ok (.nx, (env.set i none).set k (some d)) S1 else .bad) else .exc q S1) else .bad
  | .bad => .bad
/-- no exception at all -/
def tN (G : Wd) (f : FS) : TS := fun D σ H => ∃ Z A env S, Rel G Z A S H ∧ EnvR G Z A env σ ∧ PostR (f env S) (EndR G H Z A D) (fun _ _ => False)
/-- exceptions where the slots are as at first -/
def tX (G : Wd) (fe : FE) (fb : FS) (W : WX) : TS := fun D σ H => ∃ Z A env S, Rel G Z A S H ∧ EnvR G Z A env σ ∧ PostR (fe env S) (fun _ S1 => PostR (fb env S1) (EndR G H Z A D) (fun _ _ => False)) (fun x S' => KonX G H Z A x S' fun cls d H' => W cls d σ H')
theorem x_tryC (c : Cok G P w base N n (kW W) X) (hs : X.stack = X.env :: X.outer) (hf : X.env.frame = some X.env.locals) {i k : Nat} {nm y : Str} (hi : N[i]? = some nm) (hln : X.env.kindOf nm = some .local) (hk : N[k]? = some y) (hly : X.env.scope.names.lookup y = some .local) {x : Str} {C : Addr} (hx : ExcIs G x C) (hgx : Gl X x) {xs : List Str}
    (hex : ∀ q ∈ xs, ∃ Cq, G.mg q = some (.ref Cq) ∧ PySem.W.exmOne G.K (.ref Cq) (.ref C) = some (catchB q x)) {ex : Expr} {rest : List Stmt} {fe : FE} {fb : FS} {d : D} {v : V} {ce : Expr}
    (hce : ∀ Y : Cx, PE Y ce (tC v)) (hcd : ∀ Z A, Rp G Z A v d) (hsw : noComp ce = true) (hse : noComp ex = true)
    (he : ∀ (W' : L2.St → XK) (pn : List (Addr × Obj)) (xe : Value → Shared → Prop), Takes (X.tr pn xe) (fun cls d σ H => W' σ cls d H) → PassesOwn (model X.prog X.w) X.A X.env xe → PE (X.tr pn xe) ex (tD G fe W'))
    (hb : ∀ (pn : List (Addr × Obj)) (xe : Value → Shared → Prop), PassesOwn (model X.prog X.w) X.A X.env xe → PSs (X.tr pn xe) rest (tS G fb fun _ _ _ => False)) {np p1 py pa pos pos' : Pos} :
    PS X (.Try (.Expr ex p1 :: rest) [.ExceptHandler (some (.Name x np)) (some nm) [.Assign [.Name y py] ce pa] pos'] [] [] pos) (tS G (tryF fe fb i x xs k d) W) := by
  have NX : Names X x (.ref C) := ⟨hgx, hx.db, .inl (by rw [c.mg]; exact hx.gl)⟩
  refine PS.imp (ps_try_as (i := i) (tb := tX G fe fb) (ts := fun a cls dd => tN G fun env S => if decide (k < env.length) = true then .ok (.nx, env.set k (some d)) S else .bad) hs hf (by rw [c.nm]; exact c.nd) (by rw [c.nm]; exact hi) hln NX c.tk (fun W' pn xe tk po => ?_) (fun a oe cls dd pn hz hv => ?_)) fun D σ H ⟨Z, A, env, S, hR, hE, hP⟩ => ?_
  · have h1 : PS (X.tr pn xe) (.Expr ex p1) _ := ps_expr (he (fun σ cls d H => W' cls d σ H) pn xe tk po) (swapsN hse _ _ _)
    refine PSs.imp (pss_cons h1 (hb pn xe po)) fun D σ H ⟨Z, A, env, S, hR, hE, hP⟩ => ?_
    refine ⟨Z, A, env, S, hR, hE, hP.mono (fun u S1 _ h2 v1 H1 Z1 A1 f1 R1 r1 => ?_) fun _ _ h => h⟩
    exact ⟨Z1, A1, env, S1, R1, hE.mono f1.le, h2.mono (fun q S2 _ hq => EndR.fut hq f1) fun _ _ h => h.elim⟩
  · refine PSs.imp (pss_one (ps_set (X := X.suite a ((a, oe) :: pn)) (i := k) (by show X.N.Nodup; rw [c.nm]; exact c.nd) (by show X.N[k]? = _; rw [c.nm]; exact hk) (.inl hly) (hce _) (swapsN hsw _ _ _) (.inr hly))) fun D σ H ⟨Z, A, env, S, hR, hE, hP⟩ => ?_
    have hP : PostR (if decide (k < env.length) = true then R.ok (Fl.nx, env.set k (some d)) S else .bad) (EndR G H Z A D) fun _ _ => False := hP
    by_cases hkl : k < env.length
    · rw [decide_eq_true hkl] at hP
      exact (show EndR G H Z A D (.nx, env.set k (some d)) S from hP) _ H Z A .refl hR (hE.set (hcd Z A))
    · rw [decide_eq_false hkl] at hP
      exact hP.elim
  · refine ⟨Z, A, env, S, hR, hE, ?_⟩
    have hP : PostR (tryF fe fb i x xs k d env S) (EndR G H Z A D) (fun x S' => KonX G H Z A x S' W) := hP
    unfold tryF at hP
    cases hq : fe env S with
    | bad => rw [hq] at hP; exact hP.elim
    | ok u S1 =>
      rw [hq] at hP
      have hP : PostR (noX (fb env S1)) (EndR G H Z A D) (fun x S' => KonX G H Z A x S' W) := hP
      show PostR (fb env S1) (EndR G H Z A D) fun _ _ => False
      cases hb' : fb env S1 with
      | ok p S2 => rw [hb'] at hP; exact hP
      | exc q S2 => rw [hb'] at hP; exact hP.elim
      | bad => rw [hb'] at hP; exact hP.elim
    | exc q S1 =>
      rw [hq] at hP
      show KonX G H Z A q S1 fun cls dd H' => wAs X.K (.ref C) i _ (fun cls d σ H => kW W σ cls d H) D cls dd σ H'
      have hP : PostR (if xs.contains q.cls then (if catchB q.cls x then (if decide (k < env.length) && decide (k ≠ i) then R.ok (Fl.nx, (env.set i none).set k (some d)) S1 else .bad) else .exc q S1) else .bad) (EndR G H Z A D) (fun x S' => KonX G H Z A x S' W) := hP
      intro cls dd H' Z' A' f R' ex'
      by_cases hm : xs.contains q.cls = true
      · rw [if_pos hm] at hP
        obtain ⟨Cq, g1, g2⟩ := hex q.cls (by simpa using hm)
        obtain ⟨C', e1, e2, e3⟩ := ex'
        have : C' = Cq := by
          rw [g1] at e2
          cases e2
          rfl
        subst this
        subst e1
        refine ⟨catchB q.cls x, by rw [c.K]; exact g2, fun hc a _ => ?_, fun hc => ?_⟩
        · rw [if_pos hc] at hP
          by_cases hkk : (decide (k < env.length) && decide (k ≠ i)) = true
          · rw [if_pos hkk] at hP
            rw [Bool.and_eq_true, decide_eq_true_eq, decide_eq_true_eq] at hkk
            have E1 : EnvR G Z' A' (env.set i none) (σ.set i (some (.ref a))) := ⟨by simp [(hE.mono f.le).len], fun jj d' hj => by
              by_cases hji : jj = i
              · subst hji
                by_cases hl : jj < env.length
                · rw [List.getElem?_set_self hl] at hj; cases hj
                · rw [List.getElem?_eq_none (by simpa using hl)] at hj; cases hj
              · rw [List.getElem?_set_ne (Ne.symm hji)] at hj
                obtain ⟨v', h1, h2⟩ := (hE.mono f.le).at_ jj d' hj
                exact ⟨v', by rw [List.getElem?_set_ne (Ne.symm hji)]; exact h1, h2⟩⟩
            refine ⟨Z', A', env.set i none, S1, R', E1, ?_⟩
            have hkl : decide (k < (env.set i none).length) = true := by simpa using hkk.1
            show PostR (if decide (k < (env.set i none).length) = true then R.ok (Fl.nx, (env.set i none).set k (some d)) S1 else .bad) _ _
            rw [hkl]
            show EndR G H' Z' A' _ (.nx, (env.set i none).set k (some d)) S1
            intro σ' H2 Z2 A2 f2 R2 E2
            have E3 := E2.unset i
            have ee : ((env.set i none).set k (some d)).set i none = (env.set i none).set k (some d) := by
              rw [List.set_comm _ _ hkk.2, List.set_set]
            rw [ee] at E3
            exact (show EndR G H Z A D (.nx, (env.set i none).set k (some d)) S1 from hP) _ H2 Z2 A2 (f.trans f2) R2 E3
          · rw [if_neg hkk] at hP
            exact hP.elim
        · rw [hc] at hP
          exact (show KonX G H Z A q S1 W from hP) _ _ _ _ _ f R' ⟨C', rfl, g1, e3⟩
      · rw [if_neg hm] at hP
        exact hP.elim
end
end Mp
set_option maxHeartbeats 2000000
/-! Mp.Hnd: isinstance of a caught exception that may have a dict; l.count(x); readings within an except suite. -/
namespace Mp
open PySem PySem.Spec PyProof.Rows L2 PySem.Calls
/-! ### type(e), e.__class__ of a caught exception -/
structure ExcD (K : PySem.W.Frag) (D : Addr) : Prop where
  at1 : PySem.W.findIn K (.ref D) "__getattribute__" = some (some (.builtin "BaseException.__getattribute__"))
  at2 : PySem.W.findIn K (.ref D) "__getattr__" = some none
  bas : PySem.W.subIn K (.ref D) (.type "BaseException") = some true
  dct : PySem.W.hasDictIn K D = true
  cla : PySem.W.findIn K (.ref D) "__class__" = some (some (.builtin "object.__class__"))
  get : PySem.W.specialIn K (.builtin "object.__class__") "__get__" = some (some (.builtin "getset_descriptor.__get__"))
  tak : PySem.W.takesIn K (.builtin "object.__class__") = some true
  obj : PySem.W.mroIn K D (.type "object") = some true
def excDB (K : PySem.W.Frag) (D : Addr) : Bool := decide (PySem.W.findIn K (.ref D) "__getattribute__" = some (some (.builtin "BaseException.__getattribute__"))) && (decide (PySem.W.findIn K (.ref D) "__getattr__" = some none) && (decide (PySem.W.subIn K (.ref D) (.type "BaseException") = some true) && (PySem.W.hasDictIn K D &&
  (decide (PySem.W.findIn K (.ref D) "__class__" = some (some (.builtin "object.__class__"))) && (decide (PySem.W.specialIn K (.builtin "object.__class__") "__get__" = some (some (.builtin "getset_descriptor.__get__"))) && (decide (PySem.W.takesIn K (.builtin "object.__class__") = some true) && decide (PySem.W.mroIn K D (.type "object") = some true)))))))
theorem excDB_ok {K : PySem.W.Frag} {D : Addr} (h : excDB K D = true) : ExcD K D := by
  unfold excDB at h
  simp only [Bool.and_eq_true, decide_eq_true_eq] at h
  obtain ⟨h1, h2, h3, h4, h5, h6, h7, h8⟩ := h
  exact ⟨h1, h2, h3, h4, h5, h6, h7, h8⟩
theorem ExcD.ec {K : PySem.W.Frag} {D : Addr} (h : ExcD K D) : ExcC K D := ⟨h.at1, h.at2, h.bas, h.dct, h.cla, h.get, h.tak, h.obj⟩
theorem ExcD.xf {K : PySem.W.Frag} {D : Addr} (h : ExcD K D) : XfC K D := ⟨h.at1, h.at2, h.bas, h.dct⟩
section
variable {prog : Program} {w : World} {A : Around} {E : Value → Shared → Prop} {s : Shared} {K : PySem.W.Frag} {x D : Addr} {ox : Obj} {od : Option Obj}
theorem findD (F : ExcD K D) : PySem.W.findObj K D od "__class__" = some (.bind (.builtin "getset_descriptor.__get__") (.builtin "object.__class__")) := by
  obtain ⟨cd, hc, _⟩ := PySem.W.any_some F.dct
  unfold PySem.W.findObj
  rw [show PySem.W.clsIn K D = some cd from hc, Option.bind_some, F.cla, Option.bind_some]
  simp [F.get, F.tak]
theorem classD {Q : Option Value → Shared → Prop} (F : ExcD K D) (X : K.In s.heap) (I : PySem.W.InstAt s.heap x ox D od) (h : Q (some (.ref D)) { s with toks := s.toks + 1 }) : wpAny (model prog w) A (getAttr? (.ref x) "__class__") Q E s := by
  have hf := findD (od := od) F
  obtain ⟨hp, g, d, t, os⟩ := s
  have T := I.type (M := model prog w)
  have GA := PySem.W.looks_findIn (M := model prog w) X F.at1
  have GT := PySem.W.looks_findIn (M := model prog w) X F.at2
  have FI := PySem.W.looks_find (M := model prog w) X I hf
  have sub : PySem.W.Looks (model prog w) hp (isInstance (.ref x) (.type "BaseException")) true := T.andThen (PySem.W.looks_subIn X F.bas)
  have o1 : (Value.builtin "BaseException.__getattribute__" == Value.builtin "object.__getattribute__") = false := by decide +kernel
  have o2 : (onTheHeap (Value.ref D) && Value.builtin "BaseException.__getattribute__" == Value.builtin "object.__getattribute__") = false := by rw [o1]; rfl
  have o0 : (false && onTheHeap (Value.builtin "BaseException.__getattribute__")) = false := rfl
  unfold getAttr? getAttrBy? getAttrBy
  refine wpAny_bind (wpAny_mkText (wpAny_bind (wpAny_attempt (wpAny_holding (wpAny_bind (T.at (wpAny_bind (GA.at ?_))))))))
  show wpAny _ _ (if (onTheHeap (Value.ref D) && Value.builtin "BaseException.__getattribute__" == Value.builtin "object.__getattribute__") = true then _ else _) _ _ _
  rw [o2, if_neg Bool.false_ne_true]
  unfold getAttrByItsOwn hookBefore
  refine wpAny_bind ?_
  rw [if_pos (show onTheHeap (Value.ref D) = true from rfl)]
  refine GT.at (wpAny_bind (wpAny_attempt (wpAny_holding ?_)))
  unfold callGetattribute
  rw [o0, if_neg Bool.false_ne_true]
  unfold boundAndCalled
  rw [PySem.F.excAttr_ValueError.ga.bind (.ref x)]
  refine wpAny_bind (wpAny_pure ?_)
  show wpAny _ _ (call (.builtin "BaseException.__getattribute__") [.ref x, .str "__class__" t]) _ _ _
  refine wpAny_call (codeAny_call_builtin PySem.F.excAttr_ValueError.ga.plain PySem.F.entry_bexc_ga (@PySem.W.check_slot (model prog w) _ _ ⟨hp, g, d, t + 1, os⟩ "BaseException.__getattribute__" "BaseException" "__getattribute__" (.ref x) [.str "__class__" t] [] _ (by decide +kernel) (by decide +kernel) sub (PySem.F.args_bexc_ga (.ref x) (.str "__class__" t)) ?_))
  unfold Builtin.«object.__getattribute__»
  refine wpAny_bind (wpAny_of_eq (a := ((Value.ref x : Value), [Value.str "__class__" t])) (by first | rfl | (simp only [slotArgs]; rfl)) ?_)
  refine wpAny_bind (wpAny_pure (wpAny_bind (T.at (wpAny_bind (FI.at ?_)))))
  show wpAny _ _ (holding [Value.builtin "object.__class__"] (call (.builtin "getset_descriptor.__get__") [.builtin "object.__class__", .ref x, .ref D]) >>= ret) _ _ _
  refine wpAny_bind (wpAny_holding (wpAny_call (PySem.W.class_get (s := ⟨hp, g, d, t + 1, os⟩) (ox := ox) (od := od) X I F.obj ?_)))
  refine wpAny_pure ?_
  show wpAny _ _ (handedOut (.ref D)) _ _ _
  rw [PySem.W.handedOut_of (v := .ref D) rfl]
  first
    | exact wpAny_pure (wpAny_bind (wpAny_pure (wpAny_pure h)))
    | exact wpAny_pure (wpAny_pure h)
    | exact wpAny_pure h
theorem kitD (F : ExcD K D) : PySem.W.KitX K (.ref x) (.ref D) (fun h => PySem.W.InstAt h x ox D od) where
  ty := fun _ _ _ I => I.type
  ca := fun X I k => classD F X I k
  it := fun _ _ X _ => by
    obtain ⟨cd, hc, _⟩ := PySem.W.any_some F.dct
    have hc : PySem.W.clsIn K D = some cd := hc
    unfold PySem.W.clsIn at hc
    split at hc
    · rename_i ho
      intro A' Q' E' s' k q
      unfold isType loadHead
      exact wpAny_bind (wpAny_loadPart (k _ _ (X _ _ ho)) (wpAny_pure q))
    · cases hc
  ne := fun h tp dd its n sl X htp => by
    obtain ⟨cd, hc, _⟩ := PySem.W.any_some F.dct
    have hc : PySem.W.clsIn K D = some cd := hc
    unfold PySem.W.clsIn at hc
    split at hc
    · rename_i ho
      refine Bool.eq_false_iff.mpr fun q => ?_
      have e : D = tp := Value.ref.inj (beq_iff_eq.mp q)
      rw [← e] at htp
      cases (X _ _ ho).symm.trans htp
    · cases hc
end
/-- isinstance(e, c), e the caught one; its dict, if it has one, stands -/
def rIsD (K : PySem.W.Frag) (D a : Addr) (d : Option Addr) : List V → Hp → VK → Prop := fun xs H Q => ∃ (c : V) (cv : Value) (b : Bool), xs = [.ref a, c] ∧ (∀ u, RelV c u → u = cv) ∧ PySem.W.kitOne K (.ref D) cv = some b ∧ (∀ e, d = some e → ∃ fs, H e = some (.xd fs)) ∧ Q (.bl b) H
theorem call_isD {X : Cx} {a D : Addr} {d : Option Addr} {oe : Obj} {pn : List (Addr × Obj)} (C : ExcD X.K D) (hz : Zc (.ref D) d oe) (hf : ∃ vs, oe.data = .fields vs) : CallR (X.suite a ((a, oe) :: pn)) (.builtin "isinstance") (rIsD X.K D a d) := by
  intro pins s σ H xs us Q I r h
  obtain ⟨c, cv, b, rfl, hcv, e, hd, q⟩ := h
  cases r with
  | cons rx rr =>
    cases rr with
    | cons rt rr =>
      cases rr
      cases rx
      have ec := hcv _ rt
      subst ec
      obtain ⟨hget, _⟩ := I.pin (a, oe) (List.mem_append.mpr (.inl List.mem_cons_self))
      obtain ⟨vs, hv⟩ := hf
      have J : ∃ od, PySem.W.InstAt s.heap a oe D od := by
        cases d with
        | none =>
          refine ⟨none, hget, hz.1, by unfold PySem.W.notCls; rw [hv] <;> rfl, ?_⟩
          rw [hz.2]
          trivial
        | some dd =>
          obtain ⟨fs, hx⟩ := hd dd rfl
          obtain ⟨mA, hns, hr⟩ : ObjOk X.prog X.w H s.heap dd (.xd fs) := I.hok dd _ hx
          obtain ⟨od, ho, hl⟩ := lookIn_ns hns
          exact ⟨some od, hget, hz.1, by unfold PySem.W.notCls; rw [hv] <;> rfl, by rw [hz.2]; exact ho⟩
      obtain ⟨od, J⟩ := J
      exact PySem.W.kia_one (kitD C) I.kIn J e (fun z => nomatch z) fun tk => ⟨.bl b, H, I.kept (t' := tk) fun _ _ z => z, rfl, q⟩
end Mp
set_option maxHeartbeats 2000000
/-! Mp.Hnd2: readings within an except suite. -/
namespace Mp
open PySem PySem.Spec PyProof.Rows L2
/-- what the suite knows of its exception: slot i is it, its dict stands -/
def XOk (G : Wd) (i : Nat) (a : Addr) (dd : Option Addr) (q : Exc) (Z : Hp) (A : List Addr) (H : Hp) (σ : L2.St) : Prop :=
  σ[i]? = some (some (.ref a)) ∧ (∀ e, dd = some e → ∃ fs, H e = some (.xd fs)) ∧ ∀ f d, q.arg = some (f, d) → ∃ e fs v, dd = some e ∧ H e = some (.xd fs) ∧ fs.lookup f = some v ∧ Rp G Z A v d
section
variable {G : Wd} {i : Nat} {a : Addr} {dd : Option Addr} {q : Exc} {Z Z' H H' : Hp} {A A' : List Addr} {S : Store} {σ : L2.St} {env : EnvD}
theorem xd_stays (R : Rel G Z A S H) (f : Fut H Z A H' Z' A') {e : Addr} {fs : List (Str × V)} (h : H e = some (.xd fs)) : H' e = some (.xd fs) := by
  refine f.fr e _ h (fun m => ?_) fun ps z => by cases z
  obtain ⟨l, hl, el⟩ := List.getElem_of_mem m
  have h1 : A[l]? = some e := by rw [List.getElem?_eq_getElem hl, el]
  have h2 : l < S.length := by rw [← R.len]; exact hl
  have k := R.at_ l e S[l] h1 (List.getElem?_eq_getElem h2)
  cases hm : S[l] with
  | lst ds =>
    rw [hm] at k
    obtain ⟨z, vs, h', _⟩ := k
    rw [h] at h'
    cases h'
  | ins c fs =>
    rw [hm] at k
    obtain ⟨z, C, dx, gs, h', _⟩ := k
    rw [h] at h'
    cases h'
  | dead =>
    rw [hm] at k
    obtain ⟨vs, h'⟩ := k
    rw [h] at h'
    cases h'
theorem XOk.fut (x : XOk G i a dd q Z A H σ) (R : Rel G Z A S H) (f : Fut H Z A H' Z' A') : XOk G i a dd q Z' A' H' σ :=
  ⟨x.1, fun e he => by
    obtain ⟨fs, h⟩ := x.2.1 e he
    exact ⟨fs, xd_stays R f h⟩, fun g d hq => by
    obtain ⟨e, fs, v, h1, h2, h3, h4⟩ := x.2.2 g d hq
    exact ⟨e, fs, v, h1, xd_stays R f h2, h3, h4.mono f.le⟩⟩
end
section
variable (G : Wd) (i : Nat) (a : Addr) (dd : Option Addr) (q : Exc)
def tH (f : FH) : TE := fun σ H Q => ∃ Z A env S d, Rel G Z A S H ∧ EnvR G Z A env σ ∧ XOk G i a dd q Z A H σ ∧ f env S = some d ∧ Kon G H Z A d S Q
def tHT (f : FHT) : TT := fun σ H Q => ∃ Z A env S b, Rel G Z A S H ∧ EnvR G Z A env σ ∧ XOk G i a dd q Z A H σ ∧ f env S = some b ∧ ∀ H' Z' A', Fut H Z A H' Z' A' → Rel G Z' A' S H' → Q b H'
def tHA (f : FHA) : TA := fun σ H Q => ∃ Z A env S ds, Rel G Z A S H ∧ EnvR G Z A env σ ∧ XOk G i a dd q Z A H σ ∧ f env S = some ds ∧ ∀ vs H' Z' A', Fut H Z A H' Z' A' → Rel G Z' A' S H' → RpAll G Z' A' vs ds → Q vs H'
/-- a suite that returns -/
def tHS (f : FH) : TS := fun D σ H => tH G i a dd q f σ H D.rt
end
section
variable {G : Wd} {i : Nat} {a : Addr} {dd : Option Addr} {q : Exc} {Z H : Hp} {A : List Addr} {S : Store} {σ : L2.St} {env : EnvD} {X : Cx}
theorem stepH {f : FH} {d : D} {Rr : VK} (R : Rel G Z A S H) (E : EnvR G Z A env σ) (x : XOk G i a dd q Z A H σ) (hf : f env S = some d)
    (next : ∀ v Z1 A1 H1, Fut H Z A H1 Z1 A1 → Rel G Z1 A1 S H1 → EnvR G Z1 A1 env σ → XOk G i a dd q Z1 A1 H1 σ → Rp G Z1 A1 v d → Rr v H1) : tH G i a dd q f σ H Rr :=
  ⟨Z, A, env, S, d, R, E, x, hf, fun v H1 Z1 A1 fu r p => next v Z1 A1 H1 fu r (E.mono fu.le) (x.fut R fu) p⟩
theorem stepHT {f : FHT} {b : Bool} {Rr : Bool → Hp → Prop} (R : Rel G Z A S H) (E : EnvR G Z A env σ) (x : XOk G i a dd q Z A H σ) (hf : f env S = some b)
    (next : ∀ Z1 A1 H1, Fut H Z A H1 Z1 A1 → Rel G Z1 A1 S H1 → EnvR G Z1 A1 env σ → XOk G i a dd q Z1 A1 H1 σ → Rr b H1) : tHT G i a dd q f σ H Rr :=
  ⟨Z, A, env, S, b, R, E, x, hf, fun H1 Z1 A1 fu r => next Z1 A1 H1 fu r (E.mono fu.le) (x.fut R fu)⟩
theorem stepHA {f : FHA} {ds : List D} {Rr : List V → Hp → Prop} (R : Rel G Z A S H) (E : EnvR G Z A env σ) (x : XOk G i a dd q Z A H σ) (hf : f env S = some ds)
    (next : ∀ vs Z1 A1 H1, Fut H Z A H1 Z1 A1 → Rel G Z1 A1 S H1 → EnvR G Z1 A1 env σ → XOk G i a dd q Z1 A1 H1 σ → RpAll G Z1 A1 vs ds → Rr vs H1) : tHA G i a dd q f σ H Rr :=
  ⟨Z, A, env, S, ds, R, E, x, hf, fun vs H1 Z1 A1 fu r p => next vs Z1 A1 H1 fu r (E.mono fu.le) (x.fut R fu) p⟩
variable {b e z : Expr} {fa fb fc : FH} {pos p : Pos}
theorem h_con {v : V} {d : D} (h : PE X e (tC v)) (hr : ∀ Z A, Rp G Z A v d) : PE X e (tH G i a dd q fun _ _ => some d) :=
  PE.imp h fun σ H Q ⟨Z, A, env, S, d', hR, hE, hx, hf, k⟩ => by
    cases hf
    exact k.at_ hR (hr Z A)
theorem h_var {j : Nat} {x : Str} (hN : X.N[j]? = some x) (hv : Vis X.env.scope x) (hd : (x == ("__debug__" : Str)) = false) (hcd : (x == ("__classdict__" : Str)) = false) : PE X (.Name x pos) (tH G i a dd q (varH j)) :=
  PE.imp (pe_var hN hv hd hcd) fun σ H Q ⟨Z, A, env, S, d', hR, hE, hx, hf, k⟩ => by
    unfold varH at hf
    split at hf
    · rename_i d he
      cases hf
      obtain ⟨v, h1, h2⟩ := hE.at_ j _ he
      exact ⟨v, h1, k.at_ hR h2⟩
    · cases hf
theorem h_bin (hK : X.K = G.K) (o : Op) {l r : Expr} (ha : PE X l (tH G i a dd q fa)) (hb : PE X r (tH G i a dd q fb)) : PE X (.BinOp l (opOf o) r pos) (tH G i a dd q (binH o fa fb)) :=
  PE.imp (pe_op (op_D hK o) ha hb) fun σ H Q ⟨Z, A, env, S, d', hR, hE, hx, hf, k⟩ => by
    obtain ⟨x, h1, hf⟩ := Option.bind_eq_some_iff.mp hf
    obtain ⟨y, h2, hf⟩ := Option.bind_eq_some_iff.mp hf
    exact stepH hR hE hx h1 fun v Z1 A1 H1 f1 R1 E1 x1 r1 => stepH R1 E1 x1 h2 fun u Z2 A2 H2 f2 R2 E2 x2 r2 => ⟨Z2, A2, S, x, y, d', R2, f2.rp r1, r2, hf, k.fut (f1.trans f2)⟩
theorem ht_cmp (hK : X.K = G.K) (hu : X.A.units + 65 < cLine) (o : Cm) {l r : Expr} (ha : PE X l (tH G i a dd q fa)) (hb : PE X r (tH G i a dd q fb)) (hm : behindInMarks (cmOf o) r = false) : PT X (.Compare l [cmOf o] [r] pos) (tHT G i a dd q (testH (cmpH o fa fb))) :=
  PT.imp (pt_cmpR (op_C hK hu o) ha hb hm) fun σ H Q ⟨Z, A, env, S, b, hR, hE, hx, hf, k⟩ => by
    obtain ⟨c, hc, hf⟩ := Option.bind_eq_some_iff.mp hf
    obtain ⟨x, h1, hc⟩ := Option.bind_eq_some_iff.mp hc
    obtain ⟨y, h2, hc⟩ := Option.bind_eq_some_iff.mp hc
    obtain ⟨r, hr, rfl⟩ := Option.map_eq_some_iff.mp hc
    have e : r = b := by simpa [rd, truD] using hf
    subst e
    exact stepH hR hE hx h1 fun v Z1 A1 H1 f1 R1 E1 x1 r1 => stepH R1 E1 x1 h2 fun u Z2 A2 H2 f2 R2 E2 x2 r2 => ⟨Z2, A2, S, x, y, r, R2, f2.rp r1, r2, hr, r, rfl, k H2 Z2 A2 (f1.trans f2) R2⟩
theorem ht_plain (hK : X.K = G.K) (ha : PE X e (tH G i a dd q fa)) (hp : ∀ whole, isTrue e X.env whole = (do let v ← whole; standAt e.pos; holding [v] (truthy v))) : PT X e (tHT G i a dd q (testH fa)) :=
  PT.imp (pt_truth ha hp) fun σ H Q ⟨Z, A, env, S, b, hR, hE, hx, hf, k⟩ => by
    obtain ⟨x, h1, hf⟩ := Option.bind_eq_some_iff.mp hf
    exact stepH hR hE hx h1 fun v Z1 A1 H1 f1 R1 E1 x1 r1 => ⟨b, tru_V hK R1 r1 hf, k H1 Z1 A1 f1 R1⟩
theorem ht_or {rest : List Expr} {fa fb : FHT} (ha : PT X e (tHT G i a dd q fa)) (hb : PT X (.BoolOp .Or (b :: rest) pos) (tHT G i a dd q fb)) : PT X (.BoolOp .Or (e :: b :: rest) pos) (tHT G i a dd q (orHT fa fb)) :=
  PT.imp (pw_or ha (pt_pw hb)).pt fun σ H Q ⟨Z, A, env, S, r, hR, hE, hx, hf, k⟩ => by
    obtain ⟨t, h1, hf⟩ := Option.bind_eq_some_iff.mp hf
    exact stepHT hR hE hx h1 fun Z1 A1 H1 f1 R1 E1 x1 => by
      cases t with
      | true =>
        cases hf
        exact k H1 Z1 A1 f1 R1
      | false => exact ⟨Z1, A1, env, S, r, R1, E1, x1, hf, fun H2 Z2 A2 f2 R2 => k H2 Z2 A2 (f1.trans f2) R2⟩
theorem ht_or1 {fa : FHT} (ha : PT X e (tHT G i a dd q fa)) : PT X (.BoolOp .Or [e] pos) (tHT G i a dd q fa) := (pw_or1 ha).pt
theorem h_ite {fc : FHT} {l r : Expr} (hc : PT X z (tHT G i a dd q fc)) (ha : PE X l (tH G i a dd q fa)) (hb : PE X r (tH G i a dd q fb)) : PE X (.IfExp z l r pos) (tH G i a dd q (iteH fc fa fb)) :=
  PE.imp (pe_ifExp hc ha hb) fun σ H Q ⟨Z, A, env, S, d, hR, hE, hx, hf, k⟩ => by
    obtain ⟨t, h1, hf⟩ := Option.bind_eq_some_iff.mp hf
    exact stepHT hR hE hx h1 fun Z1 A1 H1 f1 R1 E1 x1 => by
      cases t with
      | true => exact ⟨Z1, A1, env, S, d, R1, E1, x1, hf, k.fut f1⟩
      | false => exact ⟨Z1, A1, env, S, d, R1, E1, x1, hf, k.fut f1⟩
theorem ha_nil : PA X [] (tHA G i a dd q fun _ _ => some []) :=
  PA.imp pa_nil fun σ H Q ⟨Z, A, env, S, ds, hR, hE, hx, hf, k⟩ => by
    cases hf
    exact k [] H Z A .refl hR .nil
theorem ha_cons {es : List Expr} {fs : FHA} (ha : PE X e (tH G i a dd q fa)) (hr : PA X es (tHA G i a dd q fs)) (hs : starEach (e :: es) X.env = (false, eval e X.env) :: starEach es X.env) : PA X (e :: es) (tHA G i a dd q (consH fa fs)) :=
  PA.imp (pa_cons ha hr hs) fun σ H Q ⟨Z, A, env, S, ds, hR, hE, hx, hf, k⟩ => by
    obtain ⟨d, h1, hf⟩ := Option.bind_eq_some_iff.mp hf
    obtain ⟨es', h2, rfl⟩ := Option.map_eq_some_iff.mp hf
    exact stepH hR hE hx h1 fun v Z1 A1 H1 f1 R1 E1 x1 r1 => stepHA R1 E1 x1 h2 fun vs Z2 A2 H2 f2 R2 E2 x2 r2 => k (v :: vs) H2 Z2 A2 (f1.trans f2) R2 (.cons (f2.rp r1) r2)
variable {es : List Expr} {fs : FHA}
theorem h_tup {x1} (h : PA X es (tHA G i a dd q fs)) : PE X (.Tuple es x1 pos) (tH G i a dd q (tupH fs)) :=
  PE.imp (pe_tup h) fun σ H Q ⟨Z, A, env, S, d, hR, hE, hx, hf, k⟩ => by
    obtain ⟨ds, h1, hf⟩ := Option.bind_eq_some_iff.mp hf
    obtain ⟨r, hr, rfl⟩ := Option.map_eq_some_iff.mp hf
    obtain ⟨rfl, hz⟩ := fits_some hr
    exact stepHA hR hE hx h1 fun vs Z1 A1 H1 f1 R1 E1 x1 r1 => ⟨by rw [r1.length, ← lim_eq]; exact hz, (k.fut f1).tup R1 r1⟩
theorem h_lst (h : PA X es (tHA G i a dd q fs)) : PE X (.List es pos) (tH G i a dd q (lstH fs)) :=
  PE.imp (pe_lst h) fun σ H Q ⟨Z, A, env, S, d, hR, hE, hx, hf, k⟩ => by
    obtain ⟨ds, h1, hf⟩ := Option.bind_eq_some_iff.mp hf
    obtain ⟨r, hr, rfl⟩ := Option.map_eq_some_iff.mp hf
    obtain ⟨rfl, hz⟩ := fits_some hr
    exact stepHA hR hE hx h1 fun vs Z1 A1 H1 f1 R1 E1 x1 r1 => ⟨by rw [r1.length, ← lim_eq]; exact hz, (k.fut f1).lst R1 r1⟩
theorem h_ix (hK : X.K = G.K) {l r : Expr} (ha : PE X l (tH G i a dd q fa)) (hb : PE X r (tH G i a dd q fb)) (hs : PlainIx r) : PE X (.Subscript l r pos) (tH G i a dd q (ixH fa fb)) :=
  PE.imp (pe_ix (ix_D hK) ha hb hs) fun σ H Q ⟨Z, A, env, S, d, hR, hE, hx, hf, k⟩ => by
    obtain ⟨x, h1, hf⟩ := Option.bind_eq_some_iff.mp hf
    obtain ⟨y, h2, hf⟩ := Option.bind_eq_some_iff.mp hf
    exact stepH hR hE hx h1 fun v Z1 A1 H1 f1 R1 E1 x1 r1 => stepH R1 E1 x1 h2 fun u Z2 A2 H2 f2 R2 E2 x2 r2 => ⟨Z2, A2, S, x, y, d, R2, f2.rp r1, r2, hf, fun v hv => (k.fut (f1.trans f2)).at_ R2 hv⟩
/-! ### l.index(x), l.count(x) of truth values -/
theorem asBools_map : ∀ {ds : List D} {bs : List Bool}, asBools ds = some bs → ds = bs.map .bool
  | [], bs, h => by
    cases h
    rfl
  | d :: r, bs, h => by
    cases d with
    | bool b =>
      obtain ⟨cs, h1, rfl⟩ := Option.map_eq_some_iff.mp (show (asBools r).map (b :: ·) = some bs from h)
      rw [asBools_map h1]
      rfl
    | _ => cases h
theorem idxB_is {b : Bool} : ∀ {bs : List Bool} {j : Nat}, idxB b bs = some j → bs[j]? = some b ∧ ∀ m < j, bs[m]? = some (!b)
  | [], j, h => by cases h
  | c :: r, j, h => by
    unfold idxB at h
    split at h
    · rename_i hc
      cases h
      exact ⟨by rw [hc]; rfl, fun m hm => absurd hm (Nat.not_lt_zero m)⟩
    · rename_i hc
      obtain ⟨k, hk, rfl⟩ := Option.map_eq_some_iff.mp h
      obtain ⟨h1, h2⟩ := idxB_is hk
      refine ⟨h1, fun m hm => ?_⟩
      cases m with
      | zero =>
        show some c = some (!b)
        cases c <;> cases b <;> first | rfl | exact absurd rfl hc
      | succ m => exact h2 m (by omega)
end
end Mp
set_option maxHeartbeats 2000000
/-! Mp.Hnd3: l.index(x), l.count(x), isinstance(e, C), e.f within an except suite. -/
namespace Mp
open PySem PySem.Spec PyProof.Rows L2
/-- l.count(x), data -/
def rCountD (K : PySem.W.Frag) : V → List V → Hp → VK → Prop := fun x xs H Q => ∃ (a : Addr) (b : Bool) (bs : List Bool), x = V.ref a ∧ xs = [.bl b] ∧ Dp K H (V.ref a) (.list (bs.map .bool)) ∧ Q (.int (bs.countP fun y => y == b : Nat)) H
theorem lay_bools (bs : List Bool) : PyData.canLayAll0 (bs.map .bool) = true := by
  induction bs with
  | nil => rfl
  | cons b r ih => simpa [PyData.canLayAll0, PyData.canLay0] using ih
theorem plain_bools (bs : List Bool) : PyData.plainAll (bs.map .bool) = true := by
  induction bs with
  | nil => rfl
  | cons b r ih => simpa [PyData.plainAll, PyData.plain] using ih
theorem count_bools (b : Bool) (bs : List Bool) : (bs.map PyData.bool).countP (fun y => PyData.eqv y (.bool b)) = bs.countP fun y => y == b := by
  rw [List.countP_map]
  rfl
theorem bidxD_some {o x d : D} (h : bidxD o x = some d) : ∃ ds b bs j, o = .list ds ∧ x = .bool b ∧ SeqAt.shaped o = true ∧ asBools ds = some bs ∧ idxB b bs = some j ∧ d = .int (j : Nat) := by
  unfold bidxD at h
  split at h
  · split at h
    · rename_i hs
      obtain ⟨bs, h1, h⟩ := Option.bind_eq_some_iff.mp h
      obtain ⟨j, h2, rfl⟩ := Option.map_eq_some_iff.mp h
      exact ⟨_, _, bs, j, rfl, rfl, hs, h1, h2, rfl⟩
    · cases h
  · cases h
theorem bcntD_some {o x d : D} (h : bcntD o x = some d) : ∃ ds b bs, o = .list ds ∧ x = .bool b ∧ asBools ds = some bs ∧ d = .int (bs.countP fun y => y == b : Nat) := by
  unfold bcntD at h
  split at h
  · split at h
    · obtain ⟨bs, h1, h⟩ := Option.bind_eq_some_iff.mp h
      cases h
      exact ⟨_, _, bs, rfl, rfl, h1, rfl⟩
    · cases h
  · cases h
section
variable {X : Cx}
theorem mt_countD (hu : X.A.units + 65 < cLine) : MtR X "list.count" (rCountD X.K) := by
  intro pins s σ H x xs v us Q I rx rxs h
  obtain ⟨a, b, bs, rfl, rfl, hl, q⟩ := h
  cases rx
  cases rxs with
  | cons ry rt =>
    cases rt
    obtain ⟨cs, r1⟩ := Dp.reads I (.bool b) (.bl b) _ (.bl b) ry
    cases hl with
    | lst hs ha =>
      obtain ⟨its, rv, ⟨o, n, ho, hc, hdn, hdt⟩, hlen⟩ := I.list hs
      obtain ⟨as, h4⟩ := Dp.readsAll I _ _ its ha rv
      have hd : (PyData.bool b).depth ≤ 1 := by simp [PyData.depth]
      refine SeqAt.count_list_data (vs := its.toArray) ⟨o, ho, hc, n, hdt⟩ (show ReadsAll s.heap its.toArray.toList _ as from h4) r1 (plain_bools bs) rfl ?_ ?_
      · have := Nat.min_le_right (PyData.depthAll (bs.map .bool)) (PyData.bool b).depth
        omega
      · rw [count_bools]
        exact ⟨.int (bs.countP fun y => y == b : Nat), H, I.tok _, ⟨_, rfl⟩, q⟩
end
section
variable {G : Wd} {i : Nat} {a : Addr} {dd : Option Addr} {q : Exc} {Z H : Hp} {A : List Addr} {S : Store} {σ : L2.St} {env : EnvD} {X : Cx} {o e : Expr} {fa fb : FH} {apos cpos pos p p1 p2 : Pos}
theorem list_bools {K : PySem.W.Frag} (hR : Rel G Z A S H) {v : V} {ds : List D} {bs : List Bool} (r : Rp G Z A v (.list ds)) (h : asBools ds = some bs) : (∃ a, v = .ref a) ∧ tyV K "list" v H ∧ Dp G.K H v (.list (bs.map .bool)) ∧ PyData.list ds = .list (bs.map .bool) := by
  have e := asBools_map h
  subst e
  refine ⟨?_, isLst_ty (S := S) hR r rfl, Rp.dp hR.sub _ _ (by show PyData.canLayAll0 _ = true; exact lay_bools bs) r, rfl⟩
  cases r with
  | lst h1 h2 => exact ⟨_, rfl⟩
theorem h_index (hK : X.K = G.K) (hu : X.A.units + 65 < cLine) (ha : PE X o (tH G i a dd q fa)) (hb : PE X e (tH G i a dd q fb)) (h0 : noCall0 o = true) (hs : noStar e = true) (hline : (apos.endLine == cpos.line) = true) :
    PE X (.Call (.Attribute o "index" apos) [e] [] cpos) (tH G i a dd q (bidxH fa fb)) :=
  PE.imp (pe_bm F.plainAttrs_list F.slot_list_index F.type_list_index (mt_indexD hu) ha (pa_cons hb pa_nil (star_cons hs _ _)) (base_plain h0 _ _) (few_all (by simp [hs]) (by simp)) hline (star_cons hs _ _) rfl) fun σ H Q ⟨Z, A, env, S, d, hR, hE, hx, hf, k⟩ => by
    obtain ⟨x, h1, hf⟩ := Option.bind_eq_some_iff.mp hf
    obtain ⟨y, h2, hf⟩ := Option.bind_eq_some_iff.mp hf
    obtain ⟨ds, b, bs, j, rfl, rfl, hsh, hbs, hj, rfl⟩ := bidxD_some hf
    obtain ⟨q1, q2⟩ := idxB_is hj
    exact stepH hR hE hx h1 fun v Z1 A1 H1 f1 R1 E1 x1 r1 => ⟨(list_bools (K := X.K) R1 r1 hbs).2.1, stepH R1 E1 x1 h2 fun u Z2 A2 H2 f2 R2 E2 x2 r2 => by
      obtain ⟨⟨l, rfl⟩, _, hd, he⟩ := list_bools (K := X.K) R2 (f2.rp r1) hbs
      cases r2
      refine ⟨l, .bl b, .bool b, bs.map .bool, j, .bool b, rfl, rfl, by rw [hK]; exact hd, .bl b, by rw [← he]; exact hsh, rfl, by rw [List.getElem?_map, q1]; rfl, by cases b <;> rfl, fun m z' hm hz => ?_, (k.fut (f1.trans f2)).at_ R2 (.int _)⟩
      rw [List.getElem?_map, q2 m hm] at hz
      cases hz
      cases b <;> rfl⟩
theorem h_count (hK : X.K = G.K) (hu : X.A.units + 65 < cLine) (ha : PE X o (tH G i a dd q fa)) (hb : PE X e (tH G i a dd q fb)) (h0 : noCall0 o = true) (hs : noStar e = true) (hline : (apos.endLine == cpos.line) = true) :
    PE X (.Call (.Attribute o "count" apos) [e] [] cpos) (tH G i a dd q (bcntH fa fb)) :=
  PE.imp (pe_bm F.plainAttrs_list F.slot_list_count F.type_list_count (mt_countD hu) ha (pa_cons hb pa_nil (star_cons hs _ _)) (base_plain h0 _ _) (few_all (by simp [hs]) (by simp)) hline (star_cons hs _ _) rfl) fun σ H Q ⟨Z, A, env, S, d, hR, hE, hx, hf, k⟩ => by
    obtain ⟨x, h1, hf⟩ := Option.bind_eq_some_iff.mp hf
    obtain ⟨y, h2, hf⟩ := Option.bind_eq_some_iff.mp hf
    obtain ⟨ds, b, bs, rfl, rfl, hbs, rfl⟩ := bcntD_some hf
    exact stepH hR hE hx h1 fun v Z1 A1 H1 f1 R1 E1 x1 r1 => ⟨(list_bools (K := X.K) R1 r1 hbs).2.1, stepH R1 E1 x1 h2 fun u Z2 A2 H2 f2 R2 E2 x2 r2 => by
      obtain ⟨⟨l, rfl⟩, _, hd, he⟩ := list_bools (K := X.K) R2 (f2.rp r1) hbs
      cases r2
      exact ⟨l, b, bs, rfl, rfl, by rw [hK]; exact hd, (k.fut (f1.trans f2)).at_ R2 (.int _)⟩⟩
/-! ### isinstance(e, C), e.f -/
/-- what is known of the classes -/
structure XcOk (G : Wd) (xs : List Str) : Prop where
  all : ∀ x ∈ xs, ∃ C, G.mg x = some (.ref C) ∧ ExcD G.K C ∧ (x == ("__debug__" : Str)) = false
  kit : ∀ x ∈ xs, ∀ y ∈ xs, ∀ C D, G.mg x = some (.ref C) → G.mg y = some (.ref D) → PySem.W.kitOne G.K (.ref C) (.ref D) = some (catchB x y)
theorem h_isx {Y : Cx} {oe : Obj} {pn : List (Addr × Obj)} {C : Addr} {xs : List Str} (hK : Y.K = G.K) (hM : Y.mg = G.mg) (T : XcOk G xs) (hC : G.mg q.cls = some (.ref C)) (hz : Zc (.ref C) dd oe) (hf : ∃ vs, oe.data = .fields vs) {x nm : Str} (hi : Y.N[i]? = some nm) (hv : Vis Y.env.scope nm) (hd1 : (nm == ("__debug__" : Str)) = false) (hd2 : (nm == ("__classdict__" : Str)) = false) (hg : Gl Y x) (hb : Bn Y "isinstance" (.builtin "isinstance")) :
    PE (Y.suite a ((a, oe) :: pn)) (.Call (.Name "isinstance" p) [.Name nm p1, .Name x p2] [] pos) (tH G i a dd q (isxH q xs x)) := by
  by_cases hm : xs.contains q.cls && xs.contains x
  · rw [Bool.and_eq_true] at hm
    have m1 : q.cls ∈ xs := by simpa using hm.1
    have m2 : x ∈ xs := by simpa using hm.2
    obtain ⟨C', g1, F1, _⟩ := T.all _ m1
    rw [hC] at g1
    cases g1
    obtain ⟨D, g2, F2, db⟩ := T.all _ m2
    have e2 : (Y.suite a ((a, oe) :: pn)).mg x = some (.ref D) := by show Y.mg x = _; rw [hM]; exact g2
    refine PE.imp (pe_callB (call_isD (by rw [hK]; exact F1) hz hf) hb.gl hb.mg hb.boot (pa_cons (pe_var hi hv hd1 hd2) (pa_cons (pe_glob (v := .ref D) hg e2 rfl db) pa_nil rfl) rfl) hb.nm hb.db rfl rfl) fun σ H Q ⟨Z, A, env, S, d, hR, hE, hx, hf', k⟩ => ?_
    have hf' : (if (xs.contains q.cls && xs.contains x) = true then some (PyData.bool (catchB q.cls x)) else none) = some d := hf'
    rw [if_pos (by rw [Bool.and_eq_true]; exact hm)] at hf'
    cases hf'
    refine ⟨.ref a, hx.1, .ref D, .ref D, catchB q.cls x, rfl, fun u hu => hu, by rw [hK]; exact T.kit _ m1 _ m2 _ _ hC g2, hx.2.1, k.at_ hR (.bl _)⟩
  · refine ⟨fun pins s σ H Q I h => ?_⟩
    obtain ⟨Z, A, env, S, d, hR, hE, hx, hf', k⟩ := h
    have hf' : (if (xs.contains q.cls && xs.contains x) = true then some (PyData.bool (catchB q.cls x)) else none) = some d := hf'
    rw [if_neg hm] at hf'
    cases hf'
theorem h_xfl {Y : Cx} {oe : Obj} {pn : List (Addr × Obj)} {C : Addr} {xs : List Str} (hK : Y.K = G.K) (T : XcOk G xs) (hno : ∀ x ∈ xs, ∀ D, G.mg x = some (.ref D) → ∀ f ∈ (["part", "index", "most", "line", "place"] : List Str), PySem.W.findIn G.K (.ref D) f = some none) (hC : G.mg q.cls = some (.ref C)) (hz : Zc (.ref C) dd oe) (hf : ∃ vs, oe.data = .fields vs) {f nm : Str} (hfm : f ∈ (["part", "index", "most", "line", "place"] : List Str)) (hi : Y.N[i]? = some nm) (hv : Vis Y.env.scope nm) (hd1 : (nm == ("__debug__" : Str)) = false) (hd2 : (nm == ("__classdict__" : Str)) = false) :
    PE (Y.suite a ((a, oe) :: pn)) (.Attribute (.Name nm p1) f pos) (tH G i a dd q (xflH q xs f)) := by
  by_cases hm : xs.contains q.cls
  · have m1 : q.cls ∈ xs := by simpa using hm
    obtain ⟨C', g1, F1, _⟩ := T.all _ m1
    rw [hC] at g1
    cases g1
    refine PE.imp (pe_xf (by rw [show (Y.suite a ((a, oe) :: pn)).K = G.K from hK]; exact F1.xf) (by rw [show (Y.suite a ((a, oe) :: pn)).K = G.K from hK]; exact hno _ m1 _ hC f hfm) hz hf (pe_var hi hv hd1 hd2) rfl) fun σ H Q ⟨Z, A, env, S, d, hR, hE, hx, hf', k⟩ => ?_
    unfold xflH at hf'
    rw [if_pos hm] at hf'
    cases ha : q.arg with
    | none =>
      rw [ha] at hf'
      cases hf'
    | some gd =>
      obtain ⟨g, d'⟩ := gd
      rw [ha] at hf'
      have hf' : (if f = g then some d' else none) = some d := hf'
      split at hf'
      · rename_i e
        cases hf'
        obtain ⟨x, fs, v, h1, h2, h3, h4⟩ := hx.2.2 g _ ha
        exact ⟨.ref a, hx.1, rfl, rfl, x, fs, v, h1, h2, by rw [e]; exact h3, k.at_ hR h4⟩
      · cases hf'
  · refine ⟨fun pins s σ H Q I h => ?_⟩
    obtain ⟨Z, A, env, S, d, hR, hE, hx, hf', k⟩ := h
    unfold xflH at hf'
    rw [if_neg hm] at hf'
    cases hf'
end
structure XsOk (G : Wd) (xs : List Str) : Prop where
  T : XcOk G xs
  no : ∀ x ∈ xs, ∀ D, G.mg x = some (.ref D) → ∀ f ∈ (["part", "index", "most", "line", "place"] : List Str), PySem.W.findIn G.K (.ref D) f = some none
  ex : ∀ x ∈ xs, ∃ C, G.mg x = some (.ref C) ∧ (x == ("__debug__" : Str)) = false ∧ ∀ q ∈ xs, ∃ Cq, G.mg q = some (.ref Cq) ∧ PySem.W.exmOne G.K (.ref Cq) (.ref C) = some (catchB q x)
  ins : G.mg "isinstance" = none
/-- a class with an __init__ that puts its argument into a field -/
def spI (C : Addr) (f : Str) : Sp := fun vs H Q _ => ∃ (a : Addr) (y : V), vs = [.ref a, y] ∧ H a = some (exo a C none) ∧ ∀ dx, H dx = none → dx ≠ a → Q .non (upd (upd H dx (exd dx [(f, y)])) a (exo a C (some dx)))
structure IniIs (G : Wd) (P : Program) (w : World) (base : Heap) (k : Nat) (x f : Str) : Prop where
  ex : ∃ (C fI : Addr) (fd : FuncData) (ps : List Str), OexC G.K C ∧ PySem.W.findIn G.K (.ref C) "__init__" = some (some (.ref fI)) ∧ PySem.W.typeIn G.K (.ref fI) = some (.type "function") ∧ FnOk P w G.K G.mg base (L2.CX P w) k fI fd ps (spI C f) ∧ Binds G.K fd ps [] ∧ G.mg x = some (.ref C) ∧ (x == ("__debug__" : Str)) = false
end Mp
set_option maxHeartbeats 1000000
/-! Mp.Chk1: what a check leans on: the module's names, the defs, the context. -/
namespace Mp
open PySem PySem.Spec PyProof.Rows L2
/-- the exceptions: the classes; those that are made of no argument; the defs that take a lambda; the classes with an own __init__: name, statement, field -/
structure Xt where
  xs : List Str
  ns : List Str
  ws : List (Str × Stmt)
  is : List (Str × Stmt × Str)
structure Ck where
  N : List Str
  sc : Scope
  top : Option Scope
  gq : Nat
  lam : Bool
  fns : List Str
  con : List (Str × D)
  xs : Xt
/-- the names whose cells are made at the entry -/
def Ck.ow (κ : Ck) (x : Str) : Bool := match κ.top with
  | none => true
  | some sc => sc.names.lookup x == some .cell
/-- the built-ins' names that may not be bound in the module -/
def blts : List Str := ["len", "min", "max", "sum", "sorted", "tuple", "int", "str", "list", "set", "dict", "isinstance", "range", "enumerate", "zip", "any", "all", "bool"]
/-- what a def promises -/
def spD (cal : CallF) (f : Nat) (G : Wd) : Sp := fun vs H Q E => ∃ Z A S ds, Rel G Z A S H ∧ RpAll G Z A vs ds ∧ PostR (cal f ds S) (fun d S' => Kon G H Z A d S' Q) (fun x S' => KonX G H Z A x S' E)
/-- def number f of the name x stands in the module -/
def FnIs (cal : CallF) (G : Wd) (P : Program) (w : World) (base : Heap) (KL : Nat) (f : Nat) (x : Str) : Prop :=
  ∃ a fd ps, FnOk P w G.K G.mg base (L2.CX P w) KL a fd ps (spD cal f G) ∧ G.mg x = some (.ref a) ∧ PySem.W.keepIn G.K (.ref a) = true ∧ Binds G.K fd ps [] ∧ (x == ("__debug__" : Str)) = false
/-- the module -/
structure Mk (fns : List Str) (con : List (Str × D)) (xs : Xt) (cal : CallF) (G : Wd) (P : Program) (w : World) (base : Heap) (KL : Nat) : Prop where
  blt : ∀ x ∈ blts, G.mg x = none
  con : ∀ x d, con.lookup x = some d → (x == ("__debug__" : Str)) = false ∧ ∃ v u, G.mg x = some u ∧ RelV v u ∧ ∀ Z A, Rp G Z A v d
  fn : ∀ f x, fns[f]? = some x → FnIs cal G P w base KL f x
  exc : ∀ x ∈ xs.ns, ∃ C, ExcIs G x C ∧ ∀ q ∈ xs.ns, ∃ Cq, G.mg q = some (.ref Cq) ∧ PySem.W.exmOne G.K (.ref Cq) (.ref C) = some (catchB q x)
  wf : ∀ p ∈ xs.ws, (∃ fd, FunD G.K p.1 p.1 (defArgs p.2) (defBody p.2) (defScope p.2) [] [] (He.fAd G.K (p.1, none)) fd) ∧ G.mg p.1 = some (.ref (He.fAd G.K (p.1, none)))
  xok : XsOk G xs.xs
  ini : ∀ p ∈ xs.is, IniIs G P w base (KL + 1) p.1 p.2.2
  wd : G.w = w
structure Sok (κ : Ck) (cal : CallF) (G0 G : Wd) (P : Program) (w : World) (base : Heap) (KL n : Nat) (W : L2.St → XK) (X : Cx) : Prop where
  cok : Cok G P w base κ.N n W X
  md : Mk κ.fns κ.con κ.xs cal G0 P w base KL
  sup : Sup G0 G
  sc : X.env.scope = κ.sc
  top : ∀ x, X.fn x = κ.ow x
  gen : GenA G X κ.gq
  lam : κ.lam = true → ∃ cc PP, LamC G X cc PP
  rm : KL + κ.gq + 1 ≤ n
  ll : κ.lam = true → KL + 3 ≤ n
section
variable {κ : Ck} {cal : CallF} {G0 G : Wd} {P : Program} {w : World} {base : Heap} {KL n : Nat} {W : L2.St → XK} {X : Cx}
theorem Sok.n1 (s : Sok κ cal G0 G P w base KL n W X) : ∃ m, n = m + 1 := by
  have := s.rm
  exact ⟨n - 1, by omega⟩
theorem Sok.wd (s : Sok κ cal G0 G P w base KL n W X) : G.w = w := s.sup.w.trans s.md.wd
theorem Sok.bn (s : Sok κ cal G0 G P w base KL n W X) {x : Str} {u : Value} (h : κ.sc.names.lookup x = some .globalImplicit) (hx : x ∈ blts) (hb : bootBuiltins x = some u) (hn : x ≠ "__name__" := by decide) (hd : (x == ("__debug__" : Str)) = false := by decide) : Bn X x u :=
  ⟨by show X.env.scope.names.lookup x = _; rw [s.sc]; exact h, by rw [s.cok.mg, s.sup.mg]; exact s.md.blt x hx, hb, hn, hd⟩
/-! ### contexts within -/
theorem GenC.at {c PP : Addr} {ki : TK} {X' : Cx} (g : GenC G X c PP ki) (h1 : X'.env.code = X.env.code) (h2 : X'.base = X.base) (h3 : X'.mg = X.mg) : GenC G X' c PP ki :=
  ⟨h1.trans g.code, g.mem, g.uniq, by rw [h2, h3]; exact g.bm, g.gP, by rw [h2]; exact g.hd, g.kind⟩
theorem GenA.at {X' : Cx} (h1 : X'.env.code = X.env.code) (h2 : X'.base = X.base) (h3 : X'.mg = X.mg) : ∀ {d : Nat}, GenA G X d → GenA G X' d
  | 0, _ => True.intro
  | 1, ⟨c, PP, ki, g⟩ => ⟨c, PP, ki, g.at h1 h2 h3⟩
  | _ + 2, ⟨c, PP, L, g⟩ => ⟨c, PP, L, g.at h1 h2 h3⟩
theorem Sok.blk (s : Sok κ cal G0 G P w base KL n W X) (sh : Shared) (H : Hp) (scope : Scope) (C : Addr) (cl : List (Str × Addr)) (fp : List Addr) :
    Sok { κ with sc := relS scope κ.sc, top := some scope } cal G0 G P w base KL n noW (X.blk sh H scope (compEnvC scope cl C X.env) fp) where
  cok := ⟨s.cok.prog, s.cok.wo, s.cok.base, s.cok.K, s.cok.mg, s.cok.nm, s.cok.nd, s.cok.calm, s.cok.room, LamX.takes0, PassesOwn.never⟩
  md := s.md
  sup := s.sup
  sc := by
    rw [← s.sc]
    rfl
  top := fun _ => rfl
  gen := GenA.at (X := X) (X' := X.blk sh H scope (compEnvC scope cl C X.env) fp) rfl rfl rfl s.gen
  lam := fun h => by
    obtain ⟨cc, PP, g⟩ := s.lam h
    exact ⟨cc, PP, g.code, g.mem, g.uniq, g.tb⟩
  rm := s.rm
  ll := s.ll
theorem Sok.gen1 (s : Sok κ cal G0 G P w base KL (n + 1) W X) {G' : Wd} {d : Nat} (hd : κ.gq = d + 1) (h : Sup G G') (sh : Shared) (H : Hp) (scope : Scope) (cl : List (Str × Addr)) (code : Value) (fp : List Addr) (hg : GenA G' (gcx X sh H scope (genEv scope cl sh.heap.objs.size code X.env) fp) d) :
    Sok { κ with sc := scope, top := some scope, gq := d, lam := false } cal G0 G' P w base KL n noW (gcx X sh H scope (genEv scope cl sh.heap.objs.size code X.env) fp) where
  cok := s.cok.gen h
  md := s.md
  sup := s.sup.trans h
  sc := rfl
  top := fun _ => rfl
  gen := hg
  lam := fun h => by cases h
  ll := fun h => by cases h
  rm := by
    have := s.rm
    show KL + d + 1 ≤ n
    omega
theorem Sok.tr (s : Sok κ cal G0 G P w base KL n W X) {W' : L2.St → XK} {pn : List (Addr × Obj)} {xe : Value → Shared → Prop} (tk : Takes (X.tr pn xe) (fun cls d σ H => W' σ cls d H)) (po : PassesOwn (model X.prog X.w) X.A X.env xe) : Sok κ cal G0 G P w base KL n W' (X.tr pn xe) where
  cok := ⟨s.cok.prog, s.cok.wo, s.cok.base, s.cok.K, s.cok.mg, s.cok.nm, s.cok.nd, s.cok.calm, s.cok.room, tk, po⟩
  md := s.md
  sup := s.sup
  sc := s.sc
  top := s.top
  gen := GenA.at (X := X) (X' := X.tr pn xe) rfl rfl rfl s.gen
  lam := fun h => by
    obtain ⟨cc, PP, g⟩ := s.lam h
    exact ⟨cc, PP, g.code, g.mem, g.uniq, g.tb⟩
  rm := s.rm
  ll := s.ll
/-! ### calls, the module's constants, freezing -/
variable {e : Expr} {es : List Expr} {fs : FA} {x : Str} {p pos : Pos} {f : Nat}
theorem sp_call (s : Sok κ cal G0 G P w base KL n W X) {vs : List V} {ds : List D} {Z1 H1 Z H : Hp} {A1 A : List Addr} {S1 : Store} {Q : VK} {σ : L2.St} (f1 : Fut H Z A H1 Z1 A1) (R1 : Rel G Z1 A1 S1 H1) (r1 : RpAll G Z1 A1 vs ds)
    (hP : PostR (cal f ds S1) (fun d S' => Kon G H Z A d S' Q) (fun x S' => KonX G H1 Z1 A1 x S' (W σ))) : spD cal f G0 vs H1 Q (W σ) :=
  ⟨Z1, A1, S1, ds, s.sup.down R1, RpAll.gw (G := G) (G' := G0) s.sup.K.symm s.sup.mw' _ _ r1, hP.mono (fun d S' _ k v H' Z' A' fu r rp => k v H' Z' A' (f1.trans fu) (s.sup.up R1 fu r) (Rp.gw (G := G0) (G' := G) s.sup.K s.sup.mw _ _ rp)) fun x S' k c dd H' Z' A' fu r ex => k c dd H' Z' A' fu (s.sup.up R1 fu r) (by
    obtain ⟨C, e1, e2, e3⟩ := ex
    refine ⟨C, e1, by rw [s.sup.mg]; exact e2, ?_⟩
    cases ha : x.arg with
    | none =>
      rw [ha] at e3
      exact e3
    | some q =>
      rw [ha] at e3
      obtain ⟨dd', fs, v, q1, q2, q3, q4⟩ := e3
      exact ⟨dd', fs, v, q1, q2, q3, Rp.gw (G := G0) (G' := G) s.sup.K s.sup.mw _ _ q4⟩)⟩
theorem s_call (s : Sok κ cal G0 G P w base KL n W X) (hf : κ.fns[f]? = some x) (hg : κ.sc.names.lookup x = some .globalImplicit) (ha : PA X (e :: es) (tA G fs W)) (hs : (e :: es).all noStar = true) :
    PE X (.Call (.Name x p) (e :: es) [] pos) (tD G (fun env S => (fs env S).bind fun ds S1 => cal f ds S1) W) := by
  obtain ⟨a, fd, ps, F, h1, h2, h3, h4⟩ := s.md.fn f x hf
  have hgl : Gl X x := by
    show X.env.scope.names.lookup x = _
    rw [s.sc]
    exact hg
  have eK : X.K = G0.K := s.cok.K.trans s.sup.K
  have em : X.mg = G0.mg := s.cok.mg.trans s.sup.mg
  have h5 : noStar e = true ∧ es.all noStar = true := by simpa [List.all_cons, Bool.and_eq_true] using hs
  refine PE.imp (pe_callS (E := fun σ => W σ) (k := KL) (by rw [s.cok.prog, s.cok.wo, s.cok.base, eK, em]; exact F) (s.cok.room.mono (by have := s.rm; omega)) hgl (by rw [em]; exact h1) (by rw [eK]; exact h2) (by rw [eK]; exact h3) (fun σ => ?_) ha h4 (star_cons h5.1 _ _) (star_any h5.2)) fun σ H Q ⟨Z, A, env, S, hR, hE, hP⟩ => stepA hR hE hP fun vs ds S1 Z1 A1 H1 f1 R1 E1 r1 P1 => sp_call s f1 R1 r1 P1
  have := passAt s.cok.tk σ
  rw [s.cok.prog, s.cok.wo] at this
  exact this
theorem s_glo (s : Sok κ cal G0 G P w base KL n W X) {d : D} (hc : κ.con.lookup x = some d) (hg : κ.sc.names.lookup x = some .globalImplicit) : PE X (.Name x pos) (tD G (fun _ S => .ok d S) W) := by
  obtain ⟨h0, v, u, h1, h2, h3⟩ := s.md.con x d hc
  have hgl : Gl X x := by
    show X.env.scope.names.lookup x = _
    rw [s.sc]
    exact hg
  exact s_con (pe_glob hgl (by rw [s.cok.mg, s.sup.mg]; exact h1) h2 h0) fun Z A => Rp.gw (G := G0) (G' := G) s.sup.K s.sup.mw _ _ (h3 Z A)
theorem s_frz (c : Cok G P w base κ.N n W X) {i : Nat} (hN : κ.N[i]? = some x) (hv : Vis X.env.scope x) (hd : (x == ("__debug__" : Str)) = false) (hcd : (x == ("__classdict__" : Str)) = false) : PE X (.Name x pos) (tD G (evalE cal (.frz i)) W) := by
  refine PE.imp (pe_var (by rw [c.nm]; exact hN) hv hd hcd) fun σ H Q ⟨Z, A, env, S, hR, hE, hP⟩ => ?_
  simp only [evalE] at hP
  split at hP
  · rename_i l he
    split at hP
    · rename_i ds hl
      obtain ⟨v, h1, h2⟩ := hE.at_ i _ he
      cases h2 with
      | obj ha =>
        obtain ⟨vs, q1, q2, q3, q4⟩ := hR.kill ha hl
        exact ⟨_, h1, (show Kon G H Z A (.list ds) (S.set l .dead) Q from hP) _ _ _ _ q3 q2 q4⟩
    · exact hP.elim
  · exact hP.elim
end
end Mp
set_option maxHeartbeats 2000000
/-! Mp.Dct: dicts whose keys are tuples, made once, read; tuples that are known. -/
namespace Mp
open PySem PySem.Spec PyProof.Rows L2
section
variable {G : Wd} {Z H : Hp} {A : List Addr} {S : Store}
mutual
theorem rp_key : ∀ (d : D) (v : V), keyB d = true → Rp G Z A v d → KyR G.K Z d v
  | .int _, _, _, p => by cases p; simp only [KyR]
  | .str _, _, _, p => by cases p; simp only [KyR]
  | .none, _, _, p => by cases p; simp only [KyR]
  | .bool _, _, h, _ => by cases h
  | .list _, _, h, _ => by cases h
  | .dict _, _, h, _ => by cases h
  | .tuple ds, _, h, p => by
    cases p with
    | tup h1 h2 =>
      simp only [KyR]
      exact ⟨_, _, rfl, h1, rp_keys ds _ h h2⟩
theorem rp_keys : ∀ (ds : List D) (vs : List V), keyBs ds = true → RpAll G Z A vs ds → KyRs G.K Z ds vs
  | [], _, _, p => by cases p; simp only [KyRs]
  | d :: ds, _, h, p => by
    have h : (keyB d && keyBs ds) = true := h
    rw [Bool.and_eq_true] at h
    cases p with
    | cons p1 p2 =>
      simp only [KyRs]
      exact ⟨_, _, rfl, rp_key d _ h.1 p1, rp_keys ds _ h.2 p2⟩
end
theorem rp_keyT {d : D} {v : V} (h : keyT d = true) (p : Rp G Z A v d) : ∃ b, v = .ref b ∧ KyR G.K Z d (.ref b) := by
  obtain ⟨ds, rfl, h1, _⟩ := keyT_parts h
  have k := rp_key _ _ h1 p
  cases p with
  | tup q1 q2 => exact ⟨_, rfl, k⟩
theorem rp_atom {d : D} {v : V} (h : atomB d = true) (p : Rp G Z A v d) : AtR d v := by
  cases p <;> first | (simp only [AtR]; done) | (cases h; done)
theorem at_rp {d : D} {v : V} (h : AtR d v) : Rp G Z A v d := by
  cases d with
  | none => simp only [AtR] at h; subst h; exact .non
  | bool b => simp only [AtR] at h; subst h; exact .bl b
  | int i => simp only [AtR] at h; subst h; exact .int i
  | str x => simp only [AtR] at h; subst h; exact .str x
  | list ds => simp only [AtR] at h
  | tuple ds => simp only [AtR] at h
  | dict ds => simp only [AtR] at h
theorem rp_dct {d : D} {v : V} {kvs : List (D × D)} (h : dkvs d = some kvs) (p : Rp G Z A v d) : ∃ a xs, v = .ref a ∧ Z a = some (DctO G.w a xs) ∧ DFine a xs ∧ DRel G.K Z xs (kvs.map pairD) := by
  unfold dkvs at h
  split at h
  · rename_i ps
    obtain ⟨e, _⟩ := unP_pairs h
    cases p with
    | dct h1 hf h2 =>
      rw [e] at h2
      exact ⟨_, _, rfl, h1, hf, h2⟩
  · cases h
/-- on, behind a reading -/
def Ctd {β : Type} (G : Wd) (H Z : Hp) (A : List Addr) (env : EnvD) (σ : L2.St) (W : L2.St → XK) (g : D → Store → R β) (k : β → Store → Prop) : V → Hp → Prop := fun x H1 =>
  ∃ d S1 Z1 A1, Fut H Z A H1 Z1 A1 ∧ Rel G Z1 A1 S1 H1 ∧ EnvR G Z1 A1 env σ ∧ Rp G Z1 A1 x d ∧ PostR (g d S1) k (fun x S' => KonX G H1 Z1 A1 x S' (W σ))
theorem step' {β : Type} {W : L2.St → XK} {σ : L2.St} {env : EnvD} {f : FE} {g : D → Store → R β} {k : β → Store → Prop} (hR : Rel G Z A S H) (hE : EnvR G Z A env σ) (hP : PostR ((f env S).bind g) k (fun x S' => KonX G H Z A x S' (W σ))) : tD G f W σ H (Ctd G H Z A env σ W g k) :=
  step hR hE hP fun v d S1 Z1 A1 H1 f1 R1 E1 r1 P1 => ⟨d, S1, Z1, A1, f1, R1, E1, r1, P1⟩
end
section
variable {G : Wd} {P : Program} {w : World} {base : Heap} {N : List Str} {n : Nat} {W : L2.St → XK} {X : Cx} {a b e : Expr} {fa fb fc : FE} {pos p q : Pos} {es : List Expr} {fs : FA}
/-- the dict, as it stands -/
theorem dict_at {pins : List (Addr × Obj)} {σ : L2.St} {H Z : Hp} {A : List Addr} {S : Store} {s : Shared} {d : D} {v : V} {kvs : List (D × D)} (hK : X.K = G.K) (hw : G.w = X.w) (I : Inv X pins σ H s) (R : Rel G Z A S H) (h : dkvs d = some kvs) (p : Rp G Z A v d) :
    ∃ (a : Addr) (xs : List Ent), v = .ref a ∧ s.heap.DictOfH (nestedKind X.prog X.w) a xs ∧ (a == sysModules) = false ∧ DRel X.K H xs (kvs.map pairD) := by
  obtain ⟨a, xs, e, h1, hf, h2⟩ := rp_dct h p
  have h3 := h2.le R.sub
  rw [← hK] at h3
  rw [hw] at h1
  exact ⟨a, xs, e, dict_of I (R.sub _ _ h1) hf h3, hf.sys, h3⟩
theorem key_at {pins : List (Addr × Obj)} {σ : L2.St} {H Z : Hp} {A : List Addr} {S : Store} {s : Shared} {d : D} {v : V} (hK : X.K = G.K) (I : Inv X pins σ H s) (R : Rel G Z A S H) (h : keyT d = true) (p : Rp G Z A v d) : ∃ b, v = .ref b ∧ (nestedKind X.prog X.w).is s.heap (kyOf d) b := by
  obtain ⟨b, e, k⟩ := rp_keyT h p
  rw [← hK] at k
  exact ⟨b, e, KyR.key I (k.le R.sub _ _) h⟩
theorem s_dix (c : Cok G P w base N n W X) (hw : G.w = w) (ha : PE X a (tD G fa W)) (hb : PE X b (tD G fb W)) (hs : PlainIx b) :
    PE X (.Subscript a b pos) (tD G (fun env S => (fa env S).bind fun x S1 => (fb env S1).bind fun y S2 => opt (dixD x y) S2) W) := by
  refine ⟨fun pins s σ H Q I h => ?_⟩
  obtain ⟨Z, A, env, S, hR, hE, hP⟩ := h
  have hu := c.units
  refine subD_of PySem.F.slot_dict_getitem.lookup hs (thn (ha.run pins s σ H _ I (step' hR hE hP)) fun u s1 ⟨x, H1, I1, rx, d, S1, Z1, A1, f1, R1, E1, r1, P1⟩ => thn (hb.run pins s1 σ H1 _ I1 (step' R1 E1 P1)) fun iv s2 ⟨y, H2, I2, ry, d2, S2, Z2, A2, f2, R2, E2, r2, P2⟩ => ?_)
  obtain ⟨r, hr, k⟩ := P2.opt
  unfold dixD at hr
  obtain ⟨kvs, hk, hr⟩ := Option.bind_eq_some_iff.mp hr
  split at hr
  · rename_i hkt
    obtain ⟨ad, xs, rfl, k1, k2, k3⟩ := dict_at c.K (hw.trans c.wo.symm) I2 R2 hk (f2.rp r1)
    obtain ⟨ab, rfl, k4⟩ := key_at c.K I2 R2 hkt r2
    cases (show u = Value.ref ad from rx)
    cases (show iv = Value.ref ab from ry)
    have look := k3.look hkt
    rw [hr] at look
    obtain ⟨qq, l1, u2, l2, l3⟩ := look
    refine ⟨k1.typeIs, wpAny_getItem_heap (by show X.A.units + 1 + 8 < cLine; omega) k4 k1 l1 ?_⟩
    exact ⟨u2, H2, I2.tok _, l3, (Kon.fut k (f1.trans f2)).at_ R2 (at_rp l2)⟩
  · cases hr
/-! ### in -/
def rB2 (G : Wd) (f : D → D → Option Bool) : R2 := fun x y H Q => ∃ Z A S d e r, Rel G Z A S H ∧ Rp G Z A x d ∧ Rp G Z A y e ∧ f d e = some r ∧ Q (.bl r) H
abbrev inOp (neg : Bool) : CmpOp := if neg then .NotIn else .In
theorem op_inK (hK : X.K = G.K) (hw : G.w = X.w) (hu : X.A.units + 65 < cLine) (neg : Bool) : OpR X (compareOp (inOp neg)) (rB2 G (dinB neg)) := by
  intro pins s σ H x y v u Q I rx ry h
  obtain ⟨Z, A, S, d, e, r, hR, hx, hy, hf, k⟩ := h
  unfold dinB at hf
  obtain ⟨kvs, hk, hf⟩ := Option.bind_eq_some_iff.mp hf
  split at hf
  · rename_i hkt
    cases hf
    obtain ⟨ad, xs, rfl, k1, k2, k3⟩ := dict_at hK hw I hR hk hy
    obtain ⟨ab, rfl, k4⟩ := key_at hK I hR hkt hx
    cases (show u = Value.ref ad from ry)
    cases (show v = Value.ref ab from rx)
    have look := k3.look hkt
    have es : (atKey xs (kyOf d)).isSome = (dget kvs d).isSome := by
      cases hd : dget kvs d with
      | none =>
        rw [hd] at look
        rw [look]
        rfl
      | some w =>
        rw [hd] at look
        obtain ⟨qq, l1, _⟩ := look
        rw [l1]
        rfl
    cases neg with
    | false =>
      refine wpAny_in_heap (by show X.A.units + 1 + 8 < cLine; omega) k4 k2 k1 ?_
      rw [es]
      have e1 : ((dget kvs d).isSome != false) = (dget kvs d).isSome := by cases (dget kvs d).isSome <;> rfl
      rw [e1] at k
      exact ⟨.bl (dget kvs d).isSome, H, I.tok _, rfl, k⟩
    | true =>
      refine wpAny_notIn_heap (by show X.A.units + 1 + 8 < cLine; omega) k4 k2 k1 ?_
      rw [es]
      have e1 : ((dget kvs d).isSome != true) = !(dget kvs d).isSome := by cases (dget kvs d).isSome <;> rfl
      rw [e1] at k
      exact ⟨.bl (!(dget kvs d).isSome), H, I.tok _, rfl, k⟩
  · cases hf
def dinF (neg : Bool) (fa fb : FE) : FE := fun env S => (fa env S).bind fun x S1 => (fb env S1).bind fun y S2 => opt ((dinB neg x y).map .bool) S2
theorem s_din (c : Cok G P w base N n W X) (hw : G.w = w) (neg : Bool) (ha : PE X a (tD G fa W)) (hb : PE X b (tD G fb W)) (hm : behindInMarks (inOp neg) b = false) :
    PE X (.Compare a [inOp neg] [b] pos) (tD G (dinF neg fa fb) W) :=
  PE.imp (pe_cmpR (op_inK c.K (hw.trans c.wo.symm) c.units neg) ha hb hm) fun σ H Q ⟨Z, A, env, S, hR, hE, hP⟩ =>
    step hR hE hP fun v d S1 Z1 A1 H1 f1 R1 E1 r1 P1 => step R1 E1 P1 fun u e S2 Z2 A2 H2 f2 R2 E2 r2 P2 => by
      obtain ⟨r, hr, k⟩ := P2.opt
      obtain ⟨q, hq, rfl⟩ := Option.map_eq_some_iff.mp hr
      exact ⟨Z2, A2, S2, d, e, q, R2, f2.rp r1, r2, hq, (k.fut (f1.trans f2)).at_ R2 (.bl q)⟩
theorem t_din (c : Cok G P w base N n W X) (hw : G.w = w) (neg : Bool) (ha : PE X a (tD G fa W)) (hb : PE X b (tD G fb W)) (hm : behindInMarks (inOp neg) b = false) :
    PT X (.Compare a [inOp neg] [b] pos) (tT G (testF (dinF neg fa fb)) W) :=
  PT.imp (pt_cmpR (op_inK c.K (hw.trans c.wo.symm) c.units neg) ha hb hm) fun σ H Q ⟨Z, A, env, S, hR, hE, hP⟩ => by
    have hP := (show PostR (((fa env S).bind fun x S1 => (fb env S1).bind fun y S2 => opt ((dinB neg x y).map .bool) S2).bind fun x S1 => opt (truD (rd S1 x)) S1) _ _ from hP).bind.bind
    refine ⟨Z, A, env, S, hR, hE, hP.mono (fun d S1 _ h1 v H1 Z1 A1 f1 R1 r1 => ?_) fun _ _ h => h⟩
    have h1 := h1.bind
    refine ⟨Z1, A1, env, S1, R1, hE.mono f1.le, h1.mono (fun e S2 _ h2 u H2 Z2 A2 f2 R2 r2 => ?_) fun _ _ h => KonX.fut h f1⟩
    obtain ⟨r, hr, k⟩ := h2.opt
    obtain ⟨q, hq, rfl⟩ := Option.map_eq_some_iff.mp hr
    obtain ⟨t, ht, k⟩ := PostR.opt k
    have et : q = t := by simpa [rd, truD] using ht
    subst et
    exact ⟨Z2, A2, S2, d, e, q, R2, f2.rp r1, r2, hq, q, rfl, k H2 Z2 A2 (f1.trans f2) R2⟩
/-! ### get -/
theorem s_dgetD (c : Cok G P w base N n W X) (hw : G.w = w) {o f : Expr} {apos cpos : Pos} (ho : PE X o (tD G fa W)) (hb : PE X e (tD G fb W)) (hc : PE X f (tD G fc W)) (h0 : noCall0 o = true) (hline : (apos.endLine == cpos.line) = true) (h1 : noStar e = true) (h2 : noStar f = true) :
    PE X (.Call (.Attribute o "get" apos) [e, f] [] cpos) (tD G (fun env S => (fa env S).bind fun x S1 => (opt (dkvs x) S1).bind fun _ S1 => (fb env S1).bind fun y S2 => (fc env S2).bind fun z S3 => opt (dgetDD x y z) S3) W) := by
  refine ⟨fun pins s σ H Q I h => ?_⟩
  obtain ⟨Z, A, env, S, hR, hE, hP⟩ := h
  have hu := c.units
  have hw' := hw.trans c.wo.symm
  refine wpAny_Call_method (base_plain h0 _ _) (few_all (by simp [h1, h2]) (by simp)) hline PySem.F.plainAttrs_dict PySem.F.slot_dict_get PySem.F.type_dict_get (thn (ho.run pins s σ H _ I (step' hR hE hP)) fun u s1 ⟨x, H1, I1, rx, d, S1, Z1, A1, f1, R1, E1, r1, P1⟩ => ?_)
  obtain ⟨kvs, hk, P1⟩ := P1.bind.opt
  obtain ⟨ad, xs, rfl, k1, k2, k3⟩ := dict_at c.K hw' I1 R1 hk r1
  cases (show u = Value.ref ad from rx)
  refine ⟨k1.typeIs, fun bb qq => ?_, ?_⟩
  · cases qq
    obtain ⟨ob, _, _, h1, h2, _⟩ := k1
    exact ⟨ob, h1, h2.2.1⟩
  rw [star_cons h1, star_cons h2]
  refine Calls.callWith_builtin rfl (Calls.evalArgs_plain (Calls.spliced_cons (thn (hb.run pins s1 σ H1 _ I1 (step' R1 E1 P1)) fun iv s2 ⟨y, H2, I2, ry, d2, S2, Z2, A2, f2, R2, E2, r2, P2⟩ =>
    Calls.spliced_cons (thn (hc.run pins s2 σ H2 _ I2 (step' R2 E2 P2)) fun fv s3 ⟨z, H3, I3, rz, d3, S3, Z3, A3, f3, R3, E3, r3, P3⟩ => Calls.spliced_nil ?_))))
  obtain ⟨r, hr, k⟩ := P3.opt
  unfold dgetDD at hr
  rw [hk] at hr
  have hr : (if (keyT d2 && atomB d3) = true then some ((dget kvs d2).getD d3) else none) = some r := hr
  split at hr
  · rename_i hkt
    rw [Bool.and_eq_true] at hkt
    cases hr
    have rx2 : Rp G Z3 A3 (.ref ad) d := f3.rp (f2.rp r1)
    obtain ⟨ad', xs', e', k1', k2', k3'⟩ := dict_at c.K hw' I3 R3 hk rx2
    cases e'
    obtain ⟨ab, rfl, k4⟩ := key_at c.K I3 R3 hkt.1 (f3.rp r2)
    cases (show iv = Value.ref ab from ry)
    refine call_meetsIn PySem.F.slot_dict_get k1'.typeIs PySem.F.entry_dict_get (PySem.F.args_dict_get_3 _ _ _) (meetsH_dict_get_default (nestedKind X.prog X.w) ad ab k2' fv) ⟨by show X.A.units + 1 + 8 < cLine; omega, kyOf d2, xs', k4, k1', ?_⟩
    have look := k3'.look hkt.1
    cases hd : dget kvs d2 with
    | none =>
      rw [hd] at look k
      rw [look]
      exact ⟨z, H3, I3.tok _, rz, (Kon.fut k ((f1.trans f2).trans f3)).at_ R3 r3⟩
    | some v2 =>
      rw [hd] at look k
      obtain ⟨qq, l1, u2, l2, l3⟩ := look
      rw [l1]
      exact ⟨u2, H3, I3.tok _, l3, (Kon.fut k ((f1.trans f2).trans f3)).at_ R3 (at_rp l2)⟩
  · cases hr
/-! ### known tuples -/
theorem ktu_post {pins : List (Addr × Obj)} {σ : L2.St} {H H0 Z Z0 : Hp} {A A0 : List Addr} {S : Store} {s : Shared} {vs : List V} {us : List Value} {ds : List D} {Q : VK} (I : Inv X pins σ H s) (R : Rel G Z A S H) (hv : RpAll G Z A vs ds) (rv : Vals vs us) (hz : vs.length ≤ sizeLine) (f : Fut H0 Z0 A0 H Z A) (k : Kon G H0 Z0 A0 (oTup ds) S Q) :
    EP X pins σ Q (.ref s.heap.objs.size) { s with heap := s.heap.push { cls := .type "tuple", data := .seq us.toArray } } := by
  have nf : H s.heap.objs.size = none := I.hok.fresh (Nat.le_refl _)
  have I2 := I.laid (t' := s.toks) (a := s.heap.objs.size) (o := .frz { cls := .type "tuple", data := .seq us.toArray } (.tup vs)) (h' := s.heap.push { cls := .type "tuple", data := .seq us.toArray }) (fun b o e => Heap.get?_push_of_some _ e) (Nat.le_refl _) ⟨Heap.get?_push_size _ rfl, hz, us, rv, IsTup.new _ _⟩
  obtain ⟨R2, F2⟩ := R.freeze (o := .frz { cls := .type "tuple", data := .seq us.toArray } (.tup vs)) nf fun ps z => by cases z
  exact ⟨.ref s.heap.objs.size, _, I2, rfl, k _ _ _ _ (f.trans F2) R2 (.ktu upd_same rfl (hv.mono F2.le))⟩
theorem s_ktup {x1} (h : PA X es (tA G fs W)) : PE X (.Tuple es x1 pos) (tD G (fun env S => (fs env S).bind fun ds S1 => opt ((fits ds).map oTup) S1) W) := by
  refine ⟨fun pins s σ H Q I hq => ?_⟩
  obtain ⟨Z, A, env, S, hR, hE, hP⟩ := hq
  refine PySem.wpAny_Tuple (thn (h.run pos pins s σ H (fun vs H1 => ∃ ds S1 Z1 A1, Fut H Z A H1 Z1 A1 ∧ Rel G Z1 A1 S1 H1 ∧ RpAll G Z1 A1 vs ds ∧ PostR (opt ((fits ds).map oTup) S1) (fun d S' => Kon G H Z A d S' Q) (fun x S' => KonX G H1 Z1 A1 x S' (W σ))) I (stepA hR hE hP fun vs ds S1 Z1 A1 H1 f1 R1 E1 r1 P1 => ⟨ds, S1, Z1, A1, f1, R1, r1, P1⟩)) fun us s1 ⟨vs, H1, I1, rv, ds, S1, Z1, A1, f1, R1, r1, P1⟩ => ?_)
  obtain ⟨r, hr, k⟩ := P1.opt
  obtain ⟨q, hq, rfl⟩ := Option.map_eq_some_iff.mp hr
  obtain ⟨rfl, hz⟩ := fits_some hq
  have hz' : vs.length ≤ sizeLine := by rw [r1.length, ← lim_eq]; exact hz
  exact ⟨by rw [← rv.length]; exact hz', ktu_post I1 R1 r1 rv hz' f1 k⟩
def ktuF (fa : FE) : FE := fun env S => (fa env S).bind fun x S1 => opt (match rd S1 x with
      | .list ds => some (oTup ds)
      | _ => none) S1
def rKtu (G : Wd) : List V → Hp → VK → Prop := fun vs H Q => ∃ Z A S v d ds, vs = [v] ∧ Rel G Z A S H ∧ Rp G Z A v d ∧ rd S d = .list ds ∧ Kon G H Z A (oTup ds) S Q
theorem cr_ktuple (hK : X.K = G.K) : CallR X (.type "tuple") (rKtu G) := by
  intro pins s σ H xs us Q I r h
  obtain ⟨Z, A, S, v, d, ds, rfl, hR, hv, hd, k⟩ := h
  obtain ⟨a, vs, rfl, h3, h4⟩ := rd_list hR hv hd
  obtain ⟨u, rfl, rx⟩ := vals1 r
  cases rx
  obtain ⟨its, r', pl, hz⟩ := I.list (.inl (.of h3))
  have hlen := r'.length
  refine call_tuple_list pl.isList (fun h' kp => ?_) (by simp only [List.size_toArray] <;> omega)
  exact ktu_post (s := { s with heap := h' }) (I.kept (t' := s.toks) kp) hR h4 r' hz .refl k
theorem s_ktuple (hK : X.K = G.K) (hb : Bn X "tuple" (.type "tuple")) (ha : PE X a (tD G fa W)) (hs : noStar a = true) : PE X (.Call (.Name "tuple" p) [a] [] pos) (tD G (ktuF fa) W) :=
  PE.imp (pe_callTy (cr_ktuple hK) hb.gl hb.mg hb.boot (pa_cons ha pa_nil (star_cons hs _ _)) hb.nm hb.db (star_cons hs _ _) (star_any (by simp))) fun σ H Q ⟨Z, A, env, S, hR, hE, hP⟩ =>
    step hR hE hP fun v d S1 Z1 A1 H1 f1 R1 E1 r1 P1 => by
      obtain ⟨r, hr, k⟩ := P1.opt
      split at hr
      · rename_i ds hd
        cases hr
        exact ⟨Z1, A1, S1, v, d, ds, rfl, R1, r1, hd, Kon.fut k f1⟩
      · cases hr
end
end Mp
set_option maxHeartbeats 4000000
/-! Mp.DcC: {k: v for t in l}, keys that are tuples. -/
namespace Mp
open PySem PySem.Spec PyProof.Rows L2
/-! ### the dict while it grows: not ours yet -/
section
variable {G : Wd} {Z Z' H H' H1 Z1 : Hp} {A A' A1 : List Addr} {S : Store} {p : Addr} {w : World} {xs ys : List Ent}
theorem TabK.keepD {q : Addr × TK} (h : TabK H q) (hp : H p = some (DctO w p xs)) {o : HO} : TabK (upd H p o) q := by
  have t : ∀ {a : Addr} {ps : Array Value}, H a = some (.tbl ps) → upd H p o a = some (.tbl ps) := fun {a ps} e => by
    rw [upd_ne (fun z => by rw [z, hp] at e; cases e)]
    exact e
  have c : ∀ {a P : Addr}, H a = some (CodeX a P) → upd H p o a = some (CodeX a P) := fun {a P} e => by
    rw [upd_ne (fun z => by
      rw [z, hp] at e
      exact dctO_neC (Option.some.inj e).symm)]
    exact e
  have l : ∀ {a : Addr} {q : Str}, H a = some (LamX.CodeO a q) → upd H p o a = some (LamX.CodeO a q) := fun {a q} e => by
    rw [upd_ne (fun z => by
      rw [z, hp] at e
      exact dctO_neL (Option.some.inj e).symm)]
    exact e
  obtain ⟨P, k⟩ := q
  cases k with
  | gen =>
    obtain ⟨ps, h1, h2⟩ := h
    exact ⟨ps, t h1, h2⟩
  | nest B =>
    obtain ⟨ps, h1, h2, h3⟩ := h
    refine ⟨ps, t h1, h2, fun pos cv hc => ?_⟩
    obtain ⟨c1, P1, rfl, hB, k1, ps2, k2, k3⟩ := h3 pos cv hc
    exact ⟨c1, P1, rfl, hB, c k1, ps2, t k2, k3⟩
  | dyn c1 =>
    obtain ⟨h0, ps, h1, h2⟩ := h
    exact ⟨c h0, ps, t h1, h2⟩
  | lam q =>
    obtain ⟨ps, h1, h2, h3⟩ := h
    refine ⟨ps, t h1, h2, fun pos cv hc => ?_⟩
    obtain ⟨c1, e1, e2⟩ := h3 pos cv hc
    exact ⟨c1, e1, l e2⟩
theorem Rel.sideD (r : Rel G Z A S H) (hp : H p = some (DctO w p xs)) (hz : Z p = none) (ha : p ∉ A) (o : HO) : Rel G Z A S (upd H p o) := by
  refine ⟨fun b u e => ?_, r.len, r.nd, fun k b m k1 k2 => ?_, fun q hq => (r.tabs q hq).keepD hp, r.zt⟩
  · rw [upd_ne (fun z => by rw [z, hz] at e; cases e)]
    exact r.sub b u e
  · have hb : b ≠ p := fun z => ha (by rw [← z]; exact List.mem_of_getElem? k1)
    have q := r.at_ k b m k1 k2
    cases m with
    | lst es =>
      obtain ⟨z, ws, h, w⟩ := q
      exact ⟨z, ws, by rw [upd_ne hb]; exact h, w⟩
    | ins c fs =>
      obtain ⟨z, C, dx, gs, h, w⟩ := q
      exact ⟨z, C, dx, gs, by rw [upd_ne hb]; exact h, w⟩
    | dead =>
      obtain ⟨ws, h⟩ := q
      exact ⟨ws, by rw [upd_ne hb]; exact h⟩
/-- it becomes ours, frozen -/
theorem Rel.keepO (r : Rel G Z A S H) {o : HO} (hp : H p = some o) (hz : Z p = none) (ha : p ∉ A) (ho : ∀ ps, o ≠ .tbl ps) : Rel G (upd Z p o) A S H ∧ Le Z A (upd Z p o) A := by
  have le : Le Z A (upd Z p o) A := ⟨fun b u e => by rw [upd_ne (fun z => by rw [z, hz] at e; cases e)]; exact e, [], by simp⟩
  refine ⟨⟨fun b u e => ?_, r.len, r.nd, fun k b m k1 k2 => ?_, r.tabs, fun b ps e => ?_⟩, le⟩
  · by_cases hb : b = p
    · subst hb
      rw [upd_same] at e
      rw [hp]; exact e
    · rw [upd_ne hb] at e
      exact r.sub b u e
  · have hb : b ≠ p := fun z => ha (by rw [← z]; exact List.mem_of_getElem? k1)
    exact (r.at_ k b m k1 k2).mono (le.take k1) fun z => by rw [upd_ne hb]; exact z
  · by_cases hb : b = p
    · subst hb
      rw [upd_same] at e
      exact ho ps (Option.some.inj e)
    · rw [upd_ne hb] at e
      exact r.zt b ps e
structure ApD (p : Addr) (o : HO) (H Z : Hp) (A : List Addr) : Prop where
  at_ : H p = some o
  z : Z p = none
  a : p ∉ A
theorem ApD.fut {o : HO} (ho : ∀ ps, o ≠ .tbl ps) (x : ApD p o H Z A) (f : Fut H Z A H' Z' A') : ApD p o H' Z' A' := by
  refine ⟨f.fr p _ x.at_ x.a ho, ?_, fun m => ?_⟩
  · cases q : Z' p with
    | none => rfl
    | some o =>
      rcases f.zn p o q with ⟨o', h⟩ | h | h
      · rw [x.z] at h; cases h
      · rw [x.at_] at h; cases h
      · exact absurd h x.a
  · rcases f.an p m with h | h
    · exact x.a h
    · rw [x.at_] at h; cases h
theorem dctO_nt : ∀ ps, DctO w p xs ≠ .tbl ps := fun ps z => by cases z
end
/-! ### the rule -/
section
variable {X : Cx} {kx vx tg iter : Expr} {scope : Scope} {own : List (Str × Nat)} {pos : Pos} {wi : TI} {g : TG} {tk tv : TE}
/-- D: the new dict -/
def tDcK (X : Cx) (wi : TI) (g : TG) (tk tv : TE) (vs : List Nat) : TE := fun σ H Q => wi σ H fun J H1 => ∀ D, H1 D = none → (D == sysModules) = false → ∃ W : Nat → Nat → Hp → Prop, (∃ m, W 0 m (upd H1 D (DctO X.w D []))) ∧ ∀ i m H, W i m H →
  (J.stop i H ∧ Q (.ref D) H) ∨ (J.go i H ∧ ∃ Nx : Hp → Prop, (∀ H', Nx H' → ∃ m', m' < m ∧ W (i + 1) m' H') ∧ ∀ x H', J.yld i H x H' → g x (L2.wipe σ vs) H' fun σ2 H2 => L2.wipe σ2 vs = L2.wipe σ vs ∧
    tk σ2 H2 fun y H3 => tv σ2 H3 fun z H4 => ∃ (xs : List Ent) (ps : List Mp.D) (k : Mp.D) (b : Addr), y = .ref b ∧ keyT k = true ∧ KyR X.K H4 k (.ref b) ∧ H4 D = some (DctO X.w D xs) ∧ DFine D xs ∧ DRel X.K H4 xs ps ∧ xs.length < sizeLine ∧ ∀ r, RelV z r → DFine D (storedH xs (kyOf k) b r) → Nx (upd H4 D (DctO X.w D (storedH xs (kyOf k) b r))))
/-- where a block's turn begins -/
abbrev BlkD (X : Cx) (sB : Shared) (HB : Hp) (scope : Scope) (ce : Env) (fq : List Addr) (σ0 : L2.St) (tn : Nat → Heap → Prop) (W : Nat → Nat → Hp → Prop) (m : Nat) (s' : Shared) : Prop :=
  ∃ j H', Inv (X.blk sB HB scope ce fq) [] σ0 H' s' ∧ tn j s'.heap ∧ (∀ b ∈ fq, H' b = none) ∧ W j m H'
/-- a pair is put -/
theorem put_ok {pins : List (Addr × Obj)} {σ : L2.St} {H : Hp} {s : Shared} {E : Value → Shared → Prop} {D b : Addr} {k : Mp.D} {xs : List Ent} {ps : List Mp.D} {r : Value} {Q : Unit → Shared → Prop} (hu : X.A.units + 65 < cLine) (I : Inv X pins σ H s) (hD : H D = some (DctO X.w D xs)) (f : DFine D xs) (rel : DRel X.K H xs ps) (hk : keyT k = true) (ky : KyR X.K H k (.ref b)) (hz : xs.length < sizeLine)
    (h : ∀ s', DFine D (storedH xs (kyOf k) b r) → Inv X pins σ (upd H D (DctO X.w D (storedH xs (kyOf k) b r))) s' → Q () s') : wpAny (model X.prog X.w) X.A (dictSet D (.ref b) r) Q E s := by
  refine wpAny_dictSet_heap (knd := nestedKind X.prog X.w) (hsz := Nat.le_of_lt hz) (by show X.A.units + 8 < cLine; omega) (KyR.key I ky hk) (dict_of I hD f rel) fun h' dd hs => ?_
  obtain ⟨raw, nd⟩ := raw_of dd
  have fine : DFine D (storedH xs (kyOf k) b r) := ⟨f.sys, by have := storedH_length xs (kyOf k) b r; omega, nd⟩
  refine h _ fine ?_
  have he : ∃ q, h'.get? D = some q := let ⟨q, _, _, hq, _⟩ := raw; ⟨q, hq⟩
  exact I.write (x := D) (e := D) (by rw [hD]; exact True.intro) (.inl rfl) (fun bb q hb z => (hs.2 bb hb).trans z) he (dctO_ok raw)
theorem pe_dcK (hc : X.calm = true) (hu : X.A.units + 65 < cLine) (hN : X.N.Nodup) (hi : PI X tg iter wi) (ok : BlkOk X.N X.env.scope scope own)
    (hg : ∀ (s : Shared) (H : Hp) (C : Addr) (cl : List (Str × Addr)) (fp : List Addr), PG (X.blk s H scope (compEnvC scope cl C X.env) fp) tg g)
    (hk : ∀ (s : Shared) (H : Hp) (C : Addr) (cl : List (Str × Addr)) (fp : List Addr), PE (X.blk s H scope (compEnvC scope cl C X.env) fp) kx tk)
    (he : ∀ (s : Shared) (H : Hp) (C : Addr) (cl : List (Str × Addr)) (fp : List Addr), PE (X.blk s H scope (compEnvC scope cl C X.env) fp) vx tv) (hs : ∀ x, foldedSetIterable iter X.env x = pure x) :
    PE X (.DictComp kx vx [⟨tg, iter, [], 0⟩] scope pos) (tDcK X wi g tk tv (own.map (·.2))) := by
  refine ⟨fun pins s σ H Q I h => ?_⟩
  have hfree : ∀ y ∈ scope.names, y.2 = .free → ∃ c, X.env.cells.lookup y.1 = some c := fun y hy e => (ok.free y hy e).elim (fun k => I.ok.has _ (.inl k)) fun k => I.ok.has _ (.inr k)
  rw [arm_eval_DictComp]
  refine wpAny_comprehension_free (use := none) rfl hs (closure_ok hfree) ok.kind (fun y hy e => by rw [ok.uniq y hy, e]) (thn (hi.run pins s σ H _ I h) fun xv sA hx => thn hx fun itv sC ⟨it, fq, tn, J, HC, e, IC, T, tC, fC, q⟩ => ?_)
  subst e
  refine wpAny_newObj_type (newEnv_comp ?_)
  obtain ⟨D, hD⟩ : ∃ D, D = sC.heap.objs.size := ⟨_, rfl⟩
  rw [← hD]
  have nD : HC D = none := IC.hok.fresh (Nat.le_of_eq hD.symm)
  have dS : (D == sysModules) = false := beq_eq_false_iff_ne.mpr (by rw [hD]; exact Nat.ne_of_gt IC.big)
  obtain ⟨W, ⟨m0, w0⟩, turn⟩ := q D nD dS
  obtain ⟨sB, hB⟩ : ∃ sB : Shared, sB = { sC with heap := sC.heap.push { cls := .type "dict", data := .dict #[] } } := ⟨_, rfl⟩
  have eB : sB.heap = sC.heap.push { cls := .type "dict", data := .dict #[] } := by rw [hB]
  have IB : Inv X pins σ (upd HC D (DctO X.w D [])) sB := by
    rw [hB]
    refine IC.laid (t' := sC.toks) (fun b o e => Heap.get?_push_of_some _ e) (Nat.le_of_eq hD.symm) (dctO_ok ⟨{ cls := .type "dict", data := .dict #[] }, #[], 0, ?_, ⟨rfl, rfl, rfl⟩, rfl, rfl⟩)
    rw [hD]
    exact Heap.get?_push_size _ rfl
  have fB : ∀ b ∈ fq, FpOk X pins (upd HC D (DctO X.w D [])) b ∧ b < sB.heap.objs.size := fun b hb => by
    obtain ⟨o, e, _⟩ := T.obj _ _ tC b hb
    have lt := Heap.lt_size e
    exact ⟨⟨by rw [upd_ne (by rw [hD]; exact Nat.ne_of_lt lt)]; exact (fC b hb).1, (fC b hb).2⟩, by rw [eB, Heap.size_push]; exact Nat.lt_succ_of_lt lt⟩
  have tB : tn 0 sB.heap := T.keep _ _ _ tC fun b _ o e => by rw [eB]; exact Heap.get?_push_of_some _ e
  have J0 := block_start IB ok hN fB
  obtain ⟨ce, hce⟩ : ∃ ce, ce = compEnvC scope (cellsFrom (sB.heap.objs.size + 1) scope.names (cloFrom X.env.cells scope.names [])) sB.heap.objs.size X.env := ⟨_, rfl⟩
  have lc : ce.locals = sB.heap.objs.size := by rw [hce] <;> rfl
  have Pg : PG (X.blk sB (upd HC D (DctO X.w D [])) scope ce fq) tg g := by rw [hce]; exact hg _ _ _ _ _
  have Pk : PE (X.blk sB (upd HC D (DctO X.w D [])) scope ce fq) kx tk := by rw [hce]; exact hk _ _ _ _ _
  have Pe : PE (X.blk sB (upd HC D (DctO X.w D [])) scope ce fq) vx tv := by rw [hce]; exact he _ _ _ _ _
  rw [← hce] at J0
  have body : ∀ sS : Shared, Inv (X.blk sB (upd HC D (DctO X.w D [])) scope ce fq) [] (L2.wipe σ (own.map (·.2))) (upd HC D (DctO X.w D [])) sS → tn 0 sS.heap →
      codeAny (model X.prog X.w) X.A (.compLoop (.DictComp kx vx [⟨tg, iter, [], 0⟩] scope pos) 0 (.ref it) (.ref D) ce) (compPost (model X.prog X.w) X.A X.xe none (EP X pins σ Q) (.ref D) sB.heap.objs.size) sS := by
    intro sS JS tS
    have stat : ∀ {σ' : L2.St} {H' : Hp} {s' : Shared}, Inv (X.blk sB (upd HC D (DctO X.w D [])) scope ce fq) [] σ' H' s' → (∀ b ∈ fq, H' b = none) → ∀ b ∈ fq, FpOk (X.blk sB (upd HC D (DctO X.w D [])) scope ce fq) [] H' b := fun {σ' H' s'} K hn b hb =>
      ⟨hn b hb, (K.ok.exf b hb).1, K.ok.exfs b hb, .inl hb, fun y c z => (K.ok.exf b hb).2 y c z, fun p hp => nomatch (show p ∈ ([] : List (Addr × Obj)) from by simpa using hp)⟩
    refine compLoop_anyD (BlkD X sB (upd HC D (DctO X.w D [])) scope ce fq (L2.wipe σ (own.map (·.2))) tn W) ?_ m0 ⟨0, _, JS, tS, fun b hb => (fB b hb).1.1, w0⟩
    rintro n s5 ⟨j, H5, K5, t5, n5, w5⟩
    rcases turn j n H5 w5 with ⟨stop, fin⟩ | ⟨go, Nx, hNx, step⟩
    · refine thnF (T.done (X.blk sB (upd HC D (DctO X.w D [])) scope ce fq) rfl rfl rfl hc j [] s5 _ H5 (fun _ _ => False) K5 (stat K5 n5) t5 stop) fun r s6 ⟨hr, K6⟩ => ?_
      subst hr
      have back : Inv X pins σ H5 s6 := IB.call' (ch := fq) K6.os K6.base K6.hok K6.bare fun b hb => ⟨(fB b hb).1.2.2.2.1, (fB b hb).1.2.1, (fB b hb).1.2.2.2.2.1, (fB b hb).1.2.2.2.2.2⟩
      obtain ⟨m, hn, _⟩ := K6.loc
      have hn : s6.heap.Ns ce.locals m := hn
      have nC : H5 ce.locals = none := K6.free
      rw [lc] at hn nC
      refine ⟨m, hn, fun h'' sb => ?_⟩
      obtain ⟨f0, f1, f2, f3, f4, f5⟩ := IB.fpOk (Nat.le_refl _) nC
      exact ⟨.ref D, H5, back.turned (t' := s6.toks) (fun b o hb e => (sb.2 b hb).trans e) f0 f1 f3 f4 f5, rfl, fin⟩
    · refine thnF (T.item (X.blk sB (upd HC D (DctO X.w D [])) scope ce fq) rfl rfl rfl hc j [] s5 _ H5 (fun _ _ => False) K5 (stat K5 n5) t5 go) fun r s6 ⟨u, hr, h6⟩ => ?_
      subst hr
      refine thnF h6 fun _ s7 ⟨x, H7, K7, r7, y7, t7, n7⟩ => ?_
      have K7' := K7.pinned (stat K7 n7) (T.obj _ _ t7)
      refine thnF (Pg.run _ s7 _ H7 x u _ K7' r7 (step x H7 y7)) fun _ s8 ⟨σ8, H8, K8, hw8, q8⟩ => ?_
      refine thnF ((pts_nil (X := X.blk sB (upd HC D (DctO X.w D [])) scope ce fq)).run _ s8 σ8 H8 (fun b H9 => b = true ∧ H9 = H8) K8 ⟨rfl, rfl⟩) fun b s9 ⟨H9, K9, eb, e9⟩ => ?_
      subst eb e9
      show wpAny _ _ (eval kx ce) _ _ s9
      refine thnF (Pk.run _ s9 σ8 H9 _ K9 q8) fun zk sk ⟨yk, Hk, Kk, rk, qk⟩ => ?_
      refine thnF (Pe.run _ sk σ8 Hk _ Kk qk) fun z s10 ⟨yv, H10, K10, r10, xs, ps, k, bk, ek, k1, k2, k3, k4, k5, k6, nx⟩ => ?_
      subst ek
      cases (show zk = Value.ref bk from rk)
      refine put_ok (X := X.blk sB (upd HC D (DctO X.w D [])) scope ce fq) hu K10 k3 k4 k5 k1 k2 k6 fun s11 fine K11 => ?_
      obtain ⟨m', lt, w'⟩ := hNx _ (nx z r10 fine)
      have pin' : ∀ b ∈ fq, ∀ o, s7.heap.get? b = some o → s11.heap.get? b = some o ∧ upd H10 D (DctO X.w D (storedH xs (kyOf k) bk z)) b = none := fun b hb o e =>
        let z := K11.pin (b, o) (List.mem_append_right _ (List.mem_append_right _ (mem_pinsAt hb e)))
        ⟨z.1, z.2.1⟩
      refine ⟨m', lt, j + 1, _, (K11.unpinned (pins := [])).weak (by rw [← hw8, wipe_length]) (fun i v e => by rw [← hw8] at e; exact (wipe_some e).1), T.keep _ _ _ t7 fun b hb o e => (pin' b hb o e).1, fun b hb => ?_, w'⟩
      obtain ⟨o, e, _⟩ := T.obj _ _ t7 b hb
      exact (pin' b hb o e).2
  have tS : tn 0 (pushCells (sB.heap.push { cls := .type "dict", data := .dict #[] }) scope.names) := T.keep _ _ _ tB fun b _ o e => pushCells_keeps _ _ _ _ (Heap.get?_push_of_some _ e)
  have lp := body { sB with heap := pushCells (sB.heap.push { cls := .type "dict", data := .dict #[] }) scope.names } J0 tS
  rw [hD, ← hB]
  rw [hce, hD] at lp
  exact codeAny_compStart_dict lp (T.self X.A 0 _ _ _ tS lp)
end
/-! ### by the evaluator -/
def turnK (t : Tg) (own : List Nat) (fk fv : FE) (env : EnvD) : D → Store → R (List D) := fun d S => (opt (asg t d (wipe env own)) S).bind fun en S => (fk en S).bind fun x S => (fv en S).bind fun y S => .ok [.tuple [x, y]] S
def dcompF (own : List Nat) (t : Tg) (fi : FI) (fk fv : FE) : FE := fun env S => (fi env S).bind fun v S1 => (noX (mapItv (turnK t own fk fv env) v S1)).bind fun ps S2 => opt (mkDct ps) S2
theorem unP_app : ∀ {ps qs : List D} {kvs : List (D × D)}, unP (ps ++ qs) = some kvs → ∃ k1 k2, unP ps = some k1 ∧ unP qs = some k2 ∧ kvs = k1 ++ k2
  | [], qs, kvs, h => ⟨[], kvs, rfl, h, rfl⟩
  | p :: ps, qs, kvs, h => by
    obtain ⟨e1, e2⟩ := unP_pairs h
    cases kvs with
    | nil => cases e1
    | cons kv kvs =>
      obtain ⟨k, v⟩ := kv
      rw [List.cons_append, List.map_cons] at e1
      obtain ⟨rfl, e1⟩ := List.cons.inj e1
      have hk := e2 _ List.mem_cons_self
      have h : (if (keyT k && atomB v) = true then (unP (ps ++ qs)).map ((k, v) :: ·) else none) = some ((k, v) :: kvs) := h
      rw [hk.1, hk.2] at h
      have h : (unP (ps ++ qs)).map ((k, v) :: ·) = some ((k, v) :: kvs) := h
      obtain ⟨r, h1, h2⟩ := Option.map_eq_some_iff.mp h
      cases h2
      obtain ⟨k1, k2, q1, q2, q3⟩ := unP_app h1
      refine ⟨(k, v) :: k1, k2, ?_, q2, by rw [q3]; rfl⟩
      show (if (keyT k && atomB v) = true then (unP ps).map ((k, v) :: ·) else none) = _
      rw [hk.1, hk.2, q1]
      rfl
theorem dmerge_snoc (acc : List (D × D)) (p : D × D) : dmerge (acc ++ [p]) = dput (dmerge acc) p.1 p.2 := by
  unfold dmerge
  rw [List.foldl_append]
  rfl
theorem dput_length (kvs : List (D × D)) (k v : D) : (dput kvs k v).length ≤ kvs.length + 1 := by
  unfold dput
  split
  · rw [List.length_map]
    omega
  · rw [List.length_append]
    simp
theorem dmerge_length (ps : List (D × D)) : (dmerge ps).length ≤ ps.length := by
  have : ∀ (ps acc : List (D × D)), (ps.foldl dput' acc).length ≤ acc.length + ps.length := by
    intro ps
    induction ps with
    | nil => intro acc; simp
    | cons p ps ih =>
      intro acc
      have h1 := ih (dput' acc p)
      have h2 := dput_length acc p.1 p.2
      unfold dput' at h1
      simp only [List.foldl_cons, List.length_cons]
      unfold dput'
      omega
  simpa [dmerge] using this ps []
section
variable {G : Wd} {P : Program} {w : World} {base : Heap} {N : List Str} {n : Nat} {W : L2.St → XK} {X : Cx}
variable {kx vx tg iter : Expr} {scope : Scope} {own : List (Str × Nat)} {pos : Pos} {fi : FI} {fk fv : FE} {t : Tg}
theorem PR_len {K : PySem.W.Frag} {Z : Hp} {xs : List Ent} {ps : List D} (r : DRel K Z xs ps) : xs.length = ps.length := Paired.length r
theorem dc_core_D {σ : L2.St} {H : Hp} {Q : VK} (hK : X.K = G.K) (hw : G.w = X.w) (hown : ∀ i ∈ slots t, i ∈ own.map (·.2)) (h : tD G (dcompF (own.map (·.2)) t fi fk fv) W σ H Q) : tDcK X (tI G fi W) (gT G t) (tD G fk noW) (tD G fv noW) (own.map (·.2)) σ H Q := by
  obtain ⟨Z, A, env, S, hR, hE, hP⟩ := h
  refine stepI hR hE hP fun v J S1 Z1 A1 H1 f1 R1 E1 wk P1 => ?_
  intro p hp hsys
  have P1 := noX_post P1.bind
  obtain ⟨f, hf⟩ := mapItv_W (turnK t (own.map (·.2)) fk fv env) v S1
  rw [hf] at P1
  let K : List (D × D) → List D → Store → Prop := fun acc r S2 => PostR (opt (mkDct (acc.map pairD ++ r)) S2) (fun d S' => Kon G H Z A d S' Q) (fun x S' => KonX G H1 Z1 A1 x S' (W σ))
  refine ⟨fun i m H' => ∃ Z' A' S' xs acc, Rel G Z' A' S' H' ∧ Fut H1 Z1 A1 H' Z' A' ∧ ApD p (DctO X.w p xs) H' Z' A' ∧ DFine p xs ∧ DRel G.K Z' xs ((dmerge acc).map pairD) ∧ PostR (mapW (nxt v) (turnK t (own.map (·.2)) fk fv env) m i S') (K acc) (fun _ _ => False), ⟨f, ?_⟩, ?_⟩
  · have R2 := R1.grow (upd_grow (o := DctO X.w p []) hp)
    have f2 : Fut H1 Z1 A1 (upd H1 p (DctO X.w p [])) Z1 A1 := Fut.side .refl hp _
    exact ⟨Z1, A1, S1, [], [], R2, f2, ⟨upd_same, R1.zfresh hp, R1.afresh hp⟩, ⟨hsys, Nat.zero_le _, List.nodup_nil⟩, .nil, P1.mono (fun ds S2 _ h => h) fun _ _ h => h⟩
  · rintro i m H2 ⟨Z2, A2, S2, xs, acc, R2, f2, ap, fine, hv, P2⟩
    cases m with
    | zero => exact P2.elim
    | succ m =>
      have w2 := wk Z2 A2 S2 H2 i R2 f2.le
      unfold mapW at P2
      cases hn : nxt v i S2 with
      | none =>
        rw [hn] at P2
        exact P2.elim
      | some o =>
        rw [hn] at P2 w2
        cases o with
        | none =>
          refine .inl ⟨w2, ?_⟩
          have P2 : PostR (opt (mkDct (acc.map pairD ++ [])) S2) _ _ := P2
          rw [List.append_nil] at P2
          obtain ⟨d, hd, k⟩ := P2.opt
          have k : Kon G H Z A d S2 Q := k
          unfold mkDct at hd
          split at hd
          · obtain ⟨kvs, h1, rfl⟩ := Option.map_eq_some_iff.mp hd
            obtain ⟨e1, _⟩ := unP_pairs h1
            have e2 : acc = kvs := by
              have inj : ∀ {a b : List (D × D)}, a.map pairD = b.map pairD → a = b := by
                intro a
                induction a with
                | nil => intro b h; cases b with | nil => rfl | cons _ _ => cases h
                | cons x a ih =>
                  intro b h
                  cases b with
                  | nil => cases h
                  | cons y b =>
                    obtain ⟨x1, x2⟩ := x
                    obtain ⟨y1, y2⟩ := y
                    rw [List.map_cons, List.map_cons] at h
                    obtain ⟨h1, h2⟩ := List.cons.inj h
                    simp only [pairD, PyData.tuple.injEq, List.cons.injEq, and_true] at h1
                    rw [h1.1, h1.2, ih h2]
              exact inj e1
            subst e2
            obtain ⟨R3, le⟩ := R2.keepO ap.at_ ap.z ap.a dctO_nt
            refine Kon.fut k f1 _ _ _ _ (f2.keepZ hp _ ap.z) R3 (.dct ?_ fine (hv.le le.z))
            rw [hw]
            exact upd_same
          · cases hd
        | some d =>
          obtain ⟨go, yl⟩ := w2
          have P2 := PostR.bind (PostR.bind (show PostR ((turnK t (own.map (·.2)) fk fv env d S2).bind _) _ _ from P2))
          obtain ⟨en, hen, P2⟩ := P2.opt
          refine .inr ⟨go, fun H' => ∃ Z' A' S' xs acc, Rel G Z' A' S' H' ∧ Fut H1 Z1 A1 H' Z' A' ∧ ApD p (DctO X.w p xs) H' Z' A' ∧ DFine p xs ∧ DRel G.K Z' xs ((dmerge acc).map pairD) ∧ PostR (mapW (nxt v) (turnK t (own.map (·.2)) fk fv env) m (i + 1) S') (K acc) (fun _ _ => False), fun H' hN => ⟨m, Nat.lt_succ_self _, hN⟩, fun x H3 y => ?_⟩
          obtain ⟨Z3, R3, f3, rx⟩ := yl x H3 y
          have f13 := f2.trans f3
          have ap3 := ap.fut dctO_nt f3
          refine ⟨Z3, A2, S2, wipe env (own.map (·.2)), d, en, R3, (E1.mono f13.le).wipe _, rx, hen, fun σ2 E3 o2 => ⟨?_, ?_⟩⟩
          · rw [o2 _ hown, wipe_wipe _ _ _ fun u hu => hu]
          · refine ⟨Z3, A2, en, S2, R3, E3, (PostR.bind P2).mono (fun dk S4 _ P4 vk H4 Z4 A4 f4 R4 rk => ?_) fun x S' h => h.elim⟩
            refine ⟨Z4, A4, en, S4, R4, E3.mono f4.le, (PostR.bind P4).mono (fun dv S5 _ P5 vv H5 Z5 A5 f5 R5 rv => ?_) fun x S' h => h.elim⟩
            have P5 := PostR.bind (show PostR ((mapW (nxt v) (turnK t (own.map (·.2)) fk fv env) m (i + 1) S5).bind fun r S2 => .ok ([.tuple [dk, dv]] ++ r) S2) (K acc) _ from P5)
            have f35 := (f3.trans f4).trans f5
            have ap5 := ((ap3.fut dctO_nt f4).fut dctO_nt f5)
            have good : keyT dk = true ∧ atomB dv = true ∧ acc.length < lim := by
              cases hq : mapW (nxt v) (turnK t (own.map (·.2)) fk fv env) m (i + 1) S5 with
              | bad => rw [hq] at P5; exact P5.elim
              | exc x S' => rw [hq] at P5; exact P5.elim
              | ok r S6 =>
                rw [hq] at P5
                have P5 : PostR (opt (mkDct (acc.map pairD ++ ([.tuple [dk, dv]] ++ r))) S6) _ _ := P5
                obtain ⟨dd, hd, _⟩ := P5.opt
                unfold mkDct at hd
                split at hd
                · rename_i hz
                  obtain ⟨kvs, h1, _⟩ := Option.map_eq_some_iff.mp hd
                  obtain ⟨k1, k2, q1, q2, _⟩ := unP_app h1
                  have q2 : (if (keyT dk && atomB dv) = true then (unP r).map ((dk, dv) :: ·) else none) = some k2 := q2
                  split at q2
                  · rename_i hb
                    rw [Bool.and_eq_true] at hb
                    refine ⟨hb.1, hb.2, ?_⟩
                    rw [List.length_append, List.length_append, List.length_map, List.length_singleton] at hz
                    omega
                  · cases q2
                · cases hd
            obtain ⟨g1, g2, g3⟩ := good
            obtain ⟨bk, rfl, ky⟩ := rp_keyT g1 rk
            have ky5 := ky.le f5.z _ _
            have hv5 := hv.le f35.z
            have hl : xs.length < sizeLine := by
              have e1 := PR_len hv
              have e2 := dmerge_length acc
              rw [List.length_map] at e1
              rw [← lim_eq]
              omega
            refine ⟨xs, (dmerge acc).map pairD, dk, bk, rfl, g1, ?_, ap5.at_, fine, ?_, hl, fun r rr fine2 => ?_⟩
            · rw [hK]
              exact ky5.le R5.sub _ _
            · rw [hK]
              exact hv5.le R5.sub
            · refine ⟨Z5, A5, S5, _, acc ++ [(dk, dv)], R5.sideD ap5.at_ ap5.z ap5.a _, (f2.trans f35).side hp _, ⟨upd_same, ap5.z, ap5.a⟩, fine2, ?_, P5.mono (fun r S6 _ h => ?_) fun _ _ h => h⟩
              · rw [dmerge_snoc]
                exact DRel.put g1 g2 ky5 (rp_atom g2 rv) rr hv5
              · have h : PostR (opt (mkDct (acc.map pairD ++ ([.tuple [dk, dv]] ++ r))) S6) _ _ := h
                show PostR (opt (mkDct ((acc ++ [(dk, dv)]).map pairD ++ r)) S6) _ _
                rw [List.map_append, List.append_assoc]
                exact h
theorem s_dcomp (c : Cok G P w base N n W X) (hw : G.w = w) (hi : PI X tg iter (tI G fi W)) (ok : BlkOk X.N X.env.scope scope own)
    (hg : ∀ (s : Shared) (H : Hp) (C : Addr) (cl : List (Str × Addr)) (fp : List Addr), PG (X.blk s H scope (compEnvC scope cl C X.env) fp) tg (gT G t))
    (hk : ∀ (s : Shared) (H : Hp) (C : Addr) (cl : List (Str × Addr)) (fp : List Addr), PE (X.blk s H scope (compEnvC scope cl C X.env) fp) kx (tD G fk noW))
    (he : ∀ (s : Shared) (H : Hp) (C : Addr) (cl : List (Str × Addr)) (fp : List Addr), PE (X.blk s H scope (compEnvC scope cl C X.env) fp) vx (tD G fv noW)) (hs : ∀ x, foldedSetIterable iter X.env x = pure x) (hown : ∀ i ∈ slots t, i ∈ own.map (·.2)) :
    PE X (.DictComp kx vx [⟨tg, iter, [], 0⟩] scope pos) (tD G (dcompF (own.map (·.2)) t fi fk fv) W) :=
  PE.imp (pe_dcK c.calm c.units (by rw [c.nm]; exact c.nd) hi ok hg hk he hs) fun σ H Q h => dc_core_D c.K (hw.trans c.wo.symm) hown h
end
end Mp
set_option maxHeartbeats 4000000
/-! Mp.DcP: dict(pairs). -/
namespace Mp
open PySem PySem.Spec PyProof.Rows L2
theorem PlainL_seq {h : Heap} {a : Addr} {its : Array Value} (x : PlainL h a its) : PlainSeq "list" h a its := by
  obtain ⟨o, n, h1, h2, h3, h4⟩ := x
  exact ⟨o, n, h1, h2, h3, h4⟩
section
variable {G : Wd} {X : Cx} {pins : List (Addr × Obj)} {σ : L2.St} {H Z : Hp} {A : List Addr} {S : Store} {s : Shared}
/-- the pairs, as the heap has them -/
theorem pairs_ent (hK : X.K = G.K) (I : Inv X pins σ H s) (R : Rel G Z A S H) : ∀ {kvs : List (D × D)} {ws : List V} {us : List Value}, RpAll G Z A ws (kvs.map pairD) → (∀ p ∈ kvs, keyT p.1 = true ∧ atomB p.2 = true) → Vals ws us →
    ∃ (Ts : List Addr) (prs : List (Value × Value)) (es : List Ent), us = Ts.map Value.ref ∧ prs.length = Ts.length ∧ es.length = Ts.length ∧ (∀ (j : Nat) (k v : Value), prs[j]? = some (k, v) → ∃ (T : Addr) (x : Ent), Ts[j]? = some T ∧ IsTup s.heap T #[k, v] ∧ es[j]? = some x ∧ k = .ref x.2.1 ∧ v = x.2.2) ∧ DRel G.K Z es (kvs.map pairD)
  | [], _, _, r, _, rv => by
    cases r
    cases rv
    exact ⟨[], [], [], rfl, rfl, rfl, fun j k v e => by simp at e, .nil⟩
  | (k, v) :: kvs, _, _, r, hk, rv => by
    cases r with
    | cons r1 r2 =>
      cases rv with
      | cons v1 v2 =>
        obtain ⟨Ts, prs, es, e1, e2, e3, e4, e5⟩ := pairs_ent hK I R r2 (fun p hp => hk p (List.mem_cons_of_mem _ hp)) v2
        obtain ⟨g1, g2⟩ := hk _ List.mem_cons_self
        cases r1 with
        | @tup T xs _ q1 q2 =>
          cases q2 with
          | cons p1 q2 =>
            cases q2 with
            | cons p2 q3 =>
              cases q3
              obtain ⟨b, rfl, ky⟩ := rp_keyT g1 p1
              have hT := sqT_le (K := G.K) R.sub q1
              rw [← hK] at hT
              obtain ⟨its, ri, hi, _⟩ := I.tuple hT
              cases ri with
              | cons a1 ri =>
                cases ri with
                | @cons _ u2 _ _ a2 ri =>
                  cases ri
                  cases a1
                  cases v1
                  refine ⟨T :: Ts, (.ref b, u2) :: prs, (kyOf k, b, u2) :: es, by rw [e1]; rfl, by simp [e2], by simp [e3], fun j k' v' e => ?_, .cons ⟨k, v, rfl, g1, g2, rfl, ky, _, rp_atom g2 p2, a2⟩ e5⟩
                  cases j with
                  | zero =>
                    have e := Option.some.inj e
                    cases e
                    exact ⟨T, _, rfl, hi, rfl, rfl, rfl⟩
                  | succ j =>
                    obtain ⟨T', x, f1, f2, f3, f4, f5⟩ := e4 j k' v' (by simpa using e)
                    exact ⟨T', x, by simpa using f1, f2, by simpa using f3, f4, f5⟩
theorem DRel.all {K : PySem.W.Frag} : ∀ {es : List Ent} {kvs : List (D × D)} {xs : List Ent} {acc : List (D × D)}, DRel K Z es (kvs.map pairD) → DRel K Z xs (acc.map pairD) → DRel K Z (es.foldl (fun acc p => storedH acc p.1 p.2.1 p.2.2) xs) ((kvs.foldl dput' acc).map pairD)
  | [], [], _, _, .nil, h => h
  | x :: es, p :: kvs, xs, acc, .cons h t, ha => by
    obtain ⟨k, v, h1, h2, h3, h4, h5, u, h6, h7⟩ := h
    obtain ⟨p1, p2⟩ := p
    simp only [pairD, PyData.tuple.injEq, List.cons.injEq, and_true] at h1
    obtain ⟨rfl, rfl⟩ := h1
    rw [List.foldl_cons, List.foldl_cons]
    refine DRel.all t ?_
    rw [h4]
    exact DRel.put h2 h3 h5 h6 h7 ha
def rDp (G : Wd) : List V → Hp → VK → Prop := fun vs H Q => ∃ Z A S v d r, vs = [v] ∧ Rel G Z A S H ∧ Rp G Z A v d ∧ (pairsOf S d).bind mkDct = some r ∧ Kon G H Z A r S Q
theorem cr_dpairs (hK : X.K = G.K) (hw : G.w = X.w) (hc : X.calm = true) (hu : X.A.units + 65 < cLine) : CallR X (.type "dict") (rDp G) := by
  intro pins s σ H xs us Q I r h
  obtain ⟨Z, A, S, v, d, rr, rfl, hR, hv, hd, k⟩ := h
  obtain ⟨ps, hp, hd⟩ := Option.bind_eq_some_iff.mp hd
  unfold mkDct at hd
  split at hd
  · rename_i hz
    obtain ⟨kvs, h1, rfl⟩ := Option.map_eq_some_iff.mp hd
    obtain ⟨e1, e2⟩ := unP_pairs h1
    subst e1
    obtain ⟨u, rfl, rx⟩ := vals1 r
    -- the end, for any argument
    have fin : ∀ {T : String} {a : Addr} {ws : List V} {us : List Value}, RpAll G Z A ws (kvs.map pairD) → Vals ws us → (∀ (Ts : Nat → Addr) (prs : List (Value × Value)), ∃ fp, Nonempty (PairArg X.prog X.w T a fp [] prs.length (PairRel prs) (fun h => PlainSeq T h a us.toArray ∧ PairItems h us.toArray Ts prs))) → PlainSeq T s.heap a us.toArray → wpAny (model X.prog X.w) X.A (call (.type "dict") [.ref a]) (EP X pins σ Q) X.xe s := by
      intro T a ws us rw' rv hP hseq
      obtain ⟨Ts, prs, es, q1, q2, q3, q4, q5⟩ := pairs_ent hK I hR rw' e2 rv
      obtain ⟨fp, ⟨PA⟩⟩ := hP (fun j => Ts.getD j 0) prs
      have hl : kvs.length = Ts.length := by
        have l1 := rw'.length
        have l2 := rv.length
        rw [q1, List.length_map] at l2
        rw [List.length_map] at l1
        omega
      have hz' : Ts.length ≤ sizeLine := by
        rw [List.length_map] at hz
        rw [← lim_eq]
        omega
      have rel2 : DRel X.K H es (kvs.map pairD) := by
        rw [hK]
        exact q5.le hR.sub
      refine call_dict_pairsH (knd := nestedKind X.prog X.w) (ps := es) PA (I.ok.hd hc) (by show X.A.units + 1 + 1 + 8 < cLine; omega) ⟨hseq, ?_, fun j k v e => ?_⟩ ⟨by omega, fun j k v e => ?_⟩ (fun h' hk x hx => ?_) (by omega) fun h' tk dd hk => ?_
      · simp [q1, q2]
      · obtain ⟨T', x, f1, f2, f3, f4, f5⟩ := q4 j k v e
        refine ⟨by simp [q1, f1], .inl ?_⟩
        have e3 : Ts.getD j 0 = T' := by simp [List.getD, f1]
        show s.heap.IsTuple (Ts.getD j 0) #[k, v]
        rw [e3]
        exact f2
      · obtain ⟨T', x, f1, f2, f3, f4, f5⟩ := q4 j k v e
        obtain ⟨x1, x2, x3⟩ := x
        subst f5
        exact ⟨x1, x2, f3, f4⟩
      · exact nestedKind_stays.stays (fun b o vs n hb _ => hk b o (Nat.ne_of_lt (Heap.lt_size hb)) (by simp) hb) (rel2.keys I x hx)
      · have nf : H s.heap.objs.size = none := I.hok.fresh (Nat.le_refl _)
        obtain ⟨raw, nd⟩ := raw_of dd
        have fine : DFine s.heap.objs.size (storedAllH [] es) := ⟨beq_eq_false_iff_ne.mpr (Nat.ne_of_gt I.big), by have := storedAllH_length es []; simp at this; omega, nd⟩
        have I2 := I.laid (t' := tk) (a := s.heap.objs.size) (o := DctO X.w s.heap.objs.size (storedAllH [] es)) (h' := h') (fun b o e => hk b o (by simp) e) (Nat.le_refl _) (dctO_ok raw)
        obtain ⟨R2, F2⟩ := hR.freeze (o := DctO X.w s.heap.objs.size (storedAllH [] es)) nf dctO_nt
        refine ⟨.ref s.heap.objs.size, _, I2, rfl, k _ _ _ _ F2 R2 (.dct ?_ fine (DRel.le F2.z (DRel.all (xs := []) (acc := []) q5 .nil)))⟩
        rw [hw]
        exact upd_same
    unfold pairsOf at hp
    split at hp
    · cases hp
      cases hv with
      | @ktu a o ws _ k1 k2 k3 =>
        cases rx
        obtain ⟨g1, g2, its, rv, g4⟩ := I.hok a _ (hR.sub _ _ k1)
        obtain ⟨o', ho', hc', n, hd'⟩ := g4
        rw [g1] at ho'
        cases ho'
        exact fin (T := "tuple") k3 rv (fun Ts prs => ⟨_, ⟨PairArg.tuple a its.toArray Ts prs⟩⟩) ⟨_, n, g1, hc', k2, hd'⟩
    · split at hp
      · rename_i ds e
        cases hp
        obtain ⟨a, ws, rfl, h3, h4⟩ := rd_list hR hv e
        cases rx
        obtain ⟨its, rv, pl, _⟩ := I.list (.inl (.of h3))
        exact fin (T := "list") h4 rv (fun Ts prs => ⟨_, ⟨PairArg.list a its.toArray Ts prs⟩⟩) (PlainL_seq pl)
      · cases hp
  · cases hd
end
section
variable {G : Wd} {P : Program} {w : World} {base : Heap} {N : List Str} {n : Nat} {W : L2.St → XK} {X : Cx} {a : Expr} {fa : FE} {pos p : Pos}
def dpairsF (fa : FE) : FE := fun env S => (fa env S).bind fun x S1 => opt ((pairsOf S1 x).bind mkDct) S1
theorem s_dpairs (c : Cok G P w base N n W X) (hw : G.w = w) (hb : Bn X "dict" (.type "dict")) (ha : PE X a (tD G fa W)) (hs : noStar a = true) : PE X (.Call (.Name "dict" p) [a] [] pos) (tD G (dpairsF fa) W) :=
  PE.imp (pe_callTy (cr_dpairs c.K (hw.trans c.wo.symm) c.calm c.units) hb.gl hb.mg hb.boot (pa_cons ha pa_nil (star_cons hs _ _)) hb.nm hb.db (star_cons hs _ _) (star_any (by simp))) fun σ H Q ⟨Z, A, env, S, hR, hE, hP⟩ =>
    step hR hE hP fun v d S1 Z1 A1 H1 f1 R1 E1 r1 P1 => by
      obtain ⟨r, hr, k⟩ := P1.opt
      exact ⟨Z1, A1, S1, v, d, r, rfl, R1, r1, hr, Kon.fut k f1⟩
end
end Mp
set_option maxHeartbeats 2000000
/-! Mp.Cv: defs as values, called by a local name. -/
namespace Mp
open PySem PySem.Spec PyProof.Rows L2
theorem idxS_is {x : Str} : ∀ {fs : List Str} {f : Nat}, idxS x fs = some f → fs[f]? = some x
  | [], _, h => by cases h
  | y :: r, f, h => by
    have h : (if x = y then some 0 else (idxS x r).map (· + 1)) = some f := h
    split at h
    · rename_i e
      cases h
      rw [e]
      rfl
    · obtain ⟨g, h1, rfl⟩ := Option.map_eq_some_iff.mp h
      simpa using idxS_is h1
section
variable {κ : Ck} {cal : CallF} {G0 G : Wd} {P : Program} {w : World} {base : Heap} {KL n : Nat} {W : L2.St → XK} {X : Cx}
variable {e : Expr} {es : List Expr} {fs : FA} {x : Str} {p pos : Pos} {i : Nat}
theorem s_fnv (s : Sok κ cal G0 G P w base KL n W X) {f : Nat} (hf : κ.fns[f]? = some x) (hg : κ.sc.names.lookup x = some .globalImplicit) : PE X (.Name x pos) (tD G (fun _ S => .ok (oFn x) S) W) := by
  obtain ⟨a, fd, ps, F, h1, h2, h3, h4⟩ := s.md.fn f x hf
  have hgl : Gl X x := by
    show X.env.scope.names.lookup x = _
    rw [s.sc]
    exact hg
  have hm : G.mg x = some (.ref a) := by rw [s.sup.mg]; exact h1
  exact s_con (pe_glob hgl (by rw [s.cok.mg]; exact hm) (show RelV (.ref a) (.ref a) from rfl) h4) fun Z A => .fn hm
def callvF (cal : CallF) (gs : List Str) (i : Nat) (fs : FA) : FE := fun env S => match env[i]? with
    | some (some d) => (opt (fnOf gs d) S).bind fun f S => (fs env S).bind fun ds S1 => cal f ds S1
    | _ => .bad
theorem s_callV (s : Sok κ cal G0 G P w base KL n W X) (hi : κ.N[i]? = some x) (hv : Vis X.env.scope x) (hd : (x == ("__debug__" : Str)) = false) (hcd : (x == ("__classdict__" : Str)) = false) (ha : PA X (e :: es) (tA G fs W)) (hs : (e :: es).all noStar = true) :
    PE X (.Call (.Name x p) (e :: es) [] pos) (tD G (callvF cal κ.fns i fs) W) := by
  refine ⟨fun pins s0 σ H Q I h => ?_⟩
  obtain ⟨Z, A, env, S, hR, hE, hP⟩ := h
  unfold callvF at hP
  split at hP
  · rename_i d he
    obtain ⟨f, hf, hP2⟩ := hP.bind.opt
    have hP2 : PostR ((fs env S).bind fun ds S1 => cal f ds S1) (fun d S' => Kon G H Z A d S' Q) (fun x S' => KonX G H Z A x S' (W σ)) := hP2
    unfold fnOf at hf
    split at hf
    · rename_i y
      have hy := idxS_is hf
      obtain ⟨a, fd, ps, F, h1, h2, h3, h4⟩ := s.md.fn f y hy
      obtain ⟨v, hs1, hs2⟩ := hE.at_ i _ he
      cases hs2 with
      | @fn a' _ hm =>
        rw [s.sup.mg, h1] at hm
        cases hm
        have eK : X.K = G0.K := s.cok.K.trans s.sup.K
        have em : X.mg = G0.mg := s.cok.mg.trans s.sup.mg
        have h5 : noStar e = true ∧ es.all noStar = true := by simpa [List.all_cons, Bool.and_eq_true] using hs
        have px : PassesAt (L2.CX X.prog X.w) X σ (W σ) := passAt s.cok.tk σ
        refine wpAny_Call_Name_kw (thn ((pe_var (pos := p) (i := i) (by rw [s.cok.nm]; exact hi) hv hd hcd).run pins s0 σ H (fun v H1 => v = .ref a ∧ H1 = H) I ⟨.ref a, hs1, rfl, rfl⟩) fun u s1 ⟨v, H1, I1, r1, q1⟩ => ?_)
        obtain ⟨rfl, rfl⟩ := q1
        cases r1
        refine PySem.W.callWith_K (h₀ := X.base) I.ok.mod.kin (by rw [eK]; exact h2) (thn (ha.run pos pins s1 σ _ _ I1 (stepA (Rr := fun vs H1 => spD cal f G0 vs H1 Q (W σ)) hR hE hP2 fun vs ds S1 Z1 A1 H1 f1 R1 E1 r1 P1 => sp_call s f1 R1 r1 P1)) fun us s2 ⟨vs, H2, I2, r, q⟩ => ⟨I2.kIn, ?_⟩) (star_cons h5.1 _ _) (star_any h5.2)
        exact run_fnS (k := KL) (E := W) (by rw [s.cok.prog, s.cok.wo, s.cok.base, eK, em]; exact F) (s.cok.room.mono (by have := s.rm; omega)) (by rw [eK]; exact h3) (by rw [← s.cok.prog, ← s.cok.wo]; exact px) I2 r q
    · cases hf
  · exact hP.elim
end
end Mp
set_option maxHeartbeats 2000000
/-! Mp.Chk2: a check of expressions against the small language. -/
namespace Mp
open PySem PySem.Spec PyProof.Rows L2
theorem bind1 {x q : Str} {pp : Pos} {body : Expr} {scope : Scope} {pm cv ctv : Value} {v : Value} : bindArgs (PySem.W.kla_fn "<lambda>" q ⟨[], [⟨x, none, pp⟩], none, [], [], none, []⟩ body scope [] pm cv ctv) ⟨[v], []⟩ = pure [(x, v)] := by
  have e : seqItems? Value.none = pure none := rfl
  unfold bindArgs
  rw [e]
  simp
/-! ### small checks -/
def visB (sc : Scope) (x : Str) : Bool := decide (sc.names.lookup x = some .local) || decide (sc.names.lookup x = some .cell) || decide (sc.names.lookup x = some .free)
def glB (sc : Scope) (x : Str) : Bool := decide (sc.names.lookup x = some .globalImplicit)
def nmB (x : Str) : Bool := !(x == ("__debug__" : Str)) && !(x == ("__classdict__" : Str))
def varB (κ : Ck) (i : Nat) (x : Str) : Bool := decide (κ.N[i]? = some x) && visB κ.sc x && nmB x
def conB : D → Const → Bool
  | .none, .none => true
  | .bool a, .bool b => decide (a = b)
  | .int i, .int j => decide (i = j)
  | .str x, .str y => decide (x = y)
  | _, _ => false
def sameSs : List D → List D → Bool
  | [], [] => true
  | .str x :: xs, .str y :: ys => decide (x = y) && sameSs xs ys
  | _, _ => false
theorem sameSs_eq : ∀ {xs ys : List D}, sameSs xs ys = true → xs = ys
  | [], [], _ => rfl
  | .str x :: xs, .str y :: ys, h => by
    have h : (decide (x = y) && sameSs xs ys) = true := h
    rw [Bool.and_eq_true, decide_eq_true_eq] at h
    rw [h.1, sameSs_eq h.2]
  | [], _ :: _, h => by simp [sameSs] at h
  | .none :: _, _, h => by simp [sameSs] at h
  | .bool _ :: _, _, h => by simp [sameSs] at h
  | .int _ :: _, _, h => by simp [sameSs] at h
  | .list _ :: _, _, h => by simp [sameSs] at h
  | .tuple _ :: _, _, h => by simp [sameSs] at h
  | .dict _ :: _, _, h => by simp [sameSs] at h
  | .str _ :: _, [], h => by simp [sameSs] at h
  | .str _ :: _, .none :: _, h => by simp [sameSs] at h
  | .str _ :: _, .bool _ :: _, h => by simp [sameSs] at h
  | .str _ :: _, .int _ :: _, h => by simp [sameSs] at h
  | .str _ :: _, .list _ :: _, h => by simp [sameSs] at h
  | .str _ :: _, .tuple _ :: _, h => by simp [sameSs] at h
  | .str _ :: _, .dict _ :: _, h => by simp [sameSs] at h
def sameD : D → D → Bool
  | .int i, .int j => decide (i = j)
  | .dict [(.str x, .none)], .dict [(.str y, .none)] => decide (x = y)
  | .tuple xs, .tuple ys => sameSs xs ys
  | _, _ => false
theorem sameD_eq {d e : D} (h : sameD d e = true) : d = e := by
  unfold sameD at h
  split at h
  · have h := of_decide_eq_true h
    rw [h]
  · have h := of_decide_eq_true h
    rw [h]
  · rw [sameSs_eq h]
  · cases h
def gloB (κ : Ck) (x : Str) (d : D) : Bool := match κ.con.lookup x with
  | some e => sameD d e
  | none => false
def plainB : Expr → Bool
  | .Slice .. => false
  | _ => true
theorem plainB_ok {e : Expr} (h : plainB e = true) : PlainIx e := by
  cases e <;> first | (intro o i; rfl) | cases h
def noSetB : Expr → Bool
  | .Set .. => false
  | _ => true
theorem noSet_ok {e : Expr} (h : noSetB e = true) (env : Env) (x : Value) : foldedSetIterable e env x = pure x := by
  cases e <;> first | rfl | cases h
def noFoldB : Expr → Bool
  | .Set .. => false
  | .List .. => false
  | _ => true
theorem noFold_ok {e : Expr} (h : noFoldB e = true) (env : Env) (x : Value) : genFold e env x = pure x := by
  cases e <;> first | rfl | cases h
def tupB : Expr → Bool
  | .Tuple .. => true
  | _ => false
/-- stores -/
def chkT (κ : Ck) : Tg → Expr → Bool
  | .nm i, e => (match e with
    | .Name x _ => decide (κ.N[i]? = some x) && (decide (κ.sc.names.lookup x = some .local) || (κ.ow x && decide (κ.sc.names.lookup x = some .cell)))
    | _ => false)
  | .t2 a b, e => (match e with
    | .Tuple [x, y] _ _ => chkT κ a x && chkT κ b y && noStar x && noStar y
    | _ => false)
  | .t3 a b c, e => (match e with
    | .Tuple [x, y, z] _ _ => chkT κ a x && chkT κ b y && chkT κ c z && noStar x && noStar y && noStar z
    | _ => false)
def keySB (x : Str) (scope : Scope) : Bool := decide (scope.kind = .function) && !scope.isCoroutine && !scope.isGenerator && (scope.names.all fun y => !decide (y.2 = .cell) && !decide (y.2 = .free)) && decide (scope.names.lookup x = some .local) && glB scope "len" && !(x == ("__debug__" : Str))
def tyN : Ty → Str
  | .int => "int"
  | .bool => "bool"
  | .tuple => "tuple"
  | .list => "list"
  | .str => "str"
/-- one of the types, as an expression -/
def tyB (κ : Ck) (t : Ty) (e : Expr) : Bool := match e with
  | .Name x _ => decide (x = tyN t) && glB κ.sc (tyN t)
  | _ => false
/-- the arguments that a built-in's call shows -/
def tysB (κ : Ck) (ts : List Ty) (b : Expr) : Bool := match ts with
  | [t] => tyB κ t b
  | [t, u] => (match b with
    | .Tuple [x, y] _ _ => tyB κ t x && tyB κ u y
    | _ => false)
  | _ => false
def prI (κ : Ck) (ts : List Ty) (e : Expr) : Option (List Expr) := match e with
  | .Call (.Name f _) [a, b] [] _ => if decide (f = "isinstance") && glB κ.sc "isinstance" && tysB κ ts b then some [a] else none
  | _ => none
def pr2 (κ : Ck) (m n : Str) (e : Expr) : Option (List Expr) := match e with
  | .Call (.Name f _) [.Call (.Name g _) [a] [] _] [] _ => if decide (f = m) && decide (g = n) && glB κ.sc m && glB κ.sc n then some [a] else none
  | _ => none
def prK (κ : Ck) (e : Expr) : Option (List Expr) := match e with
  | .Call (.Name f _) [a] [⟨some k, .Lambda ⟨[], [⟨x, none, _⟩], none, [], [], none, []⟩ (.Tuple [.Call (.Name l _) [.Name y _] [] _, .Name z _] _ _) scope _, _⟩] _ =>
      if decide (f = "sorted") && decide (k = "key") && decide (l = "len") && decide (y = x) && decide (z = x) && glB κ.sc "sorted" && keySB x scope && κ.lam then some [a] else none
  | _ => none
def prS (κ : Ck) (n : Str) (e : Expr) : Option (List Expr) := match e with
  | .Call (.Name f _) (x :: xs) [] _ => if decide (f = n) && glB κ.sc n then some (x :: xs) else none
  | _ => none
def prA (κ : Ck) (p : Pr) (e : Expr) : Option (List Expr) := match p with
  | .isi ts => prI κ ts e
  | .lenSet => pr2 κ "len" "set" e
  | .tupRng1 => pr2 κ "tuple" "range" e
  | .lrng1 _ => pr2 κ "list" "range" e
  | .sortLen => prK κ e
  | .len => prS κ "len" e
  | .min2 => prS κ "min" e
  | .min1 => prS κ "min" e
  | .max2 => prS κ "max" e
  | .max1 => prS κ "max" e
  | .sum1 => prS κ "sum" e
  | .sorted => prS κ "sorted" e
  | .tuple => prS κ "tuple" e
  | .int1 => prS κ "int" e
  | .str1 => prS κ "str" e
  | .list1 _ => prS κ "list" e
  | _ => none
def ownOf (κ : Ck) (own : List Nat) : List (Str × Nat) := own.map fun i => (κ.N.getD i "", i)
theorem ownOf_snd (κ : Ck) (own : List Nat) : (ownOf κ own).map (·.2) = own := by
  unfold ownOf
  rw [List.map_map]
  exact List.map_id' own
def blkB (κ : Ck) (scope : Scope) (own : List Nat) (t : Tg) : Bool := blkC κ.N κ.sc scope (ownOf κ own) && (slots t).all fun i => own.contains i
def genB (κ : Ck) (scope : Scope) : Bool := (scope.names.all fun y => !decide (y.2 = .cell)) && decide (scope.names.lookup (".0" : Str) = some NameKind.local) && !(κ.N.contains (".0" : Str)) && !scope.isCoroutine && (decide (κ.gq = 1) || decide (κ.gq = 2))
def Ck.blk (κ : Ck) (scope : Scope) : Ck := { κ with sc := relS scope κ.sc, top := some scope }
def Ck.gen (κ : Ck) (scope : Scope) : Ck := { κ with sc := scope, top := some scope, gq := κ.gq - 1, lam := false }
/-! ### the shapes -/
abbrev EB := Expr → Bool
def cVar (κ : Ck) (i : Nat) (e : Expr) : Bool := match e with
  | .Name x _ => varB κ i x
  | _ => false
def cEd (e : Expr) : Bool := match e with
  | .Dict [] [] _ => true
  | _ => false
def cCon (d : D) (e : Expr) : Bool := match e with
  | .Constant c _ _ => conB d c
  | _ => false
def cGlo (κ : Ck) (x : Str) (d : D) (e : Expr) : Bool := match e with
  | .Name y _ => decide (y = x) && glB κ.sc x && (gloB κ x d || (sameD d (oFn x) && κ.fns.contains x))
  | _ => false
def cBin (o : Op) (e : Expr) (a b : EB) : Bool := match e with
  | .BinOp x op y _ => decide (op = opOf o) && a x && b y
  | _ => false
def cNeg (e : Expr) (a : EB) : Bool := match e with
  | .UnaryOp .USub x _ => a x
  | _ => false
def cCmp (o : Cm) (e : Expr) (a b : EB) : Bool := match e with
  | .Compare x [op] [y] _ => decide (op = cmOf o) && !(behindInMarks (cmOf o) y) && a x && b y
  | _ => false
def cChain (o p : Cm) (e : Expr) (a b c : EB) : Bool := match e with
  | .Compare x [o1, o2] [y, z] _ => decide (o1 = cmOf o) && decide (o2 = cmOf p) && !(lastMarks [cmOf o, cmOf p] [y, z]) && a x && b y && c z
  | _ => false
def cAnd (e : Expr) (a b : EB) : Bool := match e with
  | .BoolOp .And (x :: y :: rest) pos => a x && (match rest with
    | [] => b y
    | z :: r => b (.BoolOp .And (y :: z :: r) pos))
  | _ => false
def cOr (e : Expr) (a b : EB) : Bool := match e with
  | .BoolOp .Or (x :: y :: rest) pos => a x && (match rest with
    | [] => b y
    | z :: r => b (.BoolOp .Or (y :: z :: r) pos))
  | _ => false
def cNot (e : Expr) (a : EB) : Bool := match e with
  | .UnaryOp .Not x _ => a x
  | _ => false
def cIte (e : Expr) (c a b : EB) : Bool := match e with
  | .IfExp x y z _ => c x && a y && b z
  | _ => false
def cTup (e : Expr) (f : List Expr → Bool) : Bool := match e with
  | .Tuple xs _ _ => f xs
  | _ => false
def cLst (e : Expr) (f : List Expr → Bool) : Bool := match e with
  | .List xs _ => f xs
  | _ => false
def cIx (e : Expr) (a b : EB) : Bool := match e with
  | .Subscript x y _ => plainB y && a x && b y
  | _ => false
def cRev (e : Expr) (a : EB) : Bool := match e with
  | .Subscript x (.Slice none none (some (.UnaryOp .USub (.Constant (.int 1) _ _) _)) _) _ => a x
  | _ => false
def cSlL (e : Expr) (a b : EB) : Bool := match e with
  | .Subscript x (.Slice (some y) none none _) _ => a x && b y
  | _ => false
def cSlH (e : Expr) (a b : EB) : Bool := match e with
  | .Subscript x (.Slice none (some y) none _) _ => a x && b y
  | _ => false
def cSlB (e : Expr) (a b c : EB) : Bool := match e with
  | .Subscript x (.Slice (some y) (some z) none _) _ => a x && b y && c z
  | _ => false
def cCall (κ : Ck) (f : Nat) (e : Expr) (g : List Expr → Bool) : Bool := match e with
  | .Call (.Name x _) (y :: ys) [] _ => decide (κ.fns[f]? = some x) && glB κ.sc x && g (y :: ys)
  | _ => false
def cPrim (κ : Ck) (p : Pr) (e : Expr) (g : List Expr → Bool) : Bool := match prA κ p e with
  | some xs => g xs
  | none => false
def meB : Me → Bool
  | .index => false
  | .count => false
  | _ => true
def cMeth (m : Me) (e : Expr) (o : EB) (g : List Expr → Bool) : Bool := match e with
  | .Call (.Attribute x nm apos) xs [] cpos => decide (nm = meNm m) && meB m && o x && g xs && noCall0 x && (apos.endLine == cpos.line) && decide (xs.length < 29)
  | _ => false
/-- a clause's test -/
def ifB (hi : Bool) (ifs : List Expr) (c : EB) : Bool := match hi, ifs with
  | false, [] => true
  | true, [z] => c z
  | _, _ => false
def cComp (κ : Ck) (own : List Nat) (t : Tg) (hi : Bool) (e : Expr) (it : Expr → EB) (c m : Scope → EB) : Bool := match e with
  | .ListComp elt [⟨tg, iter, ifs, 0⟩] scope _ => blkB κ scope own t && noSetB iter && it tg iter && chkT (κ.blk scope) t tg && ifB hi ifs (c scope) && m scope elt
  | _ => false
def cComp2 (κ : Ck) (own : List Nat) (t t1 : Tg) (hi hi1 : Bool) (e : Expr) (it : Expr → EB) (it1 : Scope → Expr → EB) (c c1 m : Scope → EB) : Bool := match e with
  | .ListComp elt [⟨tg, iter, ifs, 0⟩, ⟨tg1, iter1, ifs1, 0⟩] scope _ => blkB κ scope own t && blkB κ scope own t1 && noSetB iter && noSetB iter1 && it tg iter && chkT (κ.blk scope) t tg && ifB hi ifs (c scope) && it1 scope tg1 iter1 && chkT (κ.blk scope) t1 tg1 && ifB hi1 ifs1 (c1 scope) && m scope elt
  | _ => false
def cGen (κ : Ck) (all : Bool) (own : List Nat) (t : Tg) (hi : Bool) (e : Expr) (it : Expr → EB) (c m : Scope → EB) : Bool := match e with
  | .Call (.Name f _) [.GeneratorExp elt [⟨tg, iter, ifs, 0⟩] scope _] [] _ => decide (f = anyNm all) && glB κ.sc (anyNm all) && genB κ scope && blkB κ scope own t && noFoldB iter && it tg iter && chkT (κ.gen scope) t tg && ifB hi ifs (c scope) && m scope elt
  | _ => false
def cGen2 (κ : Ck) (all : Bool) (own : List Nat) (t t1 : Tg) (hi hi1 : Bool) (e : Expr) (it : Expr → EB) (it1 : Scope → Expr → EB) (c c1 m : Scope → EB) : Bool := match e with
  | .Call (.Name f _) [.GeneratorExp elt [⟨tg, iter, ifs, 0⟩, ⟨tg1, iter1, ifs1, 0⟩] scope _] [] _ => decide (f = anyNm all) && glB κ.sc (anyNm all) && genB κ scope && blkB κ scope own t && blkB κ scope own t1 && noFoldB iter && noSetB iter1 && it tg iter && chkT (κ.gen scope) t tg && ifB hi ifs (c scope) && it1 scope tg1 iter1 && chkT (κ.gen scope) t1 tg1 && ifB hi1 ifs1 (c1 scope) && m scope elt
  | _ => false
def cDcomp (κ : Ck) (own : List Nat) (t : Tg) (e : Expr) (it : Expr → EB) (k v : Scope → EB) : Bool := match e with
  | .DictComp kx vx [⟨tg, iter, [], 0⟩] scope _ => blkB κ scope own t && noSetB iter && it tg iter && chkT (κ.blk scope) t tg && k scope kx && v scope vx
  | _ => false
def cDpairs (κ : Ck) (e : Expr) (a : EB) : Bool := match e with
  | .Call (.Name f _) [x] [] _ => decide (f = "dict") && glB κ.sc "dict" && noStar x && a x
  | _ => false
def cKtuple (κ : Ck) (e : Expr) (a : EB) : Bool := match e with
  | .Call (.Name f _) [x] [] _ => decide (f = "tuple") && glB κ.sc "tuple" && noStar x && a x
  | _ => false
def cDgetD (e : Expr) (a b c : EB) : Bool := match e with
  | .Call (.Attribute x nm apos) [y, z] [] cpos => decide (nm = "get") && a x && b y && c z && noCall0 x && noStar y && noStar z && (apos.endLine == cpos.line)
  | _ => false
def cDin (neg : Bool) (e : Expr) (a b : EB) : Bool := match e with
  | .Compare x [op] [y] _ => decide (op = inOp neg) && !(behindInMarks (inOp neg) y) && a x && b y
  | _ => false
def cCallv (κ : Ck) (gs : List Str) (i : Nat) (e : Expr) (g : List Expr → Bool) : Bool := match e with
  | .Call (.Name x _) (y :: ys) [] _ => decide (gs = κ.fns) && varB κ i x && g (y :: ys)
  | _ => false
def cArgs (es : List Expr) (a : EB) (r : List Expr → Bool) : Bool := match es with
  | e :: q => noStar e && a e && r q
  | [] => false
def cR1 (κ : Ck) (e : Expr) (a : EB) : Bool := match e with
  | .Call (.Name f _) [x] [] _ => decide (f = "range") && glB κ.sc "range" && noStar x && a x
  | _ => false
def cR2 (κ : Ck) (e : Expr) (a b : EB) : Bool := match e with
  | .Call (.Name f _) [x, y] [] _ => decide (f = "range") && glB κ.sc "range" && noStar x && noStar y && a x && b y
  | _ => false
def cEn (κ : Ck) (tg e : Expr) (a : EB) : Bool := match e with
  | .Call (.Name f _) [x] [] _ => tupB tg && decide (f = "enumerate") && glB κ.sc "enumerate" && noStar x && a x
  | _ => false
def cZp (κ : Ck) (tg e : Expr) (a b : EB) : Bool := match e with
  | .Call (.Name f _) [x, y] [] _ => tupB tg && decide (f = "zip") && glB κ.sc "zip" && noStar x && noStar y && a x && b y
  | _ => false
/-! ### binding -/
theorem look_zip {β : Type} : ∀ {ps : List Str} {us : List β}, us.length = ps.length → ∀ x ∈ ps, ∃ u, (ps.zip us).lookup x = some u
  | [], _, _, x, h => by cases h
  | p :: ps, [], hl, _, _ => by simp at hl
  | p :: ps, u :: us, hl, x, h => by
    rw [List.zip_cons_cons, List.lookup_cons]
    by_cases e : (x == p) = true
    · rw [e]
      exact ⟨u, rfl⟩
    · have e' : (x == p) = false := by simpa using e
      rw [e']
      have hx : x ∈ ps := by
        rcases List.mem_cons.mp h with h | h
        · subst h
          simp at e
        · exact h
      exact look_zip (by simpa using hl) x hx
theorem filt_zip {β : Type} : ∀ {ps : List Str} {us : List β} (pre : List (Str × β)), ps.Nodup → us.length = ps.length → (∀ x ∈ ps, pre.lookup x = none) → ps.filterMap (fun n => ((pre ++ ps.zip us).lookup n).map (n, ·)) = ps.zip us
  | [], _, _, _, _, _ => rfl
  | p :: ps, [], _, _, hl, _ => by simp at hl
  | p :: ps, u :: us, pre, nd, hl, hp => by
    have nd' := List.nodup_cons.mp nd
    have e1 : (pre ++ (p :: ps).zip (u :: us)).lookup p = some u := by
      rw [List.zip_cons_cons, List.lookup_append, hp p List.mem_cons_self]
      simp
    rw [List.filterMap_cons, e1]
    show (p, u) :: _ = _
    rw [List.zip_cons_cons]
    congr 1
    have ih := filt_zip (us := us) (pre ++ [(p, u)]) nd'.2 (by simpa using hl) fun x hx => by
      rw [List.lookup_append, hp x (List.mem_cons_of_mem _ hx)]
      have : (x == p) = false := by
        have : x ≠ p := fun z => nd'.1 (z ▸ hx)
        simpa using this
      simp [List.lookup, this]
    rw [List.append_assoc] at ih
    exact ih
theorem bindN {x qual : Str} {args : List Arg} {body : List Stmt} {scope : Scope} {kV doc pm cdv ct : Value} {an : Option Addr} {us : List Value} (nd : (args.map (·.arg)).Nodup) (hl : us.length = (args.map (·.arg)).length) :
    bindArgs (PySem.W.fnOf x qual ⟨[], args, none, [], [], none, []⟩ body scope .none kV doc pm an cdv ct) ⟨us, []⟩ = pure ((args.map (·.arg)).zip us) := by
  have e : seqItems? Value.none = pure none := rfl
  have h1 : ¬ (us.length > (args.map (·.arg)).length) := by omega
  have h2 : (args.map (·.arg)).filter (fun n => (((args.map (·.arg)).zip us).lookup n).isNone) = [] := by
    rw [List.filter_eq_nil_iff]
    intro n hn
    obtain ⟨u, hu⟩ := look_zip hl n hn
    rw [hu]
    simp
  have h3 := filt_zip (us := us) [] nd hl fun _ _ => rfl
  rw [List.nil_append] at h3
  unfold bindArgs
  rw [e]
  simp
  rw [if_neg (by simpa using h1), if_neg]
  · congr 1
    rw [← List.filterMap_map]
    exact h3
  · intro hc
    rw [List.take_of_length_le (by simp), List.map_nil, List.nil_append, h2] at hc
    simp at hc
def scB (N ps : List Str) (sc : Scope) : Bool := decide (sc.kind = .function) && !sc.isCoroutine && !sc.isGenerator && decide N.Nodup && decide (N.take ps.length = ps) && (ps.all fun x => decide (sc.names.lookup x = some .local) || decide (sc.names.lookup x = some .cell)) && sc.names.all fun y => !decide (y.2 = .free)
theorem scB_ok {N ps : List Str} {sc : Scope} (h : scB N ps sc = true) : FnScope N ps sc := by
  unfold scB at h
  simp only [Bool.and_eq_true, Bool.or_eq_true, Bool.not_eq_true', decide_eq_true_eq, List.all_eq_true, decide_eq_false_iff_not] at h
  obtain ⟨⟨⟨⟨⟨⟨h1, h2⟩, h3⟩, h4⟩, h5⟩, h6⟩, h7⟩ := h
  exact ⟨h1, h2, h3, h4, h5, h6, h7⟩
/-- parameters without defaults -/
def argB (a : Arguments) (ps : List Str) : Bool := match a with
  | ⟨[], args, none, [], [], none, []⟩ => decide (args.map (·.arg) = ps)
  | _ => false
theorem argB_ok {a : Arguments} {ps : List Str} (h : argB a ps = true) : ∃ args, a = ⟨[], args, none, [], [], none, []⟩ ∧ args.map (·.arg) = ps := by
  unfold argB at h
  split at h
  · exact ⟨_, rfl, of_decide_eq_true h⟩
  · cases h
/-- a call's truth is the plain one -/
def callB : Expr → Bool
  | .Call .. => true
  | _ => false
/-! ### the check of a suite that tells exceptions apart -/
def fldB (f : Str) : Bool := (["part", "index", "most", "line", "place"] : List Str).contains f
def cHVar (κ : Ck) (j : Nat) (e : Expr) : Bool := match e with
  | .Name x _ => varB κ j x
  | _ => false
def cHMeth (nm : Str) (e : Expr) (a b : EB) : Bool := match e with
  | .Call (.Attribute x m apos) [y] [] cpos => decide (m = nm) && a x && b y && noCall0 x && noStar y && (apos.endLine == cpos.line)
  | _ => false
def cHIsx (κ : Ck) (i : Nat) (x : Str) (e : Expr) : Bool := match e with
  | .Call (.Name f _) [.Name n _, .Name y _] [] _ => decide (f = "isinstance") && decide (y = x) && varB κ i n && glB κ.sc x && glB κ.sc "isinstance"
  | _ => false
def cHXfl (κ : Ck) (i : Nat) (f : Str) (e : Expr) : Bool := match e with
  | .Attribute (.Name n _) g _ => decide (g = f) && fldB f && varB κ i n
  | _ => false
def cHOr (e : Expr) (a b : EB) : Bool := match e with
  | .BoolOp .Or [x, y] _ => a x && b y
  | _ => false
mutual
def chkHE (κ : Ck) (i : Nat) : HE → EB
  | .con d => cCon d
  | .var j => cHVar κ j
  | .add a b => fun e => cBin .add e (chkHE κ i a) (chkHE κ i b)
  | .ite c a b => fun e => cIte e (chkHC κ i c) (chkHE κ i a) (chkHE κ i b)
  | .tup es => fun e => cTup e (chkHEs κ i es)
  | .lst es => fun e => cLst e (chkHEs κ i es)
  | .ix a b => fun e => cIx e (chkHE κ i a) (chkHE κ i b)
  | .bidx a b => fun e => cHMeth "index" e (chkHE κ i a) (chkHE κ i b)
  | .bcnt a b => fun e => cHMeth "count" e (chkHE κ i a) (chkHE κ i b)
  | .isx x => cHIsx κ i x
  | .xfl f => cHXfl κ i f
def chkHC (κ : Ck) (i : Nat) : HC → EB
  | .ex e => fun x => callB x && chkHE κ i e x
  | .eq a b => fun e => cCmp .eq e (chkHE κ i a) (chkHE κ i b)
  | .or a b => fun e => cHOr e (chkHC κ i a) (chkHC κ i b)
def chkHEs (κ : Ck) (i : Nat) : HEs → List Expr → Bool
  | .nil => fun es => es.isEmpty
  | .cons m ms => fun es => cArgs es (chkHE κ i m) (chkHEs κ i ms)
end
def cHRet (sts : List Stmt) (a : EB) : Bool := match sts with
  | [.Return (some x) _] => a x
  | _ => false
def cHIf (sts : List Stmt) (c a : EB) (r : List Stmt → Bool) : Bool := match sts with
  | .If z ys [] _ :: q => c z && cHRet ys a && r q
  | _ => false
def cHSet (κ : Ck) (i j : Nat) (sts : List Stmt) (a : EB) (r : List Stmt → Bool) : Bool := match sts with
  | .Assign [.Name y _] x _ :: q => decide (κ.N[j]? = some y) && decide (κ.sc.names.lookup y = some .local) && noComp x && a x && r q
  | _ => false
def chkHS (κ : Ck) (i : Nat) : List HS → List Stmt → Bool
  | [] => fun _ => false
  | .ret e :: _ => fun sts => cHRet sts (chkHE κ i e)
  | .ifr c e :: r => fun sts => cHIf sts (chkHC κ i c) (chkHE κ i e) (chkHS κ i r)
  | .set j e :: r => fun sts => cHSet κ i j sts (chkHE κ i e) (chkHS κ i r)
/-- the clause -/
def hdlB (κ : Ck) (wk : Wfn) (a x nm : Str) (suite : List Stmt) : Bool := decide (wk.N[0]? = some a) && visB κ.sc a && nmB a && decide (x = wk.cl) && κ.xs.xs.contains wk.cl && glB κ.sc wk.cl && decide (wk.N[wk.i]? = some nm) && decide (κ.sc.names.lookup nm = some .local) && chkHS κ wk.i wk.hs suite
def Wfn.ck (wk : Wfn) (st : Stmt) (xs : List Str) : Ck := { N := wk.N, sc := defScope st, top := none, gq := 0, lam := false, fns := [], con := [], xs := ⟨xs, [], [], []⟩ }
def bodyW (κ : Ck) (wk : Wfn) (sts : List Stmt) : Bool := match wk.kd, sts with
  | .drop d, [.Try [.Expr (.Call (.Name a _) [] [] _) _] [.ExceptHandler (some (.Name x _)) (some nm) (b :: suite) _] [] [] _, .Return (some (.Constant c _ _)) _] => conB d c && hdlB κ wk a x nm (b :: suite)
  | .ret, [.Try [.Return (some (.Call (.Name a _) [] [] _)) _] [.ExceptHandler (some (.Name x _)) (some nm) (b :: suite) _] [] [] _] => hdlB κ wk a x nm (b :: suite)
  | .pair d, [.Try [.Return (some (.Tuple [.Call (.Name a _) [] [] _, .Constant c _ _] _ _)) _] [.ExceptHandler (some (.Name x _)) (some nm) (b :: suite) _] [] [] _] => conB d c && hdlB κ wk a x nm (b :: suite)
  | _, _ => false
def chkW (xs : List Str) (wk : Wfn) (st : Stmt) : Bool := decide (1 ≤ wk.N.length) && scB wk.N (wk.N.take 1) (defScope st) && argB (defArgs st) (wk.N.take 1) && !(wk.x == ("__debug__" : Str)) && bodyW (wk.ck st xs) wk (defBody st)
/-- a lambda handed to a def -/
def Ck.lamb (κ : Ck) (scope : Scope) : Ck := { κ with sc := scope, top := some scope, gq := 0, lam := false }
def cLam (κ : Ck) (wk : Wfn) (xs : List Str) (e : Expr) (m : Scope → EB) : Bool := match e with
  | .Call (.Name x _) [.Lambda ⟨[], [], none, [], [], none, []⟩ body scope _] [] _ => decide (x = wk.x) && κ.lam && glB κ.sc wk.x && LamX.lamSB κ.sc scope && decide (xs = κ.xs.xs) && (κ.xs.ws.any fun p => decide (p.1 = wk.x) && chkW κ.xs.xs wk p.2) && m scope body
  | _ => false
/-! ### the check -/
mutual
def chkE : E → Ck → Expr → Bool
  | .var i, κ, e => cVar κ i e
  | .con d, _, e => cCon d e
  | .edict, _, e => cEd e
  | .glo x d, κ, e => cGlo κ x d e
  | .bin o a b, κ, e => cBin o e (chkE a κ) (chkE b κ)
  | .neg a, κ, e => cNeg e (chkE a κ)
  | .cmp o a b, κ, e => cCmp o e (chkE a κ) (chkE b κ)
  | .chain o p a b c, κ, e => cChain o p e (chkE a κ) (chkE b κ) (chkE c κ)
  | .and a b, κ, e => cAnd e (chkE a κ) (chkE b κ)
  | .or a b, κ, e => cOr e (chkE a κ) (chkE b κ)
  | .not a, κ, e => cNot e (chkE a κ)
  | .ite c a b, κ, e => cIte e (chkE c κ) (chkE a κ) (chkE b κ)
  | .tup es, κ, e => cTup e (chkEs es κ)
  | .lst _ es, κ, e => cLst e (chkEs es κ)
  | .ix a b, κ, e => cIx e (chkE a κ) (chkE b κ)
  | .slL a lo, κ, e => cSlL e (chkE a κ) (chkE lo κ)
  | .slH a hi, κ, e => cSlH e (chkE a κ) (chkE hi κ)
  | .slB a lo hi, κ, e => cSlB e (chkE a κ) (chkE lo κ) (chkE hi κ)
  | .rev a, κ, e => cRev e (chkE a κ)
  | .call f es, κ, e => cCall κ f e (chkEs es κ)
  | .prim p es, κ, e => cPrim κ p e (chkEs es κ)
  | .meth m o es, κ, e => cMeth m e (chkE o κ) (chkEs es κ)
  | .comp _ own t it hi c m, κ, e => cComp κ own t hi e (chkIt it κ) (fun sc => chkE c (κ.blk sc)) (fun sc => chkE m (κ.blk sc))
  | .comp2 _ own t it hi c t1 it1 hi1 c1 m, κ, e => cComp2 κ own t t1 hi hi1 e (chkIt it κ) (fun sc => chkIt it1 (κ.blk sc)) (fun sc => chkE c (κ.blk sc)) (fun sc => chkE c1 (κ.blk sc)) (fun sc => chkE m (κ.blk sc))
  | .gen all own t it hi c m, κ, e => cGen κ all own t hi e (chkIt it κ) (fun sc => chkE c (κ.gen sc)) (fun sc => chkE m (κ.gen sc))
  | .gen2 all own t it hi c t1 it1 hi1 c1 m, κ, e => cGen2 κ all own t t1 hi hi1 e (chkIt it κ) (fun sc => chkIt it1 (κ.gen sc)) (fun sc => chkE c (κ.gen sc)) (fun sc => chkE c1 (κ.gen sc)) (fun sc => chkE m (κ.gen sc))
  | .frz i, κ, e => cVar κ i e
  | .lamc wk xs m, κ, e => cLam κ wk xs e (fun sc => chkE m (κ.lamb sc))
  | .dcomp own t it k m, κ, e => cDcomp κ own t e (chkIt it κ) (fun sc => chkE k (κ.blk sc)) (fun sc => chkE m (κ.blk sc))
  | .dpairs a, κ, e => cDpairs κ e (chkE a κ)
  | .dix a b, κ, e => cIx e (chkE a κ) (chkE b κ)
  | .dgetD a b c, κ, e => cDgetD e (chkE a κ) (chkE b κ) (chkE c κ)
  | .din neg a b, κ, e => cDin neg e (chkE a κ) (chkE b κ)
  | .ktup es, κ, e => cTup e (chkEs es κ)
  | .ktuple a, κ, e => cKtuple κ e (chkE a κ)
  | .callv gs i es, κ, e => cCallv κ gs i e (chkEs es κ)
def chkEs : Es → Ck → List Expr → Bool
  | .nil, _, es => es.isEmpty
  | .cons m ms, κ, es => cArgs es (chkE m κ) (chkEs ms κ)
def chkIt : It → Ck → Expr → Expr → Bool
  | .e a, κ, _, e => chkE a κ e
  | .r1 a, κ, _, e => cR1 κ e (chkE a κ)
  | .r2 a b, κ, _, e => cR2 κ e (chkE a κ) (chkE b κ)
  | .en a, κ, tg, e => cEn κ tg e (chkE a κ)
  | .zp a b, κ, tg, e => cZp κ tg e (chkE a κ) (chkE b κ)
end
end Mp
set_option maxHeartbeats 2000000
/-! Mp.Rev: a[::-1], lists, tuples. -/
namespace Mp
open PySem PySem.Spec PyProof.Rows L2 HT
section
variable {prog : Program} {w : World} {A : Around} {E : Value → Shared → Prop} {s : Shared}
theorem adjust_back (n : Nat) : Builtin.Slice.sliceAdjust none none (-1) (n : Int) = ((n : Int) - 1, -1) := by
  unfold Builtin.Slice.sliceAdjust
  simp
theorem places_back (n : Nat) : Builtin.Slice.slicePlaces ((n : Int) - 1) (-1) (-1) = n := by
  unfold Builtin.Slice.slicePlaces
  have h1 : ¬ ((-1 : Int) > 0) := by omega
  simp only [h1, if_false]
  split <;> simp <;> omega
theorem applied_back {sl : Addr} {vl vu vs : Value} {n : Nat} {Q : Int × Int × Nat → Shared → Prop} (hs : s.heap.IsSliceOf sl vl vu vs) (pl : IsPart vl none) (pu : IsPart vu none) (ps : IsPart vs (some (-1)))
    (h : Q ((n : Int) - 1, -1, n) s) : wpAny (model prog w) A (Builtin.Slice.sliceApplied (.ref sl) (pure (n : Int))) Q E s := by
  obtain ⟨os, hos, hcs, hds⟩ := id hs
  unfold Builtin.Slice.sliceApplied Builtin.Slice.sliceFields
  refine wpAny_bind (wpAny_bind (wpAny_field hos hds (x := vl) rfl (wpAny_bind (wpAny_field hos hds (x := vu) rfl (wpAny_bind (wpAny_field hos hds (x := vs) rfl (wpAny_pure ?_)))))))
  refine wpAny_bind (slicePart_ ps ?_)
  show wpAny _ _ (if ((-1 : Int) == 0) = true then _ else _) _ _ s
  rw [if_neg (by decide)]
  refine wpAny_bind (slicePart_ pl (wpAny_bind (slicePart_ pu (wpAny_bind (wpAny_pure ?_)))))
  show wpAny _ _ (match Builtin.Slice.sliceAdjust none none (-1) (n : Int) with | (a, b) => pure (a, (-1 : Int), Builtin.Slice.slicePlaces a b (-1))) _ _ s
  rw [adjust_back]
  show wpAny _ _ (pure ((n : Int) - 1, (-1 : Int), Builtin.Slice.slicePlaces ((n : Int) - 1) (-1) (-1))) _ _ s
  rw [places_back]
  exact wpAny_pure h
theorem pick_back (xs : Array Value) : ((List.range xs.size).filterMap fun (m : Nat) => xs[(((xs.size : Nat) : Int) - 1 + (m : Int) * (-1)).toNat]?).toArray = xs.toList.reverse.toArray := by
  congr 1
  obtain ⟨l⟩ := xs
  have key : ∀ l : List Value, (List.range l.length).filterMap (fun (m : Nat) => l[((l.length : Int) - 1 + (m : Int) * (-1)).toNat]?) = l.reverse := by
    intro l
    have e : ∀ m ∈ List.range l.length, l[((l.length : Int) - 1 + (m : Int) * (-1)).toNat]? = some (l.reverse.getD m .none) := fun m hm => by
      have hm := List.mem_range.mp hm
      have e1 : ((l.length : Int) - 1 + (m : Int) * (-1)).toNat = l.length - 1 - m := by omega
      rw [e1, List.getD_eq_getElem?_getD, List.getElem?_reverse hm]
      have : l.length - 1 - m < l.length := by omega
      rw [List.getElem?_eq_getElem this]
      rfl
    have e2 : ∀ ms : List Nat, (∀ m ∈ ms, l[((l.length : Int) - 1 + (m : Int) * (-1)).toNat]? = some (l.reverse.getD m .none)) → ms.filterMap (fun (m : Nat) => l[((l.length : Int) - 1 + (m : Int) * (-1)).toNat]?) = ms.map fun m => l.reverse.getD m .none := by
      intro ms
      induction ms with
      | nil => intro _; rfl
      | cons m r ih =>
        intro h
        rw [List.filterMap_cons, h m List.mem_cons_self, List.map_cons, ih fun z hz => h z (List.mem_cons_of_mem _ hz)]
    rw [e2 _ e]
    refine List.ext_getElem (by simp) fun i h1 h2 => ?_
    simp at h1 h2
    simp [List.getD_eq_getElem?_getD, h1]
  simpa using key l
theorem tup_back {t sl : Addr} {items : Array Value} {vl vu vs : Value} {Q : Value → Shared → Prop} (ht : IsTup s.heap t items) (hs : s.heap.IsSliceOf sl vl vu vs) (pl : IsPart vl none) (pu : IsPart vu none) (ps : IsPart vs (some (-1)))
    (h : Q (.ref s.heap.objs.size) { s with heap := s.heap.push { cls := .type "tuple", data := .seq items.toList.reverse.toArray } })
    (hsz : items.size ≤ sizeLine) : wpAny (model prog w) A (getItem (.ref t) (.ref sl)) Q E s := by
  have fit : sizeOk (.seq items.toList.reverse.toArray) := by
    show items.toList.reverse.toArray.size ≤ sizeLine
    rw [List.size_toArray, List.length_reverse, Array.length_toList]
    exact hsz
  obtain ⟨os, hos, hcs, hds⟩ := id hs
  have T : s.TypeIs (.ref sl) "slice" := ⟨os, hos, hcs⟩
  unfold getItem
  try with_reducible refine wpAny_holding ?_
  first | refine wpAny_bind (wpAny_pure ?_) | skip
  refine wpAny_bind (wpAny_sequenceKey ht.typeIs (by decide) (wpAny_bind (wpAny_callSpecial?_slot (name := Str.ofString "__getitem__") ht.typeIs PyProof.Rows.slot_tuple_getitem
    (wpAny_call_entry PyProof.Rows.slot_tuple_getitem ht.typeIs entry_tuple_getitem ?_ (args_tuple_getitem _ _)))))
  show wpAny _ _ (Builtin.Tuple.tupleItemsOf (.ref t) >>= _) _ _ s
  refine wpAny_bind (tupleItemsOf_ ht (wpAny_bind (wpAny_typeOf T ?_)))
  rw [if_pos (by decide)]
  refine wpAny_bind (applied_back hs pl pu ps ?_)
  have no : ¬ (((((items.size : Nat) : Int) - 1) == 0 && (-1 : Int) == 1 && items.size == items.size) = true) := by simp
  show wpAny _ _ (if ((((items.size : Nat) : Int) - 1) == 0 && (-1 : Int) == 1 && items.size == items.size) = true then _ else _) _ _ s
  rw [if_neg no, pick_back]
  first
    | exact wpAny_bind (m := Builtin.Tuple.tupleExact _) (wpAny_newObj_type (wpAny_pure ⟨_, rfl, wpAny_pure h⟩) fit)
    | exact wpAny_bind (m := Builtin.Tuple.tupleExact _) (wpAny_newObj_type (wpAny_bind (wpAny_pure (wpAny_pure ⟨_, rfl, wpAny_pure h⟩))) fit)
    | exact wpAny_bind (wpAny_bind (m := Builtin.Tuple.tupleExact _) (wpAny_newObj_type (wpAny_pure (wpAny_pure ⟨_, rfl, wpAny_pure h⟩)) fit))
    | exact wpAny_bind (wpAny_bind (m := Builtin.Tuple.tupleExact _) (wpAny_newObj_type (wpAny_pure ⟨_, rfl, wpAny_pure h⟩) fit))
end
section
variable {X : Cx}
/-- a[::-1]: a list or a tuple -/
def tRevA (K : PySem.W.Frag) (te : TE) : TE := fun σ H Q => te σ H fun x H1 => (∃ a xs, x = .ref a ∧ SqL K H1 a xs ∧ ∀ p, H1 p = none → Q (.ref p) (upd H1 p (.lst xs.reverse))) ∨ ∃ a xs, x = .ref a ∧ SqT K H1 a xs ∧ ∀ p, H1 p = none → Q (.ref p) (upd H1 p (.tup xs.reverse))
theorem pe_revA {e : Expr} {te : TE} {k : Nat} {p1 p2 p3 pos : Pos} (he : PE X e te) : PE X (.Subscript e (.Slice none none (some (.UnaryOp .USub (.Constant (.int 1) k p1) p2)) p3) pos) (tRevA X.K te) := by
  refine ⟨fun pins s σ H Q I h => ?_⟩
  refine Subscript_ (thn (he.run pins s σ H _ I h) fun v s1 ⟨x, H1, I1, r1, q1⟩ => ?_)
  have hst : PO X (some (.UnaryOp .USub (.Constant (.int 1) k p1) p2)) (tPart (tUn (rU fun i => .int (-i)) (tC (.int 1)))) := po_some (pe_un un_neg pe_int)
  refine wpAny_Slice (thn (po_none.run pins s1 σ H1 (fun o H2 => o = none ∧ H2 = H1) I1 ⟨rfl, rfl⟩) fun vl s2 ⟨l, H2, I2, pl, el, e2⟩ => ?_)
  subst el e2
  refine thn (po_none.run pins s2 σ H2 (fun o H3 => o = none ∧ H3 = H2) I2 ⟨rfl, rfl⟩) fun vu s3 ⟨u, H3, I3, pu, eu, e3⟩ => ?_
  subst eu e3
  refine thn (hst.run pins s3 σ H3 (fun o H4 => o = some (-1) ∧ H4 = H3) I3 ⟨1, rfl, -1, rfl, rfl, rfl⟩) fun vs s4 ⟨o, H4, I4, ps, eo, e4⟩ => ?_
  subst eo e4
  have I5 : Inv X pins σ H4 { s4 with heap := s4.heap.push { cls := .type "slice", data := .fields #[vl, vu, vs] } } := I4.kept (t' := s4.toks) fun b ob q => Heap.get?_push_of_some _ q
  rcases q1 with ⟨a, xs, ex, hx, q⟩ | ⟨a, xs, ex, hx, q⟩
  · subst ex
    cases r1
    obtain ⟨its, r, ht, hz⟩ := I5.list hx
    have hlen := r.length
    show wpAny (model X.prog X.w) X.A (subscriptTail e (.Slice none none (some (.UnaryOp .USub (.Constant (.int 1) k p1) p2)) p3) (.ref a) (.ref s4.heap.objs.size)) _ _ { s4 with heap := s4.heap.push { cls := .type "slice", data := .fields #[vl, vu, vs] } }
    refine tail_any (ops := [.ref a, .ref s4.heap.objs.size]) ht.isList.typeIs (PySem.slot_list_getitem.lookup) ?_ (by with_unfolding_all rfl)
    refine wpAny_getItem_list_slice ht.isList (Heap.IsSliceOf.new _ vl vu vs) pl pu ps (by decide) ?_ (by rw [List.size_toArray]; omega)
    rw [PySem.W.krv_pick]
    exact ⟨.ref _, _, I5.laid (t' := s4.toks) (o := .lst xs.reverse) (fun b ob q => Heap.get?_push_of_some _ q) (Nat.le_refl _) ⟨by rw [List.length_reverse]; exact hz, _, 0, r.reverse, Heap.get?_push_size _ rfl⟩, rfl, q _ (I5.hok.fresh (Nat.le_refl _))⟩
  · subst ex
    cases r1
    obtain ⟨its, r, ht, hz⟩ := I5.tuple hx
    have hlen := r.length
    show wpAny (model X.prog X.w) X.A (subscriptTail e (.Slice none none (some (.UnaryOp .USub (.Constant (.int 1) k p1) p2)) p3) (.ref a) (.ref s4.heap.objs.size)) _ _ { s4 with heap := s4.heap.push { cls := .type "slice", data := .fields #[vl, vu, vs] } }
    refine tail_any (ops := [.ref a, .ref s4.heap.objs.size]) ht.typeIs (PyProof.Rows.slot_tuple_getitem.lookup) ?_ (by with_unfolding_all rfl)
    refine tup_back ht (Heap.IsSliceOf.new _ vl vu vs) pl pu ps ?_ (by rw [List.size_toArray]; omega)
    exact ⟨.ref _, _, I5.laid (t' := s4.toks) (o := .tup xs.reverse) (fun b ob q => Heap.get?_push_of_some _ q) (Nat.le_refl _) ⟨by rw [List.length_reverse]; exact hz, _, r.reverse, IsTup.new _ _⟩, rfl, q _ (I5.hok.fresh (Nat.le_refl _))⟩
variable {G : Wd} {W : L2.St → XK} {a : Expr} {fa : FE}
def revD (d : D) : Option D := match d with
  | .tuple ds => some (.tuple ds.reverse)
  | .list ds => some (.list ds.reverse)
  | _ => none
theorem s_rev (hK : X.K = G.K) {k : Nat} {p1 p2 p3 pos : Pos} (ha : PE X a (tD G fa W)) : PE X (.Subscript a (.Slice none none (some (.UnaryOp .USub (.Constant (.int 1) k p1) p2)) p3) pos) (tD G (fun env S => (fa env S).bind fun x S1 => opt (revD (rd S1 x)) S1) W) :=
  PE.imp (pe_revA ha) fun σ H Q ⟨Z, A, env, S, hR, hE, hP⟩ => step hR hE hP fun v d S1 Z1 A1 H1 f1 R1 E1 r1 P1 => by
    obtain ⟨r, hr, kk⟩ := P1.opt
    generalize hd : rd S1 d = d' at hr
    unfold revD at hr
    split at hr
    · cases hr
      obtain ⟨l, vs, rfl, h1, h2⟩ := rd_tup R1 r1 hd
      exact .inr ⟨l, vs, rfl, by rw [hK]; exact h1, (kk.fut f1).tup R1 h2.rev⟩
    · cases hr
      obtain ⟨l, vs, rfl, h1, h2⟩ := rd_list R1 r1 hd
      exact .inl ⟨l, vs, rfl, .of h1, (kk.fut f1).lst R1 h2.rev⟩
    · cases hr
end
end Mp
set_option maxHeartbeats 4000000
/-! Mp.Chk3: the check of expressions is sound. -/
namespace Mp
open PySem PySem.Spec PyProof.Rows L2
theorem visB_ok {sc : Scope} {x : Str} (h : visB sc x = true) : Vis sc x := by
  unfold visB at h
  simp only [Bool.or_eq_true, decide_eq_true_eq] at h
  rcases h with (h | h) | h
  · exact .inl h
  · exact .inr (.inl h)
  · exact .inr (.inr h)
theorem nmB_ok {x : Str} (h : nmB x = true) : (x == ("__debug__" : Str)) = false ∧ (x == ("__classdict__" : Str)) = false := by
  unfold nmB at h
  simpa [Bool.and_eq_true, Bool.not_eq_true'] using h
theorem glB_ok {sc : Scope} {x : Str} (h : glB sc x = true) : sc.names.lookup x = some .globalImplicit := of_decide_eq_true h
theorem tyN_mem (t : Ty) : tyN t ∈ blts := by cases t <;> decide
theorem tyN_boot (t : Ty) : bootBuiltins (tyN t) = some (.type (tyTo t)) := by
  cases t
  · exact PySem.Pv.boot_int
  · exact PySem.Pv.boot_bool
  · exact PySem.Pv.boot_tuple
  · exact PySem.Pv.boot_list
  · exact PySem.Pv.boot_str
section
variable {κ : Ck} {cal : CallF} {G0 G : Wd} {P : Program} {w : World} {base : Heap} {KL n : Nat} {W : L2.St → XK} {X : Cx} {e : Expr} {f f' : FE}
theorem px (c : Cok G P w base κ.N n W X) (h : PE X e (tD G f W)) (ef : f' = f) (hp : ∀ whole, isTrue e X.env whole = (do let v ← whole; standAt e.pos; holding [v] (truthy v))) : PE X e (tD G f' W) ∧ PT X e (tT G (testF f') W) := by
  subst ef
  exact ⟨h, t_plain c h hp⟩
theorem chkT_ok (s : Sok κ cal G0 G P w base KL n W X) : ∀ (t : Tg) (e : Expr), chkT κ t e = true → PG X e (gT G t)
  | .nm i, e, h => by
    simp only [chkT] at h
    split at h
    · rename_i x p
      simp only [Bool.and_eq_true, Bool.or_eq_true, decide_eq_true_eq] at h
      obtain ⟨h1, h2⟩ := h
      refine g_nm (by rw [s.cok.nm]; exact s.cok.nd) (by rw [s.cok.nm]; exact h1) ?_ ?_
      · rw [s.sc]
        rcases h2 with h2 | ⟨_, h2⟩
        · exact .inl h2
        · exact .inr h2
      · rw [s.sc]
        rcases h2 with h2 | ⟨h3, h2⟩
        · exact .inr h2
        · exact .inl ((s.top x).trans h3)
    · cases h
  | .t2 a b, e, h => by
    simp only [chkT] at h
    split at h
    · simp only [Bool.and_eq_true] at h
      obtain ⟨⟨⟨h1, h2⟩, h3⟩, h4⟩ := h
      exact g_t2 s.cok.K s.cok.calm (chkT_ok s a _ h1) (chkT_ok s b _ h2) h3 h4
    · cases h
  | .t3 a b c, e, h => by
    simp only [chkT] at h
    split at h
    · simp only [Bool.and_eq_true] at h
      obtain ⟨⟨⟨⟨⟨h1, h2⟩, h5⟩, h3⟩, h4⟩, h6⟩ := h
      exact g_t3 s.cok.K s.cok.calm (chkT_ok s a _ h1) (chkT_ok s b _ h2) (chkT_ok s c _ h5) h3 h4 h6
    · cases h
theorem ty_ok (s : Sok κ cal G0 G P w base KL n W X) {t : Ty} {b : Expr} (h : tyB κ t b = true) : PE X b (tC (.ty (tyTo t))) ∧ noStar b = true := by
  unfold tyB at h
  split at h
  · simp only [Bool.and_eq_true, decide_eq_true_eq] at h
    obtain ⟨h1, h2⟩ := h
    subst h1
    have hb := s.bn (glB_ok h2) (tyN_mem t) (tyN_boot t) (by cases t <;> decide) (by cases t <;> decide)
    exact ⟨pe_bltn hb.gl hb.mg hb.boot rfl hb.nm hb.db, rfl⟩
  · cases h
theorem con_ok {d : D} {c : Const} {k : Nat} {pos : Pos} (h : conB d c = true) : PE X (.Constant c k pos) (tD G (fun _ S => .ok d S) W) := by
  unfold conB at h
  split at h
  · exact s_con pe_non fun _ _ => .non
  · have h := of_decide_eq_true h
    rw [h]
    exact s_con pe_bl fun _ _ => .bl _
  · have h := of_decide_eq_true h
    rw [h]
    exact s_con pe_int fun _ _ => .int _
  · have h := of_decide_eq_true h
    rw [h]
    exact s_con pe_str fun _ _ => .str _
  · cases h
theorem one_es {m : E} : evalEs cal (.cons m .nil) = oneF (evalE cal m) := by
  funext env S
  simp only [evalEs, oneF]
theorem con_val {G : Wd} {d : D} {c : Const} (h : conB d c = true) : ∃ v : V, (∀ (k : Nat) (pos : Pos) (Y : Cx), PE Y (.Constant c k pos) (tC v)) ∧ ∀ Z A, Rp G Z A v d := by
  unfold conB at h
  split at h
  · exact ⟨_, fun _ _ _ => pe_non, fun _ _ => .non⟩
  · have h := of_decide_eq_true h
    subst h
    exact ⟨_, fun _ _ _ => pe_bl, fun _ _ => .bl _⟩
  · have h := of_decide_eq_true h
    subst h
    exact ⟨_, fun _ _ _ => pe_int, fun _ _ => .int _⟩
  · have h := of_decide_eq_true h
    subst h
    exact ⟨_, fun _ _ _ => pe_str, fun _ _ => .str _⟩
  · cases h
/-- each argument -/
def Each (X : Cx) (G : Wd) (cal : CallF) (W : L2.St → XK) : Es → List Expr → Prop
  | .nil, [] => True
  | .cons m ms, e :: es => PE X e (tD G (evalE cal m) W) ∧ noStar e = true ∧ Each X G cal W ms es
  | _, _ => False
theorem Each.star : ∀ {es : Es} {xs : List Expr}, Each X G cal W es xs → xs.all noStar = true
  | .nil, [], _ => rfl
  | .cons m ms, e :: es, h => by
    rw [List.all_cons, h.2.1, Each.star h.2.2]
    rfl
  | .nil, _ :: _, h => h.elim
  | .cons _ _, [], h => h.elim
theorem Each.pa : ∀ {es : Es} {xs : List Expr}, Each X G cal W es xs → PA X xs (tA G (evalEs cal es) W)
  | .nil, [], _ => by
    have e : evalEs cal .nil = fun _ S => .ok [] S := by
      funext env S
      simp only [evalEs]
    rw [e]
    exact a_nil
  | .cons m ms, e :: es, h => by
    have q : evalEs cal (.cons m ms) = fun env S => (evalE cal m env S).bind fun d S1 => (evalEs cal ms env S1).bind fun ds S2 => .ok (d :: ds) S2 := by
      funext env S
      simp only [evalEs]
    rw [q]
    exact a_cons h.1 (Each.pa h.2.2) (star_cons h.2.1 _ _)
  | .nil, _ :: _, h => h.elim
  | .cons _ _, [], h => h.elim
theorem Each.one {es : Es} {a : Expr} (h : Each X G cal W es [a]) : ∃ m, es = .cons m .nil ∧ PE X a (tD G (evalE cal m) W) ∧ noStar a = true := by
  cases es with
  | nil => exact h.elim
  | cons m ms =>
    cases ms with
    | nil => exact ⟨m, rfl, h.1, h.2.1⟩
    | cons _ _ => exact h.2.2.elim
theorem ev_prim {p : Pr} {es : Es} : evalE cal (.prim p es) = primF p (evalEs cal es) := by
  funext env S
  simp only [evalE, primF]
theorem callB_ok {e : Expr} (h : callB e = true) {env : Env} (whole : Sem Value) : isTrue e env whole = (do let v ← whole; standAt e.pos; holding [v] (truthy v)) := by
  cases e <;> first | rfl | cases h
theorem keyS_ok {x : Str} {scope : Scope} (h : keySB x scope = true) : KeyS x scope := by
  unfold keySB at h
  simp only [Bool.and_eq_true, Bool.not_eq_true', decide_eq_true_eq, List.all_eq_true, decide_eq_false_iff_not] at h
  obtain ⟨⟨⟨⟨⟨⟨h1, h2⟩, h3⟩, h4⟩, h5⟩, h6⟩, h7⟩ := h
  exact ⟨h1, h2, h3, fun y hy => (h4 y hy).1, fun y hy => (h4 y hy).2, h5, glB_ok h6, h7⟩
theorem prI_ok {ts : List Ty} {xs : List Expr} (h : prI κ ts e = some xs) : ∃ a b p1 p2, e = .Call (.Name "isinstance" p1) [a, b] [] p2 ∧ xs = [a] ∧ glB κ.sc "isinstance" = true ∧ ((∃ t, ts = [t] ∧ tyB κ t b = true) ∨ ∃ t u x y k p3, ts = [t, u] ∧ b = .Tuple [x, y] k p3 ∧ tyB κ t x = true ∧ tyB κ u y = true) := by
  unfold prI at h
  split at h
  · split at h
    · rename_i hc
      simp only [Bool.and_eq_true, decide_eq_true_eq] at hc
      obtain ⟨⟨h1, h2⟩, h3⟩ := hc
      cases h
      subst h1
      refine ⟨_, _, _, _, rfl, rfl, h2, ?_⟩
      unfold tysB at h3
      split at h3
      · exact .inl ⟨_, rfl, h3⟩
      · split at h3
        · simp only [Bool.and_eq_true] at h3
          exact .inr ⟨_, _, _, _, _, _, rfl, rfl, h3.1, h3.2⟩
        · cases h3
      · cases h3
    · cases h
  · cases h
theorem pr2_ok {m n : Str} {xs : List Expr} (h : pr2 κ m n e = some xs) : ∃ a p1 p2 p3 p4, e = .Call (.Name m p1) [.Call (.Name n p2) [a] [] p3] [] p4 ∧ xs = [a] ∧ glB κ.sc m = true ∧ glB κ.sc n = true := by
  unfold pr2 at h
  split at h
  · split at h
    · rename_i hc
      simp only [Bool.and_eq_true, decide_eq_true_eq] at hc
      obtain ⟨⟨⟨h1, h2⟩, h3⟩, h4⟩ := hc
      cases h
      subst h1 h2
      exact ⟨_, _, _, _, _, rfl, rfl, h3, h4⟩
    · cases h
  · cases h
theorem prS_ok {n : Str} {xs : List Expr} (h : prS κ n e = some xs) : ∃ y ys p1 p2, e = .Call (.Name n p1) (y :: ys) [] p2 ∧ xs = y :: ys ∧ glB κ.sc n = true := by
  unfold prS at h
  split at h
  · split at h
    · rename_i hc
      simp only [Bool.and_eq_true, decide_eq_true_eq] at hc
      obtain ⟨h1, h2⟩ := hc
      cases h
      subst h1
      exact ⟨_, _, _, _, rfl, rfl, h2⟩
    · cases h
  · cases h
theorem prim_ok (s : Sok κ cal G0 G P w base KL n W X) {p : Pr} {es : Es} {xs : List Expr} (h : prA κ p e = some xs) (he : Each X G cal W es xs) : PE X e (tD G (evalE cal (.prim p es)) W) ∧ callB e = true := by
  rw [ev_prim]
  have c := s.cok
  have hRoom := c.room
  cases p with
  | isi ts =>
    obtain ⟨a, b, p1, p2, rfl, rfl, h2, h3⟩ := prI_ok h
    obtain ⟨m, rfl, ha, hs⟩ := he.one
    rw [one_es]
    refine ⟨?_, rfl⟩
    rcases h3 with ⟨t, rfl, h3⟩ | ⟨t, u, x, y, k, p3, rfl, rfl, h3, h4⟩
    · obtain ⟨ht, hs2⟩ := ty_ok s h3
      exact s_isi1 c (s.bn (glB_ok h2) (by decide) boot_isinstance) ha ht hs hs2
    · obtain ⟨ht, hs2⟩ := ty_ok s h3
      obtain ⟨hu, hs3⟩ := ty_ok s h4
      exact s_isi2 c (s.bn (glB_ok h2) (by decide) boot_isinstance) ha ht hu hs hs2 hs3
  | lenSet =>
    obtain ⟨a, p1, p2, p3, p4, rfl, rfl, h3, h4⟩ := pr2_ok h
    obtain ⟨m, rfl, ha, hs⟩ := he.one
    rw [one_es]
    exact ⟨s_lenSet c (s.bn (glB_ok h3) (by decide) boot_len) (s.bn (glB_ok h4) (by decide) PySem.Pv.boot_set) ha hs, rfl⟩
  | tupRng1 =>
    obtain ⟨a, p1, p2, p3, p4, rfl, rfl, h3, h4⟩ := pr2_ok h
    obtain ⟨m, rfl, ha, hs⟩ := he.one
    rw [one_es]
    exact ⟨s_tupR1 c (s.bn (glB_ok h3) (by decide) PySem.Pv.boot_tuple) (s.bn (glB_ok h4) (by decide) boot_range) ha hs, rfl⟩
  | lrng1 mu =>
    obtain ⟨a, p1, p2, p3, p4, rfl, rfl, h3, h4⟩ := pr2_ok h
    obtain ⟨m, rfl, ha, hs⟩ := he.one
    rw [one_es]
    exact ⟨s_lstR1 c _ (s.bn (glB_ok h3) (by decide) PySem.Pv.boot_list) (s.bn (glB_ok h4) (by decide) boot_range) ha hs, rfl⟩
  | sortLen =>
    have h : prK κ e = some xs := h
    unfold prK at h
    split at h
    · split at h
      · rename_i hc
        simp only [Bool.and_eq_true, decide_eq_true_eq] at hc
        obtain ⟨⟨⟨⟨⟨⟨⟨h1, h2⟩, h3⟩, h4⟩, h5⟩, h6⟩, h7⟩, h8⟩ := hc
        cases h
        subst h1 h2 h3 h4 h5
        obtain ⟨m, rfl, ha, hs⟩ := he.one
        obtain ⟨cc, PP, g⟩ := s.lam h8
        obtain ⟨nn, hn⟩ := s.n1
        rw [hn] at c
        rw [one_es]
        exact ⟨s_sortLen c g (s.bn (glB_ok h6) (by decide) boot_sorted) (by rw [c.mg, s.sup.mg]; exact s.md.blt _ (by decide)) (keyS_ok h7) rfl (fun _ _ _ _ _ => bind1) ha hs, rfl⟩
      · cases h
    · cases h
  | len =>
    obtain ⟨y, ys, p1, p2, rfl, rfl, hg⟩ := prS_ok h
    exact ⟨s_primB (cr_len c.K) (s.bn (glB_ok hg) (by decide) boot_len) he.pa he.star, rfl⟩
  | min2 =>
    obtain ⟨y, ys, p1, p2, rfl, rfl, hg⟩ := prS_ok h
    exact ⟨s_primB (cr_min2 c.calm) (s.bn (glB_ok hg) (by decide) boot_min) he.pa he.star, rfl⟩
  | min1 =>
    obtain ⟨y, ys, p1, p2, rfl, rfl, hg⟩ := prS_ok h
    exact ⟨s_primB (cr_min1 c.calm) (s.bn (glB_ok hg) (by decide) boot_min) he.pa he.star, rfl⟩
  | max2 =>
    obtain ⟨y, ys, p1, p2, rfl, rfl, hg⟩ := prS_ok h
    exact ⟨s_primB (cr_max2 c.calm) (s.bn (glB_ok hg) (by decide) boot_max) he.pa he.star, rfl⟩
  | max1 =>
    obtain ⟨y, ys, p1, p2, rfl, rfl, hg⟩ := prS_ok h
    exact ⟨s_primB (cr_max1 c.calm) (s.bn (glB_ok hg) (by decide) boot_max) he.pa he.star, rfl⟩
  | sum1 =>
    obtain ⟨y, ys, p1, p2, rfl, rfl, hg⟩ := prS_ok h
    exact ⟨s_primB (cr_sum1 c.calm) (s.bn (glB_ok hg) (by decide) boot_sum) he.pa he.star, rfl⟩
  | sorted =>
    obtain ⟨y, ys, p1, p2, rfl, rfl, hg⟩ := prS_ok h
    exact ⟨s_primB (cr_sortedD c.K (by have := hRoom.un; omega)) (s.bn (glB_ok hg) (by decide) boot_sorted) he.pa he.star, rfl⟩
  | tuple =>
    obtain ⟨y, ys, p1, p2, rfl, rfl, hg⟩ := prS_ok h
    exact ⟨s_primT (cr_tuple c.K) (s.bn (glB_ok hg) (by decide) PySem.Pv.boot_tuple) he.pa he.star, rfl⟩
  | int1 =>
    obtain ⟨y, ys, p1, p2, rfl, rfl, hg⟩ := prS_ok h
    exact ⟨s_primT cr_int1 (s.bn (glB_ok hg) (by decide) PySem.Pv.boot_int) he.pa he.star, rfl⟩
  | str1 =>
    obtain ⟨y, ys, p1, p2, rfl, rfl, hg⟩ := prS_ok h
    exact ⟨s_primT cr_str1 (s.bn (glB_ok hg) (by decide) PySem.Pv.boot_str) he.pa he.star, rfl⟩
  | list1 mu =>
    obtain ⟨y, ys, p1, p2, rfl, rfl, hg⟩ := prS_ok h
    exact ⟨s_primT (cr_list1 c.K mu) (s.bn (glB_ok hg) (by decide) PySem.Pv.boot_list) he.pa he.star, rfl⟩
  | sortedSet => cases h
  | maxDef => cases h
  | tupRng2 => cases h
end
end Mp
set_option maxHeartbeats 2000000
/-! Mp.Hnd4: what stands in an except suite that tells exceptions apart: its language, its check. -/
namespace Mp
open PySem PySem.Spec PyProof.Rows L2
/-! ### it is sound -/
/-- the frame of a suite -/
structure Hok (κ : Ck) (G : Wd) (Y : Cx) : Prop where
  K : Y.K = G.K
  mg : Y.mg = G.mg
  nm : Y.N = κ.N
  nd : κ.N.Nodup
  sc : Y.env.scope = κ.sc
  ins : G.mg "isinstance" = none
  un : Y.A.units + 65 < cLine
section
variable {κ : Ck} {G : Wd} {i : Nat} {ae C : Addr} {dd : Option Addr} {q : Exc} {Y : Cx} {oe : Obj} {pn : List (Addr × Obj)}
theorem varB_ok {κ : Ck} {i : Nat} {x : Str} (h : varB κ i x = true) : κ.N[i]? = some x ∧ Vis κ.sc x ∧ (x == ("__debug__" : Str)) = false ∧ (x == ("__classdict__" : Str)) = false := by
  unfold varB at h
  simp only [Bool.and_eq_true, decide_eq_true_eq] at h
  obtain ⟨⟨h1, h2⟩, h3⟩ := h
  exact ⟨h1, visB_ok h2, nmB_ok h3⟩
structure Hx (κ : Ck) (G : Wd) (dd : Option Addr) (q : Exc) (C : Addr) (oe : Obj) : Prop where
  T : XcOk G κ.xs.xs
  no : ∀ x ∈ κ.xs.xs, ∀ D, G.mg x = some (.ref D) → ∀ f ∈ (["part", "index", "most", "line", "place"] : List Str), PySem.W.findIn G.K (.ref D) f = some none
  hC : G.mg q.cls = some (.ref C)
  z : Zc (.ref C) dd oe
  f : ∃ vs, oe.data = .fields vs
mutual
theorem chkHE_ok (s : Hok κ G Y) (t : Hx κ G dd q C oe) : ∀ (m : HE) {e : Expr}, chkHE κ i m e = true → PE (Y.suite ae ((ae, oe) :: pn)) e (tH G i ae dd q (evalHE q κ.xs.xs m))
  | .con d, e, h => by
    simp only [chkHE] at h
    unfold cCon at h
    split at h
    · rename_i c k pos
      obtain ⟨v, h1, h2⟩ := con_val (G := G) h
      simp only [evalHE]
      exact h_con (h1 _ _ _) h2
    · cases h
  | .var j, e, h => by
    simp only [chkHE] at h
    unfold cHVar at h
    split at h
    · obtain ⟨h1, h2, h3, h4⟩ := varB_ok h
      simp only [evalHE]
      exact h_var (by show Y.N[j]? = _; rw [s.nm]; exact h1) (by show Vis Y.env.scope _; rw [s.sc]; exact h2) h3 h4
    · cases h
  | .add a b, e, h => by
    simp only [chkHE] at h
    unfold cBin at h
    split at h
    · simp only [Bool.and_eq_true, decide_eq_true_eq] at h
      obtain ⟨⟨h1, h2⟩, h3⟩ := h
      subst h1
      simp only [evalHE]
      exact h_bin (X := Y.suite ae ((ae, oe) :: pn)) s.K .add (chkHE_ok s t a h2) (chkHE_ok s t b h3)
    · cases h
  | .ite c a b, e, h => by
    simp only [chkHE] at h
    unfold cIte at h
    split at h
    · simp only [Bool.and_eq_true] at h
      obtain ⟨⟨h1, h2⟩, h3⟩ := h
      simp only [evalHE]
      exact h_ite (chkHC_ok s t c h1) (chkHE_ok s t a h2) (chkHE_ok s t b h3)
    · cases h
  | .tup es, e, h => by
    simp only [chkHE] at h
    unfold cTup at h
    split at h
    · simp only [evalHE]
      exact h_tup (chkHEs_ok s t es h)
    · cases h
  | .lst es, e, h => by
    simp only [chkHE] at h
    unfold cLst at h
    split at h
    · simp only [evalHE]
      exact h_lst (chkHEs_ok s t es h)
    · cases h
  | .ix a b, e, h => by
    simp only [chkHE] at h
    unfold cIx at h
    split at h
    · simp only [Bool.and_eq_true] at h
      obtain ⟨⟨h1, h2⟩, h3⟩ := h
      simp only [evalHE]
      exact h_ix (X := Y.suite ae ((ae, oe) :: pn)) s.K (chkHE_ok s t a h2) (chkHE_ok s t b h3) (plainB_ok h1)
    · cases h
  | .bidx a b, e, h => by
    simp only [chkHE] at h
    unfold cHMeth at h
    split at h
    · simp only [Bool.and_eq_true, decide_eq_true_eq] at h
      obtain ⟨⟨⟨⟨⟨h1, h2⟩, h3⟩, h4⟩, h5⟩, h6⟩ := h
      subst h1
      simp only [evalHE]
      exact h_index (X := Y.suite ae ((ae, oe) :: pn)) s.K s.un (chkHE_ok s t a h2) (chkHE_ok s t b h3) h4 h5 h6
    · cases h
  | .bcnt a b, e, h => by
    simp only [chkHE] at h
    unfold cHMeth at h
    split at h
    · simp only [Bool.and_eq_true, decide_eq_true_eq] at h
      obtain ⟨⟨⟨⟨⟨h1, h2⟩, h3⟩, h4⟩, h5⟩, h6⟩ := h
      subst h1
      simp only [evalHE]
      exact h_count (X := Y.suite ae ((ae, oe) :: pn)) s.K s.un (chkHE_ok s t a h2) (chkHE_ok s t b h3) h4 h5 h6
    · cases h
  | .isx x, e, h => by
    simp only [chkHE] at h
    unfold cHIsx at h
    split at h
    · simp only [Bool.and_eq_true, decide_eq_true_eq] at h
      obtain ⟨⟨⟨⟨h1, h2⟩, h3⟩, h4⟩, h5⟩ := h
      subst h1 h2
      obtain ⟨n1, n2, n3, n4⟩ := varB_ok h3
      simp only [evalHE]
      exact h_isx s.K s.mg t.T t.hC t.z t.f (by rw [s.nm]; exact n1) (by rw [s.sc]; exact n2) n3 n4 (by show Y.env.scope.names.lookup _ = _; rw [s.sc]; exact glB_ok h4)
        ⟨by show Y.env.scope.names.lookup _ = _; rw [s.sc]; exact glB_ok h5, by rw [s.mg]; exact s.ins, boot_isinstance, by decide, by decide⟩
    · cases h
  | .xfl f, e, h => by
    simp only [chkHE] at h
    unfold cHXfl at h
    split at h
    · simp only [Bool.and_eq_true, decide_eq_true_eq] at h
      obtain ⟨⟨h1, h2⟩, h3⟩ := h
      subst h1
      obtain ⟨n1, n2, n3, n4⟩ := varB_ok h3
      simp only [evalHE]
      exact h_xfl s.K t.T t.no t.hC t.z t.f (by simpa [fldB] using h2) (by rw [s.nm]; exact n1) (by rw [s.sc]; exact n2) n3 n4
    · cases h
theorem chkHC_ok (s : Hok κ G Y) (t : Hx κ G dd q C oe) : ∀ (m : HC) {e : Expr}, chkHC κ i m e = true → PT (Y.suite ae ((ae, oe) :: pn)) e (tHT G i ae dd q (evalHC q κ.xs.xs m))
  | .ex m, e, h => by
    simp only [chkHC, Bool.and_eq_true] at h
    simp only [evalHC]
    exact ht_plain (X := Y.suite ae ((ae, oe) :: pn)) s.K (chkHE_ok s t m h.2) (callB_ok h.1)
  | .eq a b, e, h => by
    simp only [chkHC] at h
    unfold cCmp at h
    split at h
    · simp only [Bool.and_eq_true, decide_eq_true_eq, Bool.not_eq_true'] at h
      obtain ⟨⟨⟨h1, h2⟩, h3⟩, h4⟩ := h
      subst h1
      simp only [evalHC]
      exact ht_cmp (X := Y.suite ae ((ae, oe) :: pn)) s.K s.un .eq (chkHE_ok s t a h3) (chkHE_ok s t b h4) h2
    · cases h
  | .or a b, e, h => by
    simp only [chkHC] at h
    unfold cHOr at h
    split at h
    · simp only [Bool.and_eq_true] at h
      simp only [evalHC]
      exact ht_or (chkHC_ok s t a h.1) (ht_or1 (chkHC_ok s t b h.2))
    · cases h
theorem chkHEs_ok (s : Hok κ G Y) (t : Hx κ G dd q C oe) : ∀ (ms : HEs) {es : List Expr}, chkHEs κ i ms es = true → PA (Y.suite ae ((ae, oe) :: pn)) es (tHA G i ae dd q (evalHEs q κ.xs.xs ms))
  | .nil, es, h => by
    simp only [chkHEs] at h
    cases es with
    | nil =>
      simp only [evalHEs]
      exact ha_nil
    | cons _ _ => cases h
  | .cons m ms, es, h => by
    simp only [chkHEs] at h
    unfold cArgs at h
    split at h
    · simp only [Bool.and_eq_true] at h
      obtain ⟨⟨h1, h2⟩, h3⟩ := h
      simp only [evalHEs]
      exact ha_cons (chkHE_ok s t m h2) (chkHEs_ok s t ms h3) (star_cons h1 _ _)
    · cases h
end
theorem chkHS_ok (s : Hok κ G Y) (t : Hx κ G dd q C oe) : ∀ (hs : List HS) {sts : List Stmt}, chkHS κ i hs sts = true → PSs (Y.suite ae ((ae, oe) :: pn)) sts (tHS G i ae dd q (evalHS i q κ.xs.xs hs))
  | [], sts, h => by
    simp only [chkHS] at h
    cases h
  | .ret m :: r, sts, h => by
    simp only [chkHS] at h
    unfold cHRet at h
    split at h
    · simp only [evalHS]
      exact pss_one (ps_ret (chkHE_ok s t m h))
    · cases h
  | .ifr c m :: r, sts, h => by
    simp only [chkHS] at h
    unfold cHIf cHRet at h
    split at h
    · simp only [Bool.and_eq_true] at h
      obtain ⟨⟨h1, h2⟩, h3⟩ := h
      split at h2
      · simp only [evalHS]
        refine PSs.imp (pss_cons (ps_if (chkHC_ok s t c h1) (pss_one (ps_ret (chkHE_ok s t m h2))) pss_nil) (chkHS_ok s t r h3)) fun D σ H ⟨Z, A, env, S, d, hR, hE, hx, hf, k⟩ => ?_
        obtain ⟨b, hb, hf⟩ := Option.bind_eq_some_iff.mp hf
        exact stepHT hR hE hx hb fun Z1 A1 H1 f1 R1 E1 x1 => by
          cases b with
          | true => exact ⟨Z1, A1, env, S, d, R1, E1, x1, hf, k.fut f1⟩
          | false => exact ⟨Z1, A1, env, S, d, R1, E1, x1, hf, k.fut f1⟩
      · cases h2
    · cases h
  | .set j m :: r, sts, h => by
    simp only [chkHS] at h
    unfold cHSet at h
    split at h
    · rename_i y _ x q' _
      simp only [Bool.and_eq_true, decide_eq_true_eq] at h
      obtain ⟨⟨⟨⟨h1, h2⟩, h3⟩, h4⟩, h5⟩ := h
      simp only [evalHS]
      have hl : (Y.suite ae ((ae, oe) :: pn)).env.scope.names.lookup y = some NameKind.local := by
        show Y.env.scope.names.lookup _ = _
        rw [s.sc]
        exact h2
      refine PSs.imp (pss_cons (ps_set (i := j) (by show Y.N.Nodup; rw [s.nm]; exact s.nd) (by show Y.N[j]? = _; rw [s.nm]; exact h1) (.inl hl) (chkHE_ok s t m h4) (swapsN h3 _ _ _) (.inr hl)) (chkHS_ok s t r h5)) fun D σ H ⟨Z, A, env, S, d, hR, hE, hx, hf, k⟩ => ?_
      obtain ⟨d1, h1', hf⟩ := Option.bind_eq_some_iff.mp hf
      split at hf
      · rename_i hc
        rw [Bool.and_eq_true, decide_eq_true_eq, decide_eq_true_eq] at hc
        exact stepH hR hE hx h1' fun v Z1 A1 H1 f1 R1 E1 x1 r1 => ⟨Z1, A1, env.set j (some d1), S, d, R1, E1.set r1, ⟨by rw [List.getElem?_set_ne hc.2]; exact x1.1, x1.2.1, x1.2.2⟩, hf, k.fut f1⟩
      · cases hf
    · cases h
end
end Mp
set_option maxHeartbeats 2000000
/-! Mp.Lam: a lambda without parameters, handed to a def that calls it within try. -/
namespace Mp
open PySem PySem.Spec PyProof.Rows L2
/-! ### the lambda is made -/
theorem lam_codeF {G : Wd} {X : Cx} {c P : Addr} {pins : List (Addr × Obj)} {σ : L2.St} {Z H : Hp} {A : List Addr} {S : Store} {s : Shared} {E : Value → Shared → Prop} {Q : Value → Shared → Prop} {params : Arguments} {body : Expr} {scope : Scope} {pos : Pos}
    (g : LamC G X c P) (I : Inv X pins σ H s) (r : Rel G Z A S H) (hdef : defaultsOf params X.env = ([], [])) (hfree : ∀ y ∈ scope.names, y.2 = .free → ∃ c, X.env.cells.lookup y.1 = some c)
    (h : ∀ (f c' : Addr) (pm ctv : Value) (H' : Hp) (s' : Shared), Inv X pins σ H' s' → Rel G Z A S H' → Fut H Z A H' Z A → s'.heap.get? f = some (PySem.W.kla_obj "<lambda>" (X.env.qual ++ "<lambda>") params body scope (cloFrom X.env.cells scope.names []) pm c' ctv) →
      H' f = none → f ∉ frs X.stack → H' c' = some (LamX.CodeO c' (X.env.qual ++ "<lambda>")) → Q (.ref f) s') :
    wpAny (model X.prog X.w) X.A (eval (.Lambda params body scope pos) X.env) Q E s := by
  obtain ⟨ps, hP, ht, ha⟩ := r.tabs _ g.mem
  have hP : H P = some (.tbl ps) := hP
  refine PySem.W.kla_eval hdef ?_
  have hcl : closureFor scope X.env = pure (cloFrom X.env.cells scope.names []) := closure_ok hfree
  have nofr : ∀ f, s.heap.objs.size ≤ f → f ∉ frs X.stack := fun f hf z => by
    rcases List.mem_cons.mp (I.stkSub _ z) with e | e
    · have h1 := I.lt
      rw [← e] at h1
      exact absurd hf (Nat.not_le_of_lt h1)
    · exact I.nofs hf e
  have bP : s.heap.BuiltinsAt X.mg P := g.tb.bm.keeps I.bk
  have hP' : s.heap.get? P = some { cls := .none, data := .fields ps } := I.hok P _ hP
  cases hc : codeAmong pos ps.toList with
  | none =>
    refine PySem.W.kla_makeFunction (mg := X.mg) (c := c) (P := P) (ps := ps) hcl I.ok.glob (I.mod.glob.keeps I.bk) g.code (g.tb.code.keeps I.bk) hP' ht hc g.tb.gP bP fun c' ctv h' tk hx hge hlt hrec htb => ?_
    obtain ⟨c2, oc, vs, t, e2, hoc, hd, hv⟩ := id hrec
    cases e2
    have hPl : P < s.heap.objs.size := Heap.lt_size hP'
    have nP : c' ≠ P := Nat.ne_of_gt (Nat.lt_of_lt_of_le hPl hge)
    generalize hps : ps ++ #[rawInt pos.line, rawInt pos.col, .ref c'] = ps' at htb
    have htr : TriplesOk ps'.toList := by
      rw [← hps]
      have hl : (ps ++ #[rawInt pos.line, rawInt pos.col, .ref c']).toList = ps.toList ++ [rawInt pos.line, rawInt pos.col, .ref c'] := by simp
      rw [hl]
      exact PySem.TriplesOk_snoc _ _ _ _ ht
    let H' : Hp := upd (upd H P (.tbl ps')) c' (LamX.CodeO c' (X.env.qual ++ "<lambda>"))
    have a1 : H' c' = some (LamX.CodeO c' (X.env.qual ++ "<lambda>")) := upd_same
    have a2 : H' P = some (.tbl ps') := by
      show upd (upd H P (.tbl ps')) c' _ P = _
      rw [upd_ne (Ne.symm nP), upd_same]
    have a3 : ∀ b, b ≠ P → b ≠ c' → H' b = H b := fun b b1 b2 => by
      show upd (upd H P (.tbl ps')) c' _ b = _
      rw [upd_ne b2, upd_ne b1]
    have a4 : ∀ b, b < s.heap.objs.size → b ≠ c' := fun b hb => Nat.ne_of_lt (Nat.lt_of_lt_of_le hb hge)
    have st : ∀ b o, b ≠ P → H b = some o → H' b = some o := fun b o b1 e => by
      rw [a3 b b1 (a4 b (I.hok.lt e))]
      exact e
    have hk : ∀ q ∈ G.T, q.1 = P → TabK H' q := fun q hq e => by
      have u := g.uniq q hq e
      obtain ⟨Q', k⟩ := q
      simp only at e u
      subst e u
      refine ⟨ps', a2, htr, fun p' cv hcv => ?_⟩
      rw [← hps] at hcv
      have hl : (ps ++ #[rawInt pos.line, rawInt pos.col, .ref c']).toList = ps.toList ++ [rawInt pos.line, rawInt pos.col, .ref c'] := by simp
      rw [hl] at hcv
      rcases LamX.among_app _ ht hcv with z | z
      · obtain ⟨c0, e1, e2⟩ := ha p' cv z
        have n0 : c0 ≠ Q' := fun z => by rw [z, hP] at e2; cases e2
        exact ⟨c0, e1, st _ _ n0 e2⟩
      · exact ⟨c', z, a1⟩
    obtain ⟨R', F'⟩ := Rel.tab (H' := H') r hP st a2 htr hk
    have hsz : s.heap.objs.size ≤ h'.objs.size := Nat.le_trans hge (Nat.le_of_lt hlt)
    refine h h'.objs.size c' ((X.mg "__name__").getD .none) ctv H' { s with heap := h'.push (PySem.W.kla_obj "<lambda>" (X.env.qual ++ "<lambda>") params body scope (cloFrom X.env.cells scope.names []) ((X.mg "__name__").getD .none) c' ctv), gens := s.gens, toks := tk }
      (inv_tabs (more := #[rawInt pos.line, rawInt pos.col, .ref c']) I hP (fun b o hb e => Heap.get?_push_of_some _ (hx b o hb e)) (by rw [hps]; exact Heap.get?_push_of_some _ htb) (fun b b1 b2 => a3 b b1 (a4 b b2)) (by rw [hps]; exact a2) (fun b o hb e => ?_) I.bare)
      R' F' (Heap.get?_push_size _ rfl) ?_ (nofr _ hsz) a1
    · by_cases b2 : b = c'
      · rw [b2, a1] at e
        cases e
        rw [b2]
        exact ⟨⟨oc, vs, t, Heap.get?_push_of_some _ hoc, hd, hv⟩, ⟨oc, Heap.get?_push_of_some _ hoc⟩, fun h1 h2 ⟨oc, vs, t, q1, q2, q3⟩ k => ⟨oc, vs, t, k _ q1, q2, q3⟩⟩
      · rw [a3 b (Nat.ne_of_gt (Nat.lt_of_lt_of_le hPl hb)) b2, I.hok.fresh hb] at e
        cases e
    · rw [a3 _ (Nat.ne_of_gt (Nat.lt_of_lt_of_le hPl hsz)) (Nat.ne_of_gt hlt)]
      exact I.hok.fresh hsz
  | some cv =>
    obtain ⟨c', e, hco⟩ := ha pos cv hc
    subst e
    refine PySem.W.kla_makeFunctionHit (mg := X.mg) (c := c) (P := P) (ps := ps) hcl I.ok.glob (I.mod.glob.keeps I.bk) g.code (g.tb.code.keeps I.bk) hP' ht hc bP fun ctv h' tk hx hsz => ?_
    exact h h'.objs.size c' ((X.mg "__name__").getD .none) ctv H _ (I.kept fun b o e => Heap.get?_push_of_some _ (hx b o e)) r .refl (Heap.get?_push_size _ rfl) (I.hok.fresh hsz) (nofr _ hsz) hco
/-! ### the def that calls it -/
theorem takes_len {X : Cx} {W : WX} (t : Takes X W) : Takes X (fun c d σ H => σ.length = X.N.length → W c d σ H) := fun u s' ⟨a, B, sI, pins, σ, H, cls, d, e, I, nb, up, sky, na, os, ag, w⟩ =>
  t u s' ⟨a, B, sI, pins, σ, H, cls, d, e, I, nb, up, sky, na, os, ag, w I.len⟩
/-- what the suite is told of the exception -/
def tsW (G : Wd) (xs : List Str) (wk : Wfn) : Addr → Value → Option Addr → TS := fun ae cls dd D σ H => ∃ q C, cls = .ref C ∧ G.mg q.cls = some (.ref C) ∧ tHS G wk.i ae dd q (evalHS wk.i q xs wk.hs) D σ H
section
variable {G : Wd} {xs : List Str} {wk : Wfn} {Y : Cx}
/-- the lambda's call, where it is called -/
abbrev ActAt (Y : Cx) (a : Str) (tb : XK → TE) : Prop := ∀ (W : WX) (pn : List (Addr × Obj)) (xe : Value → Shared → Prop) (E : XK) (p1 p2 : Pos), Takes (Y.tr pn xe) W → (∀ cls d σ' H', E cls d H' → W cls d σ' H') → PE (Y.tr pn xe) (.Call (.Name a p1) [] [] p2) (tb E)
/-- what an exception must find -/
abbrev EchW (K : PySem.W.Frag) (CS : Addr) (G : Wd) (xs : List Str) (wk : Wfn) (n : Nat) (D : Ends) : XK := fun cls d H' => ∀ σ' : L2.St, σ'.length = n → wAs K (.ref CS) wk.i (tsW G xs wk) (fun _ _ _ _ => False) D cls d σ' H'
theorem ech_ok {K : PySem.W.Frag} {CS : Addr} {D : Ends} {H Z : Hp} {A : List Addr} {q : Exc} {S1 : Store} {n : Nat} (hK : K = G.K) (T : XsOk G xs) (hi : wk.i < n) (hCS : G.mg wk.cl = some (.ref CS)) (hcl : wk.cl ∈ xs)
    (h : PostR (if xs.contains q.cls && catchB q.cls wk.cl then opt (evalHS wk.i q xs wk.hs (List.replicate n none) S1) S1 else .bad) (fun d S' => Kon G H Z A d S' D.rt) (fun _ _ => False)) : KonX G H Z A q S1 (EchW K CS G xs wk n D) := by
  intro cls dd H' Z' A' f R ex σ' hl
  by_cases hc : (xs.contains q.cls && catchB q.cls wk.cl) = true
  · rw [if_pos hc] at h
    rw [Bool.and_eq_true] at hc
    obtain ⟨d, hd, k⟩ := h.opt
    have k : Kon G H Z A d S1 D.rt := k
    obtain ⟨C, e1, e2, e3⟩ := ex
    obtain ⟨C1, g1, _, hq⟩ := T.ex _ hcl
    rw [hCS] at g1
    cases g1
    obtain ⟨Cq, g2, g3⟩ := hq q.cls (by simpa using hc.1)
    rw [e2] at g2
    cases g2
    subst e1
    refine ⟨true, by rw [hK, g3, hc.2], fun _ ae na => ?_, fun z => by cases z⟩
    refine ⟨q, C, rfl, e2, Z', A', List.replicate n none, S1, d, R, ⟨by simp [hl], fun j d' hj => ?_⟩, ⟨?_, ?_, ?_⟩, hd, k.fut f⟩
    · rw [List.getElem?_replicate] at hj
      split at hj <;> cases hj
    · rw [List.getElem?_set_self (by rw [hl]; exact hi)]
    · intro e he
      cases ha : q.arg with
      | none =>
        rw [ha] at e3
        rw [show dd = none from e3] at he
        cases he
      | some p =>
        rw [ha] at e3
        obtain ⟨dx, fs, v, q1, q2, _⟩ := e3
        rw [q1] at he
        cases he
        exact ⟨fs, q2⟩
    · intro g d' ha
      rw [ha] at e3
      exact e3
  · rw [if_neg hc] at h
    exact h.elim
end
end Mp
set_option maxHeartbeats 2000000
/-! Mp.Lam2: the def that calls the lambda within try. -/
namespace Mp
open PySem PySem.Spec PyProof.Rows L2
section
variable {G : Wd} {xs : List Str} {wk : Wfn} {Y : Cx} {κ : Ck}
/-- the lambda's reading at its call -/
abbrev tbW (G : Wd) (f : Addr) (Kp : Hp → Prop) (fe : FE) (σ : L2.St) : XK → TE := fun E σZ HZ Q => σZ[0]? = some (some (.ref f)) ∧ Kp HZ ∧ tD G fe (fun _ => E) σ HZ Q
theorem hdl_parts {a x nm : Str} {suite : List Stmt} (h : hdlB κ wk a x nm suite = true) : wk.N[0]? = some a ∧ Vis κ.sc a ∧ ((a == ("__debug__" : Str)) = false ∧ (a == ("__classdict__" : Str)) = false) ∧ x = wk.cl ∧ wk.cl ∈ κ.xs.xs ∧ κ.sc.names.lookup wk.cl = some .globalImplicit ∧ wk.N[wk.i]? = some nm ∧ κ.sc.names.lookup nm = some .local ∧ chkHS κ wk.i wk.hs suite = true := by
  unfold hdlB at h
  simp only [Bool.and_eq_true, decide_eq_true_eq] at h
  obtain ⟨⟨⟨⟨⟨⟨⟨⟨h1, h2⟩, h3⟩, h4⟩, h5⟩, h6⟩, h7⟩, h8⟩, h9⟩ := h
  exact ⟨h1, visB_ok h2, nmB_ok h3, h4, by simpa using h5, glB_ok h6, h7, h8, h9⟩
theorem try_W {f CS : Addr} {Kp : Hp → Prop} {a x nm : Str} {fe : FE} {σ : L2.St} {b₀ : Stmt} {suite body : List Stmt} (s : Hok κ G Y) (hN : κ.N = wk.N) (hx : κ.xs.xs = xs) (T : XsOk G xs) (hs : Y.stack = Y.env :: Y.outer) (hf : Y.env.frame = some Y.env.locals)
    (hd : hdlB κ wk a x nm (b₀ :: suite) = true) (hCS : G.mg wk.cl = some (.ref CS)) {tb : TE → TS} (act : ActAt Y a (tbW G f Kp fe σ)) (hbody : ∀ (pn : List (Addr × Obj)) (xe : Value → Shared → Prop) (te : TE), (∀ p1 p2, PE (Y.tr pn xe) (.Call (.Name a p1) [] [] p2) te) → PSs (Y.tr pn xe) body (tb te)) {np pos pos' : Pos} :
    PS Y (.Try body [.ExceptHandler (some (.Name x np)) (some nm) (b₀ :: suite) pos'] [] [] pos) (fun D σZ HZ => tb (tbW G f Kp fe σ (EchW Y.K CS G xs wk wk.N.length D)) D σZ HZ) := by
  obtain ⟨h1, h2, ⟨h3, h4⟩, h5, h6, h7, h8, h9, h10⟩ := hdl_parts hd
  subst hx
  obtain ⟨C1, g1, db, _⟩ := T.ex _ h6
  have NX : Names Y x (.ref CS) := by
    rw [h5]
    exact ⟨by show Y.env.scope.names.lookup _ = _; rw [s.sc]; exact h7, db, .inl (by rw [s.mg]; exact hCS)⟩
  refine PS.imp (ps_try_as (i := wk.i) (tb := fun W D σZ HZ => ∃ Ech : XK, (∀ cls d σ' H', Ech cls d H' → (σ'.length = Y.N.length → W cls d σ' H')) ∧ tb (tbW G f Kp fe σ Ech) D σZ HZ) (ts := tsW G κ.xs.xs wk) (Wout := fun _ _ _ _ => False)
    hs hf (by rw [s.nm]; exact s.nd) (by rw [s.nm, hN]; exact h8) (by show Y.env.scope.names.lookup nm = _; rw [s.sc]; exact h9) NX LamX.takes0 (fun W pn xe tk po => ?_) fun ae oe cls dd pn hz hv => ?_) fun D σZ HZ h => ?_
  · refine ⟨fun pins s' σ1 H' D I h' => ?_⟩
    obtain ⟨Ech, hW, h⟩ := h'
    exact (hbody pn xe _ fun p1 p2 => act _ pn xe Ech p1 p2 (takes_len tk) hW).run pins s' σ1 H' D I h
  · refine ⟨fun pins s' σ1 H' D I h' => ?_⟩
    obtain ⟨q', C, ec, hC, h⟩ := h'
    subst ec
    exact (chkHS_ok s ⟨T.T, T.no, hC, hz, hv⟩ wk.hs h10).run pins s' σ1 H' D I h
  · exact ⟨_, fun cls d σ' H' h hl => h σ' (by rw [hl, s.nm, hN]), h⟩
theorem word_run {f : Addr} {Kp : Hp → Prop} {fe : FE} {σ : L2.St} {body : List Stmt} {Q : VK} {Z H : Hp} {A : List Addr} {S : Store} {env : EnvD} (s : Hok κ G Y) (hN : κ.N = wk.N) (hx : κ.xs.xs = xs) (T : XsOk G xs) (hs : Y.stack = Y.env :: Y.outer) (hf : Y.env.frame = some Y.env.locals)
    (hb : bodyW κ wk body = true) (act : ∀ a, wk.N[0]? = some a → Vis κ.sc a → (a == ("__debug__" : Str)) = false → (a == ("__classdict__" : Str)) = false → ActAt Y a (tbW G f Kp fe σ)) (hco : Kp H) (h1 : 1 ≤ wk.N.length)
    (R : Rel G Z A S H) (E : EnvR G Z A env σ) (hP : PostR (evalW wk xs (fe env S)) (fun d S' => Kon G H Z A d S' Q) (fun _ _ => False)) :
    ∃ t, PSs Y body t ∧ t { nx := fun _ H' => Q .non H', rt := Q } (L2.start wk.N [.ref f]) H := by
  have h0 : (L2.start wk.N [V.ref f])[0]? = some (some (V.ref f)) := by
    unfold L2.start
    rfl
  have key : ∀ {a x nm : Str} {b₀ : Stmt} {suite : List Stmt} {D : Ends} {Qr : VK}, D.rt = Q → hdlB κ wk a x nm (b₀ :: suite) = true → (∀ CS, G.mg wk.cl = some (.ref CS) → (∀ d S1, fe env S = .ok d S1 → Kon G H Z A d S1 Qr) → tbW G f Kp fe σ (EchW Y.K CS G xs wk wk.N.length D) (L2.start wk.N [.ref f]) H Qr) := by
    intro a x nm b₀ suite D Qr hD hd CS hCS ok
    obtain ⟨p1, p2, p3, p4, p5, p6, p7, p8, p9⟩ := hdl_parts hd
    refine ⟨h0, hco, Z, A, env, S, R, E, ?_⟩
    cases hq : fe env S with
    | bad => rw [hq] at hP; exact hP.elim
    | ok d S1 => exact ok d S1 hq
    | exc x S1 =>
      rw [hq] at hP
      exact ech_ok (D := D) s.K T (List.getElem?_eq_some_iff.mp p7).1 hCS (by rw [← hx]; exact p5) (by rw [hD]; exact hP)
  have cls : ∀ {a x nm : Str} {b₀ : Stmt} {suite : List Stmt}, hdlB κ wk a x nm (b₀ :: suite) = true → ∃ CS, G.mg wk.cl = some (.ref CS) := fun hd => by
    obtain ⟨p1, p2, p3, p4, p5, _⟩ := hdl_parts hd
    obtain ⟨C1, g1, _⟩ := T.ex _ (by rw [← hx]; exact p5)
    exact ⟨C1, g1⟩
  unfold bodyW at hb
  split at hb
  · rename_i d a pa pb pc x px nm b suite pd pe c k pf pg hk
    rw [Bool.and_eq_true] at hb
    obtain ⟨hc, hd⟩ := hb
    obtain ⟨CS, hCS⟩ := cls hd
    obtain ⟨p1, p2, ⟨p3, p3'⟩, _⟩ := hdl_parts hd
    obtain ⟨v, hv1, hv2⟩ := con_val (G := G) hc
    refine ⟨_, pss_cons (try_W (tb := fun te D σZ HZ => te σZ HZ fun _ H' => D.nx σZ H') s hN hx T hs hf hd hCS (act a p1 p2 p3 p3') fun pn xe te he => pss_one (ps_expr (he _ _))) (pss_one (ps_ret (hv1 k pf Y))), ?_⟩
    refine key rfl hd CS hCS fun d' S1 hq => ?_
    rw [hq] at hP
    unfold evalW at hP
    rw [hk] at hP
    have hP : Kon G H Z A d S1 Q := hP
    exact fun _ H' Z' A' f1 R1 _ => hP v H' Z' A' f1 R1 (hv2 Z' A')
  · rename_i a pa pb pc x px nm b suite pd pe hk
    obtain ⟨CS, hCS⟩ := cls hb
    obtain ⟨p1, p2, ⟨p3, p3'⟩, _⟩ := hdl_parts hb
    refine ⟨_, pss_one (try_W (tb := fun te D σZ HZ => te σZ HZ D.rt) s hN hx T hs hf hb hCS (act a p1 p2 p3 p3') fun pn xe te he => pss_one (ps_ret (he _ _))), ?_⟩
    refine key rfl hb CS hCS fun d' S1 hq => ?_
    rw [hq] at hP
    unfold evalW at hP
    rw [hk] at hP
    exact hP
  · rename_i d a pa pb c k pc pt pd pe x px nm b suite pf pg hk
    rw [Bool.and_eq_true] at hb
    obtain ⟨hc, hd⟩ := hb
    obtain ⟨CS, hCS⟩ := cls hd
    obtain ⟨p1, p2, ⟨p3, p3'⟩, _⟩ := hdl_parts hd
    obtain ⟨v, hv1, hv2⟩ := con_val (G := G) hc
    refine ⟨_, pss_one (try_W (tb := fun te D σZ HZ => te σZ HZ fun x H1 => [x, v].length ≤ sizeLine ∧ ∀ p, H1 p = none → D.rt (.ref p) (upd H1 p (.tup [x, v]))) s hN hx T hs hf hd hCS (act a p1 p2 p3 p3') fun pn xe te he => ?_), ?_⟩
    · exact pss_one (ps_ret (pe_tup (pa_cons (he _ _) (pa_cons (hv1 _ _ _) pa_nil rfl) rfl)))
    · refine key rfl hd CS hCS fun d' S1 hq => ?_
      rw [hq] at hP
      unfold evalW at hP
      rw [hk] at hP
      have hP : Kon G H Z A (.tuple [d', d]) S1 Q := hP
      exact fun v' H' Z' A' f1 R1 r1 => ⟨by rw [sizeLine_eq]; simp, (hP.fut f1).tup R1 (.cons r1 (.cons (hv2 Z' A') .nil))⟩
  · cases hb
end
end Mp
set_option maxHeartbeats 2000000
/-! Mp.Lam3: x(lambda: e), x calls it within try. -/
namespace Mp
open PySem PySem.Spec PyProof.Rows L2
/-- the def stands in the module -/
structure WfIs (G : Wd) (xs : List Str) (wk : Wfn) (st : Stmt) : Prop where
  fn : ∃ fd, FunD G.K wk.x wk.x (defArgs st) (defBody st) (defScope st) [] [] (He.fAd G.K (wk.x, none)) fd
  glo : G.mg wk.x = some (.ref (He.fAd G.K (wk.x, none)))
  chk : chkW xs wk st = true
/-- an empty lambda's binding -/
theorem bind0 {q : Str} {body : Expr} {scope : Scope} {cl : List (Str × Addr)} {pm cv ctv : Value} : bindArgs (PySem.W.kla_fn "<lambda>" q ⟨[], [], none, [], [], none, []⟩ body scope cl pm cv ctv) ⟨[], []⟩ = pure [] := by
  have e : seqItems? Value.none = pure none := rfl
  unfold bindArgs
  rw [e]
  simp
theorem evalW_post {wk : Wfn} {xs : List Str} {r : R D} {k : D → Store → Prop} {w : Exc → Store → Prop} (h : PostR (evalW wk xs r) k w) : PostR (evalW wk xs r) k fun _ _ => False := by
  have ne : ∀ x S', evalW wk xs r ≠ .exc x S' := fun x S' e => by
    unfold evalW at e
    split at e
    · split at e <;> cases e
    · split at e
      · unfold opt at e
        split at e <;> cases e
      · cases e
    · cases e
  cases hr : evalW wk xs r with
  | ok d S =>
    rw [hr] at h
    exact h
  | exc x S => exact (ne x S hr).elim
  | bad =>
    rw [hr] at h
    exact h
section
variable {G : Wd} {P : Program} {w : World} {base : Heap} {N : List Str} {n : Nat} {W : L2.St → XK} {X : Cx} {xs : List Str} {wk : Wfn}
/-- the lambda, held while the def runs -/
structure Held (G : Wd) (X : Cx) (pins : List (Addr × Obj)) (σ : L2.St) (H : Hp) (s : Shared) (params : Arguments) (body : Expr) (scope : Scope) (f c' : Addr) (pm ctv : Value) : Prop where
  inv : Inv X pins σ H s
  obj : s.heap.get? f = some (PySem.W.kla_obj "<lambda>" (X.env.qual ++ "<lambda>") params body scope (cloFrom X.env.cells scope.names []) pm c' ctv)
  un : H f = none
  fr : f ∉ frs X.stack
  code : H c' = some (LamX.CodeO c' (X.env.qual ++ "<lambda>"))
theorem s_lamc (c : Cok G P w base N (n + 2) W X) {cc PP : Addr} (g : LamC G X cc PP) (T : XsOk G xs) {st : Stmt} (wf : WfIs G xs wk st) {body : Expr} {scope : Scope} (L : LamX.LamS X.env.scope scope) (hg : Gl X wk.x) {fe : FE} {p lpos pos : Pos}
    (hbody : ∀ (A : Around) (outer : List Env) (s : Shared) (H : Hp) (E : XK) (f c' : Addr), Room n (A.deeper (LamX.lamEnv X scope s.heap.objs.size f c')) → PE (LamX.lamCx X A outer s H E scope f c') body (tD G fe (fun _ => E))) :
    PE X (.Call (.Name wk.x p) [.Lambda ⟨[], [], none, [], [], none, []⟩ body scope lpos] [] pos) (tD G (fun env S => evalW wk xs (fe env S)) W) := by
  obtain ⟨fd, F⟩ := wf.fn
  have hc := wf.chk
  unfold chkW at hc
  simp only [Bool.and_eq_true, Bool.not_eq_true', decide_eq_true_eq] at hc
  obtain ⟨⟨⟨⟨h0, h1⟩, h2⟩, h3⟩, h4⟩ := hc
  have sc := scB_ok h1
  obtain ⟨args, ha, hp⟩ := argB_ok h2
  have nd : (args.map (·.arg)).Nodup := by
    rw [hp]
    exact sc.nd.sublist (List.take_sublist _ _)
  have hbd : Binds G.K fd (wk.N.take 1) [] := FunD.bindsN F fun kV doc pm an cdv ct us hl => by
    rw [ha, ← hp]
    exact bindN nd (by rw [hl, hp])
  obtain ⟨oc, od, dV, kV, doc, pm0, an, cdv, ct, osl, rfl, lk, hcd, _, _⟩ := F.ex
  refine ⟨fun pins s σ H Q I h => ?_⟩
  obtain ⟨Z, A, env, S, hR, hE, hP⟩ := h
  refine wpAny_Call_Name_kw (ld_glob I hg (by rw [c.mg]; exact wf.glo) ?_ h3)
  refine PySem.W.callWith_K (h₀ := X.base) I.ok.mod.kin (by rw [c.K]; exact F.kp) ?_ (by rfl) (by rfl)
  show wpAny _ _ (spliced ((false, eval (.Lambda ⟨[], [], none, [], [], none, []⟩ body scope lpos) X.env) :: backTo pos (starEach [] X.env))) _ _ s
  refine Calls.spliced_cons (lam_codeF g I hR rfl (L.has I.ok) fun f c' pm' ctv H1 s' I1 R1 F1 hf hfn hfr hco => Calls.spliced_nil ⟨I1.kIn, ?_⟩)
  have hlen : (wk.N.take 1).length = 1 := by rw [List.length_take]; omega
  have body_run : Room (n + 1) (X.A.deeper (envOfC wk.x (defScope st) s'.heap.objs.size (He.fAd G.K (wk.x, none)) cdv)) → ∃ t, PSs (cxOf C8.CX0 X.prog X.w X.K X.mg X.base wk.N wk.x (defScope st) (He.fAd G.K (wk.x, none)) cdv X.A X.stack s' H1 C8.E0).nox (defBody st) t ∧ t { nx := fun _ H' => Q .non H', rt := Q } (L2.start wk.N [.ref f]) H1 := fun hr' => by
    refine word_run (κ := wk.ck st xs) (Kp := fun HZ => HZ c' = some (LamX.CodeO c' (X.env.qual ++ "<lambda>"))) (fe := fe) (σ := σ) ⟨c.K, c.mg, rfl, sc.nd, rfl, T.ins, by have := hr'.un; exact (by omega : (X.A.deeper (envOfC wk.x (defScope st) s'.heap.objs.size (He.fAd G.K (wk.x, none)) cdv)).units + 65 < cLine)⟩ rfl rfl T rfl rfl h4 (fun a a1 a2 a3 a4 => ?_) hco h0 R1 (hE.mono F1.le) (evalW_post (hP.mono (fun d S' _ k => Kon.fut k F1) fun _ _ h => h))
    intro W' pn xe E p1 p2 tk hW
    exact LamX.pe_act (CXg := C8.CX0) (Eg := C8.E0) (i := 0) I1 L hf hfn hfr bind0 tk hW hr' (fun A outer s H hr2 => hbody A outer s H E f c' hr2) a1 a2 a3 a4
  have rc : codeAny (model X.prog X.w) X.A (.call (.ref (He.fAd G.K (wk.x, none))) ⟨[.ref f], []⟩) (CR C8.CX0 X.stack X.prog X.w H1 s' Q C8.E0) s' := by
    refine LamX.run_ofS (N := wk.N) (ps := wk.N.take 1) (us := [.ref f]) (vs := [.ref f]) (by rw [c.K]; exact lk) (by rw [c.K]; exact hcd) sc (k := n + 1) c.room I1.env0 (hbd s' [.ref f] (by rw [← c.K]; exact I1.kIn) (by rw [hlen]; rfl)) (.cons rfl .nil) (by rw [hlen]; rfl) fun hr' => ?_
    obtain ⟨t', ht', hq'⟩ := body_run hr'
    exact ⟨t', ht'.nox, hq'⟩
  refine wpAny_call (codeAny_mono rc fun r s2 hq => ?_)
  cases r with
  | error e => exact (show False from hq).elim
  | ok fl =>
    cases fl with
    | ret u => exact I1.after hq
    | next => exact False.elim hq
    | brk => exact False.elim hq
    | cont => exact False.elim hq
end
theorem XsOk.gw {G G' : Wd} {xs : List Str} (hK : G'.K = G.K) (hM : G'.mg = G.mg) (t : XsOk G xs) : XsOk G' xs := by
  refine ⟨⟨?_, ?_⟩, ?_, ?_, ?_⟩
  · rw [hK, hM]; exact t.T.all
  · rw [hK, hM]; exact t.T.kit
  · rw [hK, hM]; exact t.no
  · rw [hK, hM]; exact t.ex
  · rw [hM]; exact t.ins
section
variable {κ : Ck} {cal : CallF} {G0 G : Wd} {P : Program} {w : World} {base : Heap} {KL n : Nat} {W : L2.St → XK} {X : Cx}
theorem Sok.lamb (s : Sok κ cal G0 G P w base KL (n + 2) W X) (hl : κ.lam = true) {scope : Scope} (L : LamX.LamS X.env.scope scope) {A : Around} {outer : List Env} {sh : Shared} {H : Hp} {E : XK} {f c' : Addr} (hr : Room n (A.deeper (LamX.lamEnv X scope sh.heap.objs.size f c'))) :
    Sok (κ.lamb scope) cal G0 G P w base KL n (fun _ => E) (LamX.lamCx X A outer sh H E scope f c') where
  cok := ⟨s.cok.prog, s.cok.wo, s.cok.base, s.cok.K, s.cok.mg, s.cok.nm, s.cok.nd, rfl, hr, takes_of rfl rfl rfl rfl, passes_of rfl⟩
  md := s.md
  sup := s.sup
  sc := rfl
  top := fun x => by
    show false = (scope.names.lookup x == some .cell)
    cases h : scope.names.lookup x with
    | none => rfl
    | some k =>
      have := (L.own _ (PySem.mem_of_lookup h)).2
      cases k <;> first | rfl | exact absurd rfl this
  gen := trivial
  lam := fun h => by cases h
  ll := fun h => by cases h
  rm := by
    have := s.ll hl
    show KL + 0 + 1 ≤ n
    omega
end
/-! ### raise C(e), C with an own __init__ -/
section
variable {G : Wd} {P : Program} {w : World} {base : Heap} {N : List Str} {n : Nat} {W : XK} {X : Cx}
theorem fut_new {Z H : Hp} {A : List Addr} {p : Addr} {o : HO} (h : H p = none) : Fut H Z A (upd H p o) Z A :=
  ⟨fun b u e _ _ => upd_grow h b u e, fun b u e => ⟨u, upd_grow h b u e⟩, fun _ _ e => e, fun b u e => .inl ⟨u, e⟩, ⟨[], by simp⟩, fun _ m => .inl m, tabG_grow h⟩
theorem x_raisA (c : Cok G P w base N (n + 1) (kW W) X) {x f : Str} (h : IniIs G P w base n x f) (hg : Gl X x) {e : Expr} {fe : FE} (he : PE X e (tD G fe (kW W))) (hs : noStar e = true) {p pos pos' : Pos} :
    PS X (.Raise (some (.Call (.Name x p) [e] [] pos)) none pos') (tS G (fun env S => (fe env S).bind fun d S1 => .exc ⟨x, some (f, d)⟩ S1) W) := by
  obtain ⟨C, fI, fd, ps, T, iC, tI, F1, hb, gl, db⟩ := h.ex
  refine PS.imp (ps_raise c.calm c.tk (pmk_oex (ds := []) (dvs := []) (by rw [c.K]; exact T) (by rw [c.K]; exact iC) (by rw [c.K]; exact tI) (by rw [c.prog, c.wo, c.base, c.K, c.mg]; exact F1) c.room (by rw [c.K]; exact hb) .nil (fun pins σ H s e s' I h => by
    obtain ⟨_, _, _, _, _, _, _, _, _, _, _, _, z⟩ := h
    exact z.elim) hg (by rw [c.mg]; exact gl) (pa_cons he pa_nil (star_cons hs _ _)) db (star_cons hs _ _) rfl)) fun D σ H ⟨Z, A, env, S, hR, hE, hP⟩ => ?_
  exact step hR hE hP fun v d S1 Z1 A1 H1 f1 R1 E1 r1 P1 => ⟨by simp, fun a na => ⟨a, v, rfl, upd_same, fun dx nx ne => ⟨rfl, dx, [(f, v)], upd_same, by rw [upd_ne ne, upd_same], by rw [upd_ne ne] at nx; exact nx, by
    have nx' : H1 dx = none := by rw [upd_ne ne] at nx; exact nx
    have e : upd (del (upd (upd (upd H1 a (exo a C none)) dx (exd dx [(f, v)])) a (exo a C (some dx))) a) dx (.xd [(f, v)]) = upd H1 dx (.xd [(f, v)]) := by
      funext b
      by_cases hb : b = dx
      · rw [hb, upd_same, upd_same]
      · rw [upd_ne hb, upd_ne hb]
        by_cases hba : b = a
        · rw [hba, del_same, na]
        · rw [del_ne hba, upd_ne hba, upd_ne hb, upd_ne hba]
    rw [e]
    exact (show KonX G H1 Z1 A1 ⟨x, some (f, d)⟩ S1 (kW W σ) from P1) (.ref C) (some dx) _ Z1 A1 (fut_new nx') (R1.grow (upd_grow nx')) ⟨C, rfl, gl, dx, [(f, v)], v, rfl, upd_same, by simp [List.lookup], r1⟩⟩⟩⟩
end
end Mp
set_option maxHeartbeats 4000000
/-! Mp.Chk4: the check of expressions is sound: the theorem. -/
namespace Mp
open PySem PySem.Spec PyProof.Rows L2
section
variable {κ : Ck} {cal : CallF} {G0 G : Wd} {P : Program} {w : World} {base : Heap} {KL n : Nat} {W : L2.St → XK} {X : Cx} {e : Expr}
theorem blkB_ok {scope : Scope} {own : List Nat} {t : Tg} (h : blkB κ scope own t = true) : BlkOk κ.N κ.sc scope (ownOf κ own) ∧ ∀ i ∈ slots t, i ∈ (ownOf κ own).map (·.2) := by
  unfold blkB at h
  simp only [Bool.and_eq_true, List.all_eq_true] at h
  refine ⟨blkOk_by h.1, fun i hi => ?_⟩
  rw [ownOf_snd]
  simpa using h.2 i hi
theorem genB_ok {scope : Scope} (h : genB κ scope = true) : (∀ y ∈ scope.names, y.2 ≠ .cell) ∧ scope.names.lookup (".0" : Str) = some NameKind.local ∧ (".0" : Str) ∉ κ.N ∧ scope.isCoroutine = false ∧ ∃ d, κ.gq = d + 1 ∧ d ≤ 1 ∧ (κ.gen scope).gq = d := by
  unfold genB at h
  simp only [Bool.and_eq_true, Bool.or_eq_true, Bool.not_eq_true', decide_eq_true_eq, List.all_eq_true, decide_eq_false_iff_not] at h
  obtain ⟨⟨⟨⟨h1, h2⟩, h3⟩, h4⟩, h5⟩ := h
  refine ⟨h1, h2, fun m => ?_, h4, ?_⟩
  · have : κ.N.contains (".0" : Str) = true := by simpa using m
    rw [this] at h3
    cases h3
  · rcases h5 with h5 | h5
    · exact ⟨0, h5, by omega, by show κ.gq - 1 = 0; rw [h5]⟩
    · exact ⟨1, h5, by omega, by show κ.gq - 1 = 1; rw [h5]⟩
theorem anyNm_bn (s : Sok κ cal G0 G P w base KL n W X) {all : Bool} (h : glB κ.sc (anyNm all) = true) : Gl X (anyNm all) ∧ X.mg (anyNm all) = none := by
  refine ⟨by show X.env.scope.names.lookup _ = _; rw [s.sc]; exact glB_ok h, by rw [s.cok.mg, s.sup.mg]; exact s.md.blt _ (by cases all <;> decide)⟩
mutual
theorem chkE_ok {cal : CallF} {G0 : Wd} {P : Program} {w : World} {base : Heap} {KL : Nat} : ∀ (m : E) {κ : Ck} {e : Expr} {G : Wd} {n : Nat} {W : L2.St → XK} {X : Cx}, chkE m κ e = true → Sok κ cal G0 G P w base KL n W X → PE X e (tD G (evalE cal m) W) ∧ PT X e (tT G (testF (evalE cal m)) W)
  | .var i, κ, e, G, n, W, X, h, s => by
    simp only [chkE] at h
    unfold cVar at h
    split at h
    · unfold varB at h
      simp only [Bool.and_eq_true, decide_eq_true_eq] at h
      obtain ⟨⟨h1, h2⟩, h3⟩ := h
      exact px s.cok (s_var s.cok h1 (by rw [s.sc]; exact visB_ok h2) (nmB_ok h3).1 (nmB_ok h3).2 cal) rfl fun _ => rfl
    · cases h
  | .con d, κ, e, G, n, W, X, h, s => by
    simp only [chkE] at h
    unfold cCon at h
    split at h
    · exact px s.cok (con_ok h) (by funext env S; simp only [evalE]) fun _ => rfl
    · cases h
  | .edict, κ, e, G, n, W, X, h, s => by
    simp only [chkE] at h
    unfold cEd at h
    split at h
    · exact px s.cok s_edict (by funext env S; simp only [evalE]) fun _ => rfl
    · cases h
  | .glo x d, κ, e, G, n, W, X, h, s => by
    simp only [chkE] at h
    unfold cGlo at h
    split at h
    · simp only [Bool.and_eq_true, decide_eq_true_eq] at h
      obtain ⟨⟨h1, h2⟩, h3⟩ := h
      subst h1
      rcases Bool.or_eq_true_iff.mp h3 with h3 | h3
      · unfold gloB at h3
        split at h3
        · rename_i d' hc
          rw [← sameD_eq h3] at hc
          exact px s.cok (s_glo s hc (glB_ok h2)) (by funext env S; simp only [evalE]) fun _ => rfl
        · cases h3
      · rw [Bool.and_eq_true] at h3
        obtain ⟨f, hf⟩ := List.getElem?_of_mem (by simpa using h3.2)
        rw [sameD_eq h3.1]
        exact px s.cok (s_fnv s hf (glB_ok h2)) (by funext env S; simp only [evalE]) fun _ => rfl
    · cases h
  | .bin o a b, κ, e, G, n, W, X, h, s => by
    simp only [chkE] at h
    unfold cBin at h
    split at h
    · simp only [Bool.and_eq_true, decide_eq_true_eq] at h
      obtain ⟨⟨h1, h2⟩, h3⟩ := h
      subst h1
      exact px s.cok (s_bin s.cok o (chkE_ok a h2 s).1 (chkE_ok b h3 s).1) (by funext env S; simp only [evalE]) fun _ => rfl
    · cases h
  | .neg a, κ, e, G, n, W, X, h, s => by
    simp only [chkE] at h
    unfold cNeg at h
    split at h
    · exact px s.cok (s_neg (chkE_ok a h s).1) (by funext env S; simp only [evalE]) fun _ => rfl
    · cases h
  | .cmp o a b, κ, e, G, n, W, X, h, s => by
    simp only [chkE] at h
    unfold cCmp at h
    split at h
    · simp only [Bool.and_eq_true, decide_eq_true_eq, Bool.not_eq_true'] at h
      obtain ⟨⟨⟨h1, h4⟩, h2⟩, h3⟩ := h
      subst h1
      have e1 : evalE cal (.cmp o a b) = fun env S => (evalE cal a env S).bind fun x S1 => (evalE cal b env S1).bind fun y S2 => opt ((cmpD o (rd S2 x) (rd S2 y)).map .bool) S2 := by
        funext env S
        simp only [evalE]
      rw [e1]
      exact ⟨s_cmp s.cok o (chkE_ok a h2 s).1 (chkE_ok b h3 s).1 h4, t_cmp s.cok o (chkE_ok a h2 s).1 (chkE_ok b h3 s).1 h4⟩
    · cases h
  | .chain o p a b c, κ, e, G, n, W, X, h, s => by
    simp only [chkE] at h
    unfold cChain at h
    split at h
    · simp only [Bool.and_eq_true, decide_eq_true_eq, Bool.not_eq_true'] at h
      obtain ⟨⟨⟨⟨⟨h1, h5⟩, h6⟩, h2⟩, h3⟩, h4⟩ := h
      subst h1 h5
      have e1 : evalE cal (.chain o p a b c) = chainD o p (evalE cal a) (evalE cal b) (evalE cal c) := by
        funext env S
        simp only [evalE, chainD]
      rw [e1]
      exact ⟨s_chain s.cok o p (chkE_ok a h2 s).1 (chkE_ok b h3 s).1 (chkE_ok c h4 s).1 h6, t_chain s.cok o p (chkE_ok a h2 s).1 (chkE_ok b h3 s).1 (chkE_ok c h4 s).1 h6⟩
    · cases h
  | .and a b, κ, e, G, n, W, X, h, s => by
    simp only [chkE] at h
    unfold cAnd at h
    have e1 : evalE cal (.and a b) = andD (evalE cal a) (evalE cal b) := by
      funext env S
      simp only [evalE, andD]
    rw [e1]
    split at h
    · simp only [Bool.and_eq_true] at h
      obtain ⟨h1, h2⟩ := h
      have ha := chkE_ok a h1 s
      split at h2
      · have hb := chkE_ok b h2 s
        exact ⟨s_and s.cok ha.1 (pe_one hb.1), t_and ha.2 (pw_and1 hb.2).pt⟩
      · have hb := chkE_ok b h2 s
        exact ⟨s_and s.cok ha.1 hb.1, t_and ha.2 hb.2⟩
    · cases h
  | .or a b, κ, e, G, n, W, X, h, s => by
    simp only [chkE] at h
    unfold cOr at h
    have e1 : evalE cal (.or a b) = orD (evalE cal a) (evalE cal b) := by
      funext env S
      simp only [evalE, orD]
    rw [e1]
    split at h
    · simp only [Bool.and_eq_true] at h
      obtain ⟨h1, h2⟩ := h
      have ha := chkE_ok a h1 s
      split at h2
      · have hb := chkE_ok b h2 s
        exact ⟨s_or s.cok ha.1 (pe_one hb.1), t_or ha.2 (pw_or1 hb.2).pt⟩
      · have hb := chkE_ok b h2 s
        exact ⟨s_or s.cok ha.1 hb.1, t_or ha.2 hb.2⟩
    · cases h
  | .not a, κ, e, G, n, W, X, h, s => by
    simp only [chkE] at h
    unfold cNot at h
    split at h
    · have e1 : evalE cal (.not a) = notD (evalE cal a) := by
        funext env S
        simp only [evalE, notD]
      rw [e1]
      have ha := chkE_ok a h s
      exact ⟨s_not s.cok ha.1, t_not ha.2⟩
    · cases h
  | .ite c a b, κ, e, G, n, W, X, h, s => by
    simp only [chkE] at h
    unfold cIte at h
    split at h
    · simp only [Bool.and_eq_true] at h
      obtain ⟨⟨h1, h2⟩, h3⟩ := h
      have e1 : evalE cal (.ite c a b) = iteD (evalE cal c) (evalE cal a) (evalE cal b) := by
        funext env S
        simp only [evalE, iteD]
      rw [e1]
      have hc := chkE_ok c h1 s
      have ha := chkE_ok a h2 s
      have hb := chkE_ok b h3 s
      exact ⟨s_ite hc.2 ha.1 hb.1, t_ite hc.2 ha.2 hb.2⟩
    · cases h
  | .tup es, κ, e, G, n, W, X, h, s => by
    simp only [chkE] at h
    unfold cTup at h
    split at h
    · exact px s.cok (s_tup (chkEs_ok es h s).pa) (by funext env S; simp only [evalE]) fun _ => rfl
    · cases h
  | .lst mu es, κ, e, G, n, W, X, h, s => by
    simp only [chkE] at h
    unfold cLst at h
    split at h
    · exact px s.cok (s_lst mu (chkEs_ok es h s).pa) (by funext env S; simp only [evalE]) fun _ => rfl
    · cases h
  | .ix a b, κ, e, G, n, W, X, h, s => by
    simp only [chkE] at h
    unfold cIx at h
    split at h
    · simp only [Bool.and_eq_true] at h
      obtain ⟨⟨h1, h2⟩, h3⟩ := h
      exact px s.cok (s_ix s.cok (chkE_ok a h2 s).1 (chkE_ok b h3 s).1 (plainB_ok h1)) (by funext env S; simp only [evalE]) fun _ => rfl
    · cases h
  | .slL a lo, κ, e, G, n, W, X, h, s => by
    simp only [chkE] at h
    unfold cSlL at h
    split at h
    · simp only [Bool.and_eq_true] at h
      exact px s.cok (s_slL s.cok (chkE_ok a h.1 s).1 (chkE_ok lo h.2 s).1) (by funext env S; simp only [evalE]) fun _ => rfl
    · cases h
  | .slH a hi, κ, e, G, n, W, X, h, s => by
    simp only [chkE] at h
    unfold cSlH at h
    split at h
    · simp only [Bool.and_eq_true] at h
      exact px s.cok (s_slH s.cok (chkE_ok a h.1 s).1 (chkE_ok hi h.2 s).1) (by funext env S; simp only [evalE]) fun _ => rfl
    · cases h
  | .slB a lo hi, κ, e, G, n, W, X, h, s => by
    simp only [chkE] at h
    unfold cSlB at h
    split at h
    · simp only [Bool.and_eq_true] at h
      exact px s.cok (s_slB s.cok (chkE_ok a h.1.1 s).1 (chkE_ok lo h.1.2 s).1 (chkE_ok hi h.2 s).1) (by funext env S; simp only [evalE]) fun _ => rfl
    · cases h
  | .rev a, κ, e, G, n, W, X, h, s => by
    simp only [chkE] at h
    unfold cRev at h
    split at h
    · exact px s.cok (s_rev s.cok.K (chkE_ok a h s).1) (by funext env S; simp only [evalE]; rfl) fun _ => rfl
    · cases h
  | .call f es, κ, e, G, n, W, X, h, s => by
    simp only [chkE] at h
    unfold cCall at h
    split at h
    · simp only [Bool.and_eq_true, decide_eq_true_eq] at h
      obtain ⟨⟨h1, h2⟩, h3⟩ := h
      have he := chkEs_ok es h3 s
      exact px s.cok (s_call s h1 (glB_ok h2) he.pa he.star) (by funext env S; simp only [evalE]) fun _ => rfl
    · cases h
  | .prim p es, κ, e, G, n, W, X, h, s => by
    simp only [chkE] at h
    unfold cPrim at h
    split at h
    · rename_i xs hx
      obtain ⟨h1, h2⟩ := prim_ok s hx (chkEs_ok es h s)
      exact px s.cok h1 rfl fun _ => callB_ok h2 _
    · cases h
  | .meth m o es, κ, e, G, n, W, X, h, s => by
    simp only [chkE] at h
    unfold cMeth at h
    split at h
    · rename_i x nm apos xs cpos
      simp only [Bool.and_eq_true, decide_eq_true_eq] at h
      obtain ⟨⟨⟨⟨⟨⟨h1, h2⟩, h3⟩, h4⟩, h5⟩, h6⟩, h7⟩ := h
      subst h1
      have ho := (chkE_ok o h3 s).1
      have he := chkEs_ok es h4 s
      have m1 : m ≠ .index := fun z => by subst z; cases h2
      have m2 : m ≠ .count := fun z => by subst z; cases h2
      have e1 : evalE cal (.meth m o es) = methF m (evalE cal o) (evalEs cal es) := by
        funext env S
        simp only [evalE, methF]
      cases xs with
      | nil =>
        cases es with
        | nil =>
          refine px s.cok (s_meth0 m1 m2 ho h5 h6) ?_ fun _ => rfl
          rw [e1]
          congr 1
        | cons _ _ => exact he.elim
      | cons y ys => exact px s.cok (s_meth m1 m2 ho he.pa he.star h7 h5 h6) e1 fun _ => rfl
    · cases h
  | .comp mu own t it hi c m, κ, e, G, n, W, X, h, s => by
    simp only [chkE] at h
    unfold cComp at h
    split at h
    · rename_i elt tg iter ifs scope pos
      simp only [Bool.and_eq_true] at h
      obtain ⟨⟨⟨⟨⟨h1, h2⟩, h3⟩, h4⟩, h5⟩, h6⟩ := h
      obtain ⟨ok, hown⟩ := blkB_ok h1
      have hi' := chkIt_ok it h3 s
      have sb := fun (sh : Shared) (H : Hp) (C : Addr) (cl : List (Str × Addr)) (fp : List Addr) => s.blk sh H scope C cl fp
      have e1 : evalE cal (.comp mu own t it hi c m) = compF mu ((ownOf κ own).map (·.2)) t (evalIt cal it) (ifF hi (evalE cal c)) (evalE cal m) := by
        funext env S
        rw [ownOf_snd]
        simp only [evalE, compF]
        rfl
      refine px s.cok (s_comp s.cok mu hi' (by rw [s.cok.nm, s.sc]; exact ok) (fun sh H C cl fp => chkT_ok (sb sh H C cl fp) t tg h4) (fun sh H C cl fp => ?_) (fun sh H C cl fp => (chkE_ok m h6 (sb sh H C cl fp)).1) (fun x => noSet_ok h2 _ x) hown) e1 fun _ => rfl
      unfold ifB at h5
      split at h5
      · exact ts_nil
      · exact ts_one (chkE_ok c h5 (sb sh H C cl fp)).2
      · cases h5
    · cases h
  | .comp2 mu own t it hi c t1 it1 hi1 c1 m, κ, e, G, n, W, X, h, s => by
    simp only [chkE] at h
    unfold cComp2 at h
    split at h
    · rename_i elt tg iter ifs tg1 iter1 ifs1 scope pos
      simp only [Bool.and_eq_true] at h
      obtain ⟨⟨⟨⟨⟨⟨⟨⟨⟨⟨h1, h1'⟩, h2⟩, h2'⟩, h3⟩, h4⟩, h5⟩, h3'⟩, h4'⟩, h5'⟩, h6⟩ := h
      obtain ⟨ok, hown⟩ := blkB_ok h1
      obtain ⟨_, hown1⟩ := blkB_ok h1'
      have hi' := chkIt_ok it h3 s
      have sb := fun (sh : Shared) (H : Hp) (C : Addr) (cl : List (Str × Addr)) (fp : List Addr) => s.blk sh H scope C cl fp
      have e1 : evalE cal (.comp2 mu own t it hi c t1 it1 hi1 c1 m) = compF2 mu ((ownOf κ own).map (·.2)) t (evalIt cal it) (ifF hi (evalE cal c)) t1 (evalIt cal it1) (ifF hi1 (evalE cal c1)) (evalE cal m) := by
        funext env S
        rw [ownOf_snd]
        simp only [evalE, compF2]
        rfl
      refine px s.cok (s_comp2 s.cok mu hi' (by rw [s.cok.nm, s.sc]; exact ok) (fun sh H C cl fp => chkT_ok (sb sh H C cl fp) t tg h4) (fun sh H C cl fp => ?_) (fun sh H C cl fp => chkIt_ok it1 h3' (sb sh H C cl fp)) (fun sh H C cl fp => chkT_ok (sb sh H C cl fp) t1 tg1 h4') (fun sh H C cl fp => ?_) (fun sh H C cl fp => (chkE_ok m h6 (sb sh H C cl fp)).1) (fun x => noSet_ok h2 _ x) (fun env x => noSet_ok h2' _ x) hown hown1) e1 fun _ => rfl
      · unfold ifB at h5
        split at h5
        · exact ts_nil
        · exact ts_one (chkE_ok c h5 (sb sh H C cl fp)).2
        · cases h5
      · unfold ifB at h5'
        split at h5'
        · exact ts_nil
        · exact ts_one (chkE_ok c1 h5' (sb sh H C cl fp)).2
        · cases h5'
    · cases h
  | .gen all own t it hi c m, κ, e, G, n, W, X, h, s => by
    simp only [chkE] at h
    unfold cGen at h
    split at h
    · rename_i f p elt tg iter ifs scope gpos pos
      simp only [Bool.and_eq_true, decide_eq_true_eq] at h
      obtain ⟨⟨⟨⟨⟨⟨⟨⟨h0, hg⟩, hG⟩, h1⟩, h2⟩, h3⟩, h4⟩, h5⟩, h6⟩ := h
      subst h0
      obtain ⟨ok, hown⟩ := blkB_ok h1
      obtain ⟨g1, g2, g3, g4, d, g5, g6, g7⟩ := genB_ok hG
      obtain ⟨b1, b2⟩ := anyNm_bn s hg
      obtain ⟨nn, hn⟩ := s.n1
      subst hn
      have hi' := chkIt_ok it h3 s
      have e1 : evalE cal (.gen all own t it hi c m) = genF all ((ownOf κ own).map (·.2)) t (evalIt cal it) (ifF hi (evalE cal c)) (evalE cal m) := by
        funext env S
        rw [ownOf_snd]
        simp only [evalE, genF]
        rfl
      refine px s.cok (s_gen s.cok all g6 (by rw [← g5]; exact s.gen) b1 b2 hi' (by rw [s.cok.nm, s.sc]; exact ok) g1 g2 (by rw [s.cok.nm]; exact g3) g4 (fun v => noFold_ok h2 _ v) hown fun G' sh H code fp hS hA => ?_) e1 fun _ => rfl
      have sb := s.gen1 g5 hS sh H scope _ code fp hA
      have ek : κ.gen scope = { κ with sc := scope, top := some scope, gq := d, lam := false } := by
        unfold Ck.gen
        rw [show κ.gq - 1 = d by omega]
      rw [ek] at h4 h5 h6
      refine ⟨chkT_ok sb t tg h4, ?_, (chkE_ok m h6 sb).1⟩
      unfold ifB at h5
      split at h5
      · exact ts_nil
      · exact ts_one (chkE_ok c h5 sb).2
      · cases h5
    · cases h
  | .gen2 all own t it hi c t1 it1 hi1 c1 m, κ, e, G, n, W, X, h, s => by
    simp only [chkE] at h
    unfold cGen2 at h
    split at h
    · rename_i f p elt tg iter ifs tg1 iter1 ifs1 scope gpos pos
      simp only [Bool.and_eq_true, decide_eq_true_eq] at h
      obtain ⟨⟨⟨⟨⟨⟨⟨⟨⟨⟨⟨⟨⟨h0, hg⟩, hG⟩, h1⟩, h1'⟩, h2⟩, h2'⟩, h3⟩, h4⟩, h5⟩, h3'⟩, h4'⟩, h5'⟩, h6⟩ := h
      subst h0
      obtain ⟨ok, hown⟩ := blkB_ok h1
      obtain ⟨_, hown1⟩ := blkB_ok h1'
      obtain ⟨g1, g2, g3, g4, d, g5, g6, g7⟩ := genB_ok hG
      obtain ⟨b1, b2⟩ := anyNm_bn s hg
      obtain ⟨nn, hn⟩ := s.n1
      subst hn
      have hi' := chkIt_ok it h3 s
      have e1 : evalE cal (.gen2 all own t it hi c t1 it1 hi1 c1 m) = genF2 all ((ownOf κ own).map (·.2)) t (evalIt cal it) (ifF hi (evalE cal c)) (evalIt cal it1) t1 (ifF hi1 (evalE cal c1)) (evalE cal m) := by
        funext env S
        rw [ownOf_snd]
        simp only [evalE, genF2]
        rfl
      refine px s.cok (s_gen2 s.cok all g6 (by rw [← g5]; exact s.gen) b1 b2 hi' (by rw [s.cok.nm, s.sc]; exact ok) g1 g2 (by rw [s.cok.nm]; exact g3) g4 (fun v => noFold_ok h2 _ v) hown hown1 (fun env x => noSet_ok h2' _ x) fun G' sh H code fp hS hA => ?_) e1 fun _ => rfl
      have sb := s.gen1 g5 hS sh H scope _ code fp hA
      have ek : κ.gen scope = { κ with sc := scope, top := some scope, gq := d, lam := false } := by
        unfold Ck.gen
        rw [show κ.gq - 1 = d by omega]
      rw [ek] at h4 h5 h6 h3' h4' h5'
      refine ⟨chkT_ok sb t tg h4, ?_, chkIt_ok it1 h3' sb, chkT_ok sb t1 tg1 h4', ?_, (chkE_ok m h6 sb).1⟩
      · unfold ifB at h5
        split at h5
        · exact ts_nil
        · exact ts_one (chkE_ok c h5 sb).2
        · cases h5
      · unfold ifB at h5'
        split at h5'
        · exact ts_nil
        · exact ts_one (chkE_ok c1 h5' sb).2
        · cases h5'
    · cases h
  | .frz i, κ, e, G, n, W, X, h, s => by
    simp only [chkE] at h
    unfold cVar at h
    split at h
    · unfold varB at h
      simp only [Bool.and_eq_true, decide_eq_true_eq] at h
      obtain ⟨⟨h1, h2⟩, h3⟩ := h
      exact px s.cok (s_frz s.cok h1 (by rw [s.sc]; exact visB_ok h2) (nmB_ok h3).1 (nmB_ok h3).2) rfl fun _ => rfl
    · cases h
  | .lamc wk xs m, κ, e, G, n, W, X, h, s => by
    simp only [chkE] at h
    unfold cLam at h
    split at h
    · rename_i x p body scope lpos pos
      simp only [Bool.and_eq_true, decide_eq_true_eq, List.any_eq_true] at h
      obtain ⟨⟨⟨⟨⟨⟨h1, h2⟩, h3⟩, h4⟩, h5⟩, ⟨pr, hm, h6, h7⟩⟩, h8⟩ := h
      subst h1 h5
      obtain ⟨cc, PP, g⟩ := s.lam h2
      obtain ⟨nn, rfl⟩ : ∃ nn, n = nn + 2 := ⟨n - 2, by have := s.ll h2; omega⟩
      have L : LamX.LamS X.env.scope scope := LamX.lamS_by (by rw [s.sc]; exact h4)
      obtain ⟨hfn, hgl⟩ := s.md.wf pr hm
      rw [h6] at hfn hgl
      have e1 : evalE cal (.lamc wk κ.xs.xs m) = fun env S => evalW wk κ.xs.xs (evalE cal m env S) := by
        funext env S
        simp only [evalE]
      rw [e1]
      exact px s.cok (s_lamc s.cok g (s.md.xok.gw s.sup.K s.sup.mg) ⟨by rw [s.sup.K]; exact hfn, by rw [s.sup.mg, s.sup.K]; exact hgl, h7⟩ L (by show X.env.scope.names.lookup _ = _; rw [s.sc]; exact glB_ok h3) fun A outer sh H E f c' hr => (chkE_ok m h8 (s.lamb h2 L hr)).1) rfl fun _ => rfl
    · cases h
  | .dcomp own t it k m, κ, e, G, n, W, X, h, s => by
    simp only [chkE] at h
    unfold cDcomp at h
    split at h
    · rename_i kx vx tg iter scope pos
      simp only [Bool.and_eq_true] at h
      obtain ⟨⟨⟨⟨⟨h1, h2⟩, h3⟩, h4⟩, h5⟩, h6⟩ := h
      obtain ⟨ok, hown⟩ := blkB_ok h1
      have sb := fun (sh : Shared) (H : Hp) (C : Addr) (cl : List (Str × Addr)) (fp : List Addr) => s.blk sh H scope C cl fp
      have e1 : evalE cal (.dcomp own t it k m) = dcompF ((ownOf κ own).map (·.2)) t (evalIt cal it) (evalE cal k) (evalE cal m) := by
        funext env S
        rw [ownOf_snd]
        simp only [evalE, dcompF]
        rfl
      exact px s.cok (s_dcomp s.cok s.wd (chkIt_ok it h3 s) (by rw [s.cok.nm, s.sc]; exact ok) (fun sh H C cl fp => chkT_ok (sb sh H C cl fp) t tg h4) (fun sh H C cl fp => (chkE_ok k h5 (sb sh H C cl fp)).1) (fun sh H C cl fp => (chkE_ok m h6 (sb sh H C cl fp)).1) (fun x => noSet_ok h2 _ x) hown) e1 fun _ => rfl
    · cases h
  | .dpairs a, κ, e, G, n, W, X, h, s => by
    simp only [chkE] at h
    unfold cDpairs at h
    split at h
    · simp only [Bool.and_eq_true, decide_eq_true_eq] at h
      obtain ⟨⟨⟨h1, h2⟩, h3⟩, h4⟩ := h
      subst h1
      exact px s.cok (s_dpairs s.cok s.wd (s.bn (glB_ok h2) (by decide) PySem.Pv.boot_dict) (chkE_ok a h4 s).1 h3) (by funext env S; simp only [evalE, dpairsF]) fun _ => rfl
    · cases h
  | .dix a b, κ, e, G, n, W, X, h, s => by
    simp only [chkE] at h
    unfold cIx at h
    split at h
    · simp only [Bool.and_eq_true] at h
      obtain ⟨⟨h1, h2⟩, h3⟩ := h
      exact px s.cok (s_dix s.cok s.wd (chkE_ok a h2 s).1 (chkE_ok b h3 s).1 (plainB_ok h1)) (by funext env S; simp only [evalE]) fun _ => rfl
    · cases h
  | .dgetD a b c, κ, e, G, n, W, X, h, s => by
    simp only [chkE] at h
    unfold cDgetD at h
    split at h
    · simp only [Bool.and_eq_true, decide_eq_true_eq] at h
      obtain ⟨⟨⟨⟨⟨⟨⟨h1, h2⟩, h3⟩, h4⟩, h5⟩, h6⟩, h7⟩, h8⟩ := h
      subst h1
      exact px s.cok (s_dgetD s.cok s.wd (chkE_ok a h2 s).1 (chkE_ok b h3 s).1 (chkE_ok c h4 s).1 h5 h8 h6 h7) (by funext env S; simp only [evalE]) fun _ => rfl
    · cases h
  | .din neg a b, κ, e, G, n, W, X, h, s => by
    simp only [chkE] at h
    unfold cDin at h
    split at h
    · simp only [Bool.and_eq_true, decide_eq_true_eq, Bool.not_eq_true'] at h
      obtain ⟨⟨⟨h1, h2⟩, h3⟩, h4⟩ := h
      subst h1
      have e1 : evalE cal (.din neg a b) = dinF neg (evalE cal a) (evalE cal b) := by
        funext env S
        simp only [evalE, dinF]
      rw [e1]
      exact ⟨s_din s.cok s.wd neg (chkE_ok a h3 s).1 (chkE_ok b h4 s).1 h2, t_din s.cok s.wd neg (chkE_ok a h3 s).1 (chkE_ok b h4 s).1 h2⟩
    · cases h
  | .ktup es, κ, e, G, n, W, X, h, s => by
    simp only [chkE] at h
    unfold cTup at h
    split at h
    · exact px s.cok (s_ktup (chkEs_ok es h s).pa) (by funext env S; simp only [evalE]) fun _ => rfl
    · cases h
  | .ktuple a, κ, e, G, n, W, X, h, s => by
    simp only [chkE] at h
    unfold cKtuple at h
    split at h
    · simp only [Bool.and_eq_true, decide_eq_true_eq] at h
      obtain ⟨⟨⟨h1, h2⟩, h3⟩, h4⟩ := h
      subst h1
      exact px s.cok (s_ktuple s.cok.K (s.bn (glB_ok h2) (by decide) PySem.Pv.boot_tuple) (chkE_ok a h4 s).1 h3) (by funext env S; simp only [evalE, ktuF] <;> rfl) fun _ => rfl
    · cases h
  | .callv gs i es, κ, e, G, n, W, X, h, s => by
    simp only [chkE] at h
    unfold cCallv at h
    split at h
    · unfold varB at h
      simp only [Bool.and_eq_true, decide_eq_true_eq] at h
      obtain ⟨⟨h0, ⟨⟨h1, h2⟩, h3⟩⟩, h4⟩ := h
      subst h0
      have he := chkEs_ok es h4 s
      exact px s.cok (s_callV s h1 (by rw [s.sc]; exact visB_ok h2) (nmB_ok h3).1 (nmB_ok h3).2 he.pa he.star) (by funext env S; simp only [evalE, callvF] <;> rfl) fun _ => rfl
    · cases h
theorem chkEs_ok {cal : CallF} {G0 : Wd} {P : Program} {w : World} {base : Heap} {KL : Nat} : ∀ (ms : Es) {κ : Ck} {es : List Expr} {G : Wd} {n : Nat} {W : L2.St → XK} {X : Cx}, chkEs ms κ es = true → Sok κ cal G0 G P w base KL n W X → Each X G cal W ms es
  | .nil, κ, es, G, n, W, X, h, s => by
    simp only [chkEs] at h
    cases es with
    | nil => trivial
    | cons _ _ => cases h
  | .cons m ms, κ, es, G, n, W, X, h, s => by
    simp only [chkEs] at h
    unfold cArgs at h
    split at h
    · simp only [Bool.and_eq_true] at h
      exact ⟨(chkE_ok m h.1.2 s).1, h.1.1, chkEs_ok ms h.2 s⟩
    · cases h
theorem chkIt_ok {cal : CallF} {G0 : Wd} {P : Program} {w : World} {base : Heap} {KL : Nat} : ∀ (it : It) {κ : Ck} {tg e : Expr} {G : Wd} {n : Nat} {W : L2.St → XK} {X : Cx}, chkIt it κ tg e = true → Sok κ cal G0 G P w base KL n W X → PI X tg e (tI G (evalIt cal it) W)
  | .e a, κ, tg, e, G, n, W, X, h, s => by
    simp only [chkIt] at h
    have e1 : evalIt cal (.e a) = fun env S => (evalE cal a env S).bind fun x S1 => opt (itv x S1) S1 := by
      funext env S
      simp only [evalIt]
    rw [e1]
    exact i_e s.cok (chkE_ok a h s).1
  | .r1 a, κ, tg, e, G, n, W, X, h, s => by
    simp only [chkIt] at h
    unfold cR1 at h
    split at h
    · simp only [Bool.and_eq_true, decide_eq_true_eq] at h
      obtain ⟨⟨⟨h1, h2⟩, h3⟩, h4⟩ := h
      subst h1
      have e1 : evalIt cal (.r1 a) = fun env S => (evalE cal a env S).bind fun x S1 => opt ((asInt x).bind fun i => if inRng i then some (.items (rngL 0 i)) else none) S1 := by
        funext env S
        simp only [evalIt]
      rw [e1]
      exact i_r1 (s.bn (glB_ok h2) (by decide) boot_range) (chkE_ok a h4 s).1 h3
    · cases h
  | .r2 a b, κ, tg, e, G, n, W, X, h, s => by
    simp only [chkIt] at h
    unfold cR2 at h
    split at h
    · simp only [Bool.and_eq_true, decide_eq_true_eq] at h
      obtain ⟨⟨⟨⟨⟨h1, h2⟩, h3⟩, h5⟩, h4⟩, h6⟩ := h
      subst h1
      have e1 : evalIt cal (.r2 a b) = fun env S => (evalE cal a env S).bind fun x S1 => (evalE cal b env S1).bind fun y S2 => opt ((asInt x).bind fun i => (asInt y).bind fun j => if inRng i && inRng j then some (.items (rngL i j)) else none) S2 := by
        funext env S
        simp only [evalIt]
      rw [e1]
      exact i_r2 (s.bn (glB_ok h2) (by decide) boot_range) (chkE_ok a h4 s).1 (chkE_ok b h6 s).1 h3 h5
    · cases h
  | .en a, κ, tg, e, G, n, W, X, h, s => by
    simp only [chkIt] at h
    unfold cEn at h
    split at h
    · simp only [Bool.and_eq_true, decide_eq_true_eq] at h
      obtain ⟨⟨⟨⟨h0, h1⟩, h2⟩, h3⟩, h4⟩ := h
      subst h1
      have e1 : evalIt cal (.en a) = fun env S => (evalE cal a env S).bind fun x S1 => opt ((itemsOf x).map fun ds => .items (pairs 0 ds)) S1 := by
        funext env S
        simp only [evalIt]
      rw [e1]
      unfold tupB at h0
      split at h0
      · exact i_en s.cok (s.bn (glB_ok h2) (by decide) boot_enumerate) (chkE_ok a h4 s).1 h3
      · cases h0
    · cases h
  | .zp a b, κ, tg, e, G, n, W, X, h, s => by
    simp only [chkIt] at h
    unfold cZp at h
    split at h
    · simp only [Bool.and_eq_true, decide_eq_true_eq] at h
      obtain ⟨⟨⟨⟨⟨⟨h0, h1⟩, h2⟩, h3⟩, h5⟩, h4⟩, h6⟩ := h
      subst h1
      have e1 : evalIt cal (.zp a b) = fun env S => (evalE cal a env S).bind fun x S1 => (evalE cal b env S1).bind fun y S2 => opt ((zipO x y).map .items) S2 := by
        funext env S
        simp only [evalIt]
      rw [e1]
      unfold tupB at h0
      split at h0
      · exact i_zp s.cok (s.bn (glB_ok h2) (by decide) boot_zip) (chkE_ok a h4 s).1 (chkE_ok b h6 s).1 h3 h5
      · cases h0
    · cases h
end
end
end Mp
set_option maxHeartbeats 4000000
/-! Mp.Chk5: a check of statements against the small language. -/
namespace Mp
open PySem PySem.Spec PyProof.Rows L2
/-- a comprehension's list that goes to a name of the line -/
def swapB (sc : Scope) (value target : Expr) : Bool := match value, target with
  | .ListComp _ _ s vpos, .Name t pos => decide (sc.names.lookup t = some .local) && (pos.line == vpos.line) && !(s.names.any fun (n, k) => n == t && (k == .local || k == .cell))
  | _, _ => false
def otherB : Expr → Bool
  | .SetComp .. => false
  | .DictComp .. => false
  | _ => true
theorem swapF {sc : Scope} {value target : Expr} {l : Nat} {env : Env} (hs : env.scope = sc) (hk : sc.kind = .function) (ho : otherB value = true) (h : swapB sc value target = false) : swapsWith value (some target) l env = pure false := by
  have hb : env.blockKind = .function := by unfold Env.blockKind; rw [hs, hk]; rfl
  cases value <;> first | rfl | cases ho | skip
  cases target <;> first | rfl | skip
  rename_i elt gens s vpos t pos
  have h : (decide (sc.names.lookup t = some .local) && (pos.line == vpos.line) && !(s.names.any fun (n, k) => n == t && (k == .local || k == .cell))) = false := h
  show (pure (env.blockKind == .function && env.kindOf t == some .local && pos.line == vpos.line && !(s.names.any fun (n, k) => n == t && (k == .local || k == .cell))) : Sem Bool) = pure false
  congr 1
  rw [hb]
  have e : (env.kindOf t == some NameKind.local) = decide (sc.names.lookup t = some .local) := by
    unfold Env.kindOf
    rw [hs, Bool.eq_iff_iff]
    simp
  rw [e]
  simpa using h
theorem swapT {sc : Scope} {elt : Expr} {gens : List Comprehension} {s : Scope} {vpos pos : Pos} {t : Str} {l : Nat} {env : Env} (hs : env.scope = sc) (hk : sc.kind = .function) (h : swapB sc (.ListComp elt gens s vpos) (.Name t pos) = true) : swapsWith (.ListComp elt gens s vpos) (some (.Name t pos)) l env = pure true ∧ sc.names.lookup t = some .local := by
  have hb : env.blockKind = .function := by unfold Env.blockKind; rw [hs, hk]; rfl
  have h : (decide (sc.names.lookup t = some .local) && (pos.line == vpos.line) && !(s.names.any fun (n, k) => n == t && (k == .local || k == .cell))) = true := h
  have e : (env.kindOf t == some NameKind.local) = decide (sc.names.lookup t = some .local) := by
    unfold Env.kindOf
    rw [hs, Bool.eq_iff_iff]
    simp
  refine ⟨?_, ?_⟩
  · show (pure (env.blockKind == .function && env.kindOf t == some .local && pos.line == vpos.line && !(s.names.any fun (n, k) => n == t && (k == .local || k == .cell))) : Sem Bool) = pure true
    congr 1
    rw [hb, e]
    simpa using h
  · simp only [Bool.and_eq_true, decide_eq_true_eq] at h
    exact h.1.1
/-- one store into a tuple's names, none swapped -/
def tupStB (sc : Scope) (target value : Expr) : Bool := match value with
  | .Tuple vs _ _ => (match target with
    | .Tuple ts _ _ => (match swapC sc ts vs with
      | some none => true
      | _ => false)
    | .Name .. => true
    | _ => false)
  | _ => true
theorem tupSt_ok {sc : Scope} {target value : Expr} {env : Env} (hs : env.scope = sc) (hk : sc.kind = .function) (h : tupStB sc target value = true) : swappedStores [target] value env = pure none := by
  unfold tupStB at h
  split at h
  · split at h
    · split at h
      · rename_i hc
        exact swap_ok hs hk hc
      · cases h
    · rfl
    · cases h
  · exact swap_noT (by cases value <;> first | rfl | (rename_i hn; exact absurd rfl (hn _ _ _))) env
abbrev SB := Stmt → Bool
def cExpr (st : Stmt) (a : EB) : Bool := match st with
  | .Expr x _ => noComp x && a x
  | _ => false
def cAsg (κ : Ck) (t : Tg) (st : Stmt) (a : EB) : Bool := match st with
  | .Assign [tg] x _ => noStar tg && otherB x && tupStB κ.sc tg x && chkT κ t tg && a x
  | _ => false
def cPar (κ : Ck) (is : List Nat) (st : Stmt) (a : List Expr → Bool) : Bool := match st with
  | .Assign [.Tuple ts _ _] (.Tuple vs _ _) _ => a vs && (match is, ts, vs with
    | [i, j], [.Name x _, .Name y _], [_, _] => decide (κ.N[i]? = some x) && decide (κ.N[j]? = some y) && decide (i ≠ j) && decide (κ.sc.names.lookup x = some .local) && decide (κ.sc.names.lookup y = some .local) && decide (swapC κ.sc ts vs = some (some [x, y]))
    | [i, j, k], [.Name x _, .Name y _, .Name z _], [_, _, _] => decide (κ.N[i]? = some x) && decide (κ.N[j]? = some y) && decide (κ.N[k]? = some z) && decide (i ≠ j) && decide (i ≠ k) && decide (j ≠ k) && decide (κ.sc.names.lookup x = some .local) && decide (κ.sc.names.lookup y = some .local) && decide (κ.sc.names.lookup z = some .local) && decide (swapC κ.sc ts vs = some (some [x, y, z]))
    | _, _, _ => false)
  | _ => false
def cAug (κ : Ck) (i : Nat) (o : Op) (st : Stmt) (a : EB) : Bool := match st with
  | .AugAssign (.Name x _) op e _ => decide (op = opOf o) && chkT κ (.nm i) (.Name x ⟨0, 0, 0, 0⟩) && a e
  | _ => false
def cSetix (st : Stmt) (o i e : EB) : Bool := match st with
  | .Assign [.Subscript ox ix _] x _ => noComp x && noTup x && plainB ix && o ox && i ix && e x
  | _ => false
def cAugix (op : Op) (st : Stmt) (o i e : EB) : Bool := match st with
  | .AugAssign (.Subscript ox ix _) p x _ => decide (p = opOf op) && plainB ix && o ox && i ix && e x
  | _ => false
def cIf (st : Stmt) (c : EB) (a b : List Stmt → Bool) : Bool := match st with
  | .If x ys zs _ => c x && a ys && b zs
  | _ => false
def cFor (κ : Ck) (t : Tg) (st : Stmt) (it : Expr → EB) (b : List Stmt → Bool) : Bool := match st with
  | .For tg iter ys [] _ => noSetB iter && it tg iter && chkT κ t tg && b ys
  | _ => false
def cWhile (st : Stmt) (c : EB) (b : List Stmt → Bool) : Bool := match st with
  | .While x ys [] _ => c x && b ys
  | _ => false
def cRet (st : Stmt) (a : EB) : Bool := match st with
  | .Return (some x) _ => a x
  | _ => false
def cRetN (st : Stmt) : Bool := match st with
  | .Return none _ => true
  | _ => false
def cBrk (st : Stmt) : Bool := match st with
  | .Break _ => true
  | _ => false
def cCont (st : Stmt) : Bool := match st with
  | .Continue _ => true
  | _ => false
def cPass (st : Stmt) : Bool := match st with
  | .Pass _ => true
  | _ => false
def cSeq (sts : List Stmt) (a : SB) (r : List Stmt → Bool) : Bool := match sts with
  | st :: q => a st && r q
  | [] => false
def cRais (κ : Ck) (c : Str) (a : Option (Str × E)) (st : Stmt) : Bool := match a, st with
  | none, .Raise (some (.Call (.Name x _) [] [] _)) none _ => decide (x = c) && κ.xs.ns.contains c && glB κ.sc c
  | some (f, m), .Raise (some (.Call (.Name x _) [y] [] _)) none _ => decide (x = c) && (κ.xs.is.any fun p => decide (p.1 = c) && decide (p.2.2 = f)) && glB κ.sc c && noStar y && chkE m κ y
  | _, _ => false
def cTry (κ : Ck) (i : Nat) (c : Str) (xs : List Str) (k : Nat) (d : D) (st : Stmt) (e : EB) (b : List Stmt → Bool) : Bool := match st with
  | .Try (.Expr ex _ :: rest) [.ExceptHandler (some (.Name x _)) (some nm) [.Assign [.Name y _] (.Constant cst _ _) _] _] [] [] _ => decide (x = c) && κ.xs.ns.contains c && glB κ.sc c && (xs.all fun q => κ.xs.ns.contains q) && decide (κ.N[i]? = some nm) && decide (κ.sc.names.lookup nm = some .local) && decide (κ.N[k]? = some y) && decide (κ.sc.names.lookup y = some .local) && conB d cst && noComp ex && e ex && b rest
  | _ => false
mutual
def chkS : S → Ck → Stmt → Bool
  | .expr e, κ, st => cExpr st (chkE e κ)
  | .asg t e, κ, st => cAsg κ t st (chkE e κ)
  | .par ts es, κ, st => cPar κ ts st (chkEs es κ)
  | .aug i o e, κ, st => cAug κ i o st (chkE e κ)
  | .setix o i e, κ, st => cSetix st (chkE o κ) (chkE i κ) (chkE e κ)
  | .augix o i op e, κ, st => cAugix op st (chkE o κ) (chkE i κ) (chkE e κ)
  | .ite c a b, κ, st => cIf st (chkE c κ) (chkSs a κ) (chkSs b κ)
  | .for t it b, κ, st => cFor κ t st (chkIt it κ) (chkSs b κ)
  | .while c b, κ, st => cWhile st (chkE c κ) (chkSs b κ)
  | .nev, _, _ => true
  | .ret e, κ, st => cRet st (chkE e κ)
  | .retN, _, st => cRetN st
  | .brk, _, st => cBrk st
  | .cont, _, st => cCont st
  | .pass, _, st => cPass st
  | .rais c a, κ, st => cRais κ c a st
  | .tryC e b i c xs k d, κ, st => cTry κ i c xs k d st (chkE e κ) (chkSs b κ)
def chkSs : Ss → Ck → List Stmt → Bool
  | .nil, _, sts => sts.isEmpty
  | .cons s ss, κ, sts => cSeq sts (chkS s κ) (chkSs ss κ)
end
end Mp
set_option maxHeartbeats 4000000
/-! Mp.Chk6: the check of statements is sound. -/
namespace Mp
open PySem PySem.Spec PyProof.Rows L2
section
variable {κ : Ck} {cal : CallF} {G0 G : Wd} {P : Program} {w : World} {base : Heap} {KL n : Nat} {W : XK} {X : Cx}
theorem nm_parts {i : Nat} {x : Str} {p : Pos} (h : chkT κ (.nm i) (.Name x p) = true) : κ.N[i]? = some x ∧ Loc κ.sc x ∧ (κ.ow x = true ∨ κ.sc.names.lookup x = some .local) := by
  simp only [chkT, Bool.and_eq_true, Bool.or_eq_true, decide_eq_true_eq] at h
  obtain ⟨h1, h2⟩ := h
  rcases h2 with h2 | ⟨h3, h2⟩
  · exact ⟨h1, .inl h2, .inr h2⟩
  · exact ⟨h1, .inr h2, .inl h3⟩
theorem asg_ok (s : Sok κ cal G0 G P w base KL n (kW W) X) (hk : κ.sc.kind = .function) {t : Tg} {e : E} {tg x : Expr} {pos : Pos} (h1 : noStar tg = true) (h2 : otherB x = true) (h3 : tupStB κ.sc tg x = true) (h4 : chkT κ t tg = true) (h5 : chkE e κ x = true) :
    PS X (.Assign [tg] x pos) (tS G (asgF t (evalE cal e)) W) := by
  cases hsw : swapB κ.sc x tg with
  | false => exact x_asg (chkE_ok e h5 s).1 (chkT_ok s t tg h4) (swapF s.sc hk h2 hsw) (tupSt_ok s.sc hk h3) h1
  | true =>
    unfold swapB at hsw
    split at hsw
    · rename_i elt gens scope vpos y py
      obtain ⟨hw, hl⟩ := swapT (l := pos.line) s.sc hk (show swapB κ.sc (.ListComp elt gens scope vpos) (.Name y py) = true from hsw)
      have hl' : X.env.scope.names.lookup y = some .local := by rw [s.sc]; exact hl
      cases t with
      | nm i =>
        obtain ⟨n1, _, _⟩ := nm_parts h4
        cases e with
        | comp mu own t it hi c m =>
          simp only [chkE] at h5
          unfold cComp at h5
          split at h5
          · rename_i hee
            cases hee
            simp only [Bool.and_eq_true] at h5
            obtain ⟨⟨⟨⟨⟨h1, h2⟩, h3⟩, h4⟩, h5⟩, h6⟩ := h5
            obtain ⟨ok, hown⟩ := blkB_ok h1
            have hi' := chkIt_ok it h3 s
            have sb := fun (sh : Shared) (H : Hp) (C : Addr) (cl : List (Str × Addr)) (fp : List Addr) => s.blk sh H scope C cl fp
            have e1 : evalE cal (.comp mu own t it hi c m) = compF mu ((ownOf κ own).map (·.2)) t (evalIt cal it) (ifF hi (evalE cal c)) (evalE cal m) := by
              funext env S
              rw [ownOf_snd]
              simp only [evalE, compF]
              rfl
            rw [e1]
            refine x_setC s.cok mu n1 hl' hw hi' (by rw [s.cok.nm, s.sc]; exact ok) (fun sh H C cl fp => chkT_ok (sb sh H C cl fp) t _ h4) (fun sh H C cl fp => ?_) (fun sh H C cl fp => (chkE_ok m h6 (sb sh H C cl fp)).1) (fun x => noSet_ok h2 _ x) hown
            unfold ifB at h5
            split at h5
            · exact ts_nil
            · exact ts_one (chkE_ok c h5 (sb sh H C cl fp)).2
            · cases h5
          · cases h5
        | comp2 mu own t it hi c t1 it1 hi1 c1 m =>
          simp only [chkE] at h5
          unfold cComp2 at h5
          split at h5
          · rename_i hee
            cases hee
            simp only [Bool.and_eq_true] at h5
            obtain ⟨⟨⟨⟨⟨⟨⟨⟨⟨⟨h1, h1'⟩, h2⟩, h2'⟩, h3⟩, h4⟩, h5⟩, h3'⟩, h4'⟩, h5'⟩, h6⟩ := h5
            obtain ⟨ok, hown⟩ := blkB_ok h1
            obtain ⟨_, hown1⟩ := blkB_ok h1'
            have hi' := chkIt_ok it h3 s
            have sb := fun (sh : Shared) (H : Hp) (C : Addr) (cl : List (Str × Addr)) (fp : List Addr) => s.blk sh H scope C cl fp
            have e1 : evalE cal (.comp2 mu own t it hi c t1 it1 hi1 c1 m) = compF2 mu ((ownOf κ own).map (·.2)) t (evalIt cal it) (ifF hi (evalE cal c)) t1 (evalIt cal it1) (ifF hi1 (evalE cal c1)) (evalE cal m) := by
              funext env S
              rw [ownOf_snd]
              simp only [evalE, compF2]
              rfl
            rw [e1]
            refine x_setC2 s.cok mu n1 hl' hw hi' (by rw [s.cok.nm, s.sc]; exact ok) (fun sh H C cl fp => chkT_ok (sb sh H C cl fp) t _ h4) (fun sh H C cl fp => ?_) (fun sh H C cl fp => chkIt_ok it1 h3' (sb sh H C cl fp)) (fun sh H C cl fp => chkT_ok (sb sh H C cl fp) t1 _ h4') (fun sh H C cl fp => ?_) (fun sh H C cl fp => (chkE_ok m h6 (sb sh H C cl fp)).1) (fun x => noSet_ok h2 _ x) (fun env x => noSet_ok h2' _ x) hown hown1
            · unfold ifB at h5
              split at h5
              · exact ts_nil
              · exact ts_one (chkE_ok c h5 (sb sh H C cl fp)).2
              · cases h5
            · unfold ifB at h5'
              split at h5'
              · exact ts_nil
              · exact ts_one (chkE_ok c1 h5' (sb sh H C cl fp)).2
              · cases h5'
          · cases h5
        | prim p es =>
          simp only [chkE] at h5
          unfold cPrim at h5
          split at h5
          · rename_i xs hx
            have := (prim_ok s hx (chkEs_ok es h5 s)).2
            cases this
          · cases h5
        | rev a =>
          simp only [chkE] at h5
          unfold cRev at h5
          exact (Bool.false_ne_true h5).elim
        | _ =>
          simp only [chkE] at h5
          exact (Bool.false_ne_true h5).elim
      | t2 a b => simp [chkT] at h4
      | t3 a b c => simp [chkT] at h4
    · cases hsw
mutual
theorem chkS_ok {cal : CallF} {lf : Nat} {G0 : Wd} {P : Program} {w : World} {base : Heap} {KL : Nat} : ∀ (m : S) {κ : Ck} {st : Stmt} {G : Wd} {n : Nat} {W : XK} {X : Cx}, chkS m κ st = true → κ.sc.kind = .function → Sok κ cal G0 G P w base KL n (kW W) X → (X.stack = X.env :: X.outer ∧ X.env.frame = some X.env.locals ∧ KL + 2 ≤ n) → PS X st (tS G (evalS cal lf m) W)
  | .expr e, κ, st, G, n, W, X, h, hk, s, fr => by
    simp only [chkS] at h
    unfold cExpr at h
    split at h
    · simp only [Bool.and_eq_true] at h
      have e1 : evalS cal lf (.expr e) = fun env S => (evalE cal e env S).bind fun _ S1 => .ok (.nx, env) S1 := by
        funext env S
        simp only [evalS]
      rw [e1]
      exact x_expr (chkE_ok e h.2 s).1 (swapsN h.1 _ _ _)
    · cases h
  | .asg t e, κ, st, G, n, W, X, h, hk, s, fr => by
    simp only [chkS] at h
    unfold cAsg at h
    split at h
    · simp only [Bool.and_eq_true] at h
      obtain ⟨⟨⟨⟨h1, h2⟩, h3⟩, h4⟩, h5⟩ := h
      have e1 : evalS cal lf (.asg t e) = asgF t (evalE cal e) := by
        funext env S
        simp only [evalS, asgF]
      rw [e1]
      exact asg_ok s hk h1 h2 h3 h4 h5
    · cases h
  | .par ts es, κ, st, G, n, W, X, h, hk, s, fr => by
    simp only [chkS] at h
    unfold cPar at h
    split at h
    · simp only [Bool.and_eq_true] at h
      obtain ⟨h1, h2⟩ := h
      have he := (chkEs_ok es h1 s).pa
      have e1 : evalS cal lf (.par ts es) = parF ts (evalEs cal es) := by
        funext env S
        simp only [evalS, parF]
      rw [e1]
      split at h2
      · simp only [Bool.and_eq_true, decide_eq_true_eq] at h2
        obtain ⟨⟨⟨⟨⟨q1, q2⟩, q3⟩, q4⟩, q5⟩, q6⟩ := h2
        exact x_par2 s.cok q1 q2 q3 (by rw [s.sc]; exact q4) (by rw [s.sc]; exact q5) he (swap_ok s.sc hk q6)
      · simp only [Bool.and_eq_true, decide_eq_true_eq] at h2
        obtain ⟨⟨⟨⟨⟨⟨⟨⟨⟨q1, q2⟩, q3⟩, q4⟩, q5⟩, q6⟩, q7⟩, q8⟩, q9⟩, q10⟩ := h2
        exact x_par3 s.cok q1 q2 q3 q4 q5 q6 (by rw [s.sc]; exact q7) (by rw [s.sc]; exact q8) (by rw [s.sc]; exact q9) he (swap_ok s.sc hk q10)
      · cases h2
    · cases h
  | .aug i o e, κ, st, G, n, W, X, h, hk, s, fr => by
    simp only [chkS] at h
    unfold cAug at h
    split at h
    · simp only [Bool.and_eq_true, decide_eq_true_eq] at h
      obtain ⟨⟨h1, h2⟩, h3⟩ := h
      subst h1
      obtain ⟨n1, n2, n3⟩ := nm_parts h2
      have e1 : evalS cal lf (.aug i o e) = augF i o (evalE cal e) := by
        funext env S
        simp only [evalS, augF] <;> rfl
      rw [e1]
      exact x_aug s.cok o n1 (by rw [s.sc]; exact n2) (chkE_ok e h3 s).1 (n3.elim (fun z => .inl ((s.top _).trans z)) fun z => .inr (by rw [s.sc]; exact z))
    · cases h
  | .setix o i e, κ, st, G, n, W, X, h, hk, s, fr => by
    simp only [chkS] at h
    unfold cSetix at h
    split at h
    · rename_i ox ix p1 x p2
      simp only [Bool.and_eq_true] at h
      obtain ⟨⟨⟨⟨⟨h1, h2⟩, h3⟩, h4⟩, h5⟩, h6⟩ := h
      have e1 : evalS cal lf (.setix o i e) = setF (evalE cal o) (evalE cal i) (evalE cal e) := by
        funext env S
        simp only [evalS, setF]
      rw [e1]
      refine x_setix (chkE_ok o h4 s).1 (chkE_ok i h5 s).1 (chkE_ok e h6 s).1 h1 h2 fun v => ?_
      cases ix <;> first | rfl | cases h3
    · cases h
  | .augix o i op e, κ, st, G, n, W, X, h, hk, s, fr => by
    simp only [chkS] at h
    unfold cAugix at h
    split at h
    · rename_i ox ix p1 pp x p2
      simp only [Bool.and_eq_true, decide_eq_true_eq] at h
      obtain ⟨⟨⟨⟨h1, h3⟩, h4⟩, h5⟩, h6⟩ := h
      subst h1
      have e1 : evalS cal lf (.augix o i op e) = augixF (evalE cal o) (evalE cal i) op (evalE cal e) := by
        funext env S
        simp only [evalS, augixF]
      rw [e1]
      refine x_augix (chkE_ok o h4 s).1 (chkE_ok i h5 s).1 (chkE_ok e h6 s).1 fun ov iv new => ?_
      cases ix <;> first | rfl | cases h3
    · cases h
  | .ite c a b, κ, st, G, n, W, X, h, hk, s, fr => by
    simp only [chkS] at h
    unfold cIf at h
    split at h
    · simp only [Bool.and_eq_true] at h
      obtain ⟨⟨h1, h2⟩, h3⟩ := h
      have e1 : evalS cal lf (.ite c a b) = fun env S => (testF (evalE cal c) env S).bind fun t S1 => if t then evalSs cal lf a env S1 else evalSs cal lf b env S1 := by
        funext env S
        simp only [evalS, test, testF]
      rw [e1]
      exact x_if (chkE_ok c h1 s).2 (chkSs_ok a h2 hk s fr) (chkSs_ok b h3 hk s fr)
    · cases h
  | .for t it b, κ, st, G, n, W, X, h, hk, s, fr => by
    simp only [chkS] at h
    unfold cFor at h
    split at h
    · simp only [Bool.and_eq_true] at h
      obtain ⟨⟨⟨h1, h2⟩, h3⟩, h4⟩ := h
      have e1 : evalS cal lf (.for t it b) = fun env S => (evalIt cal it env S).bind fun v S1 => forItv (forTurn t (evalSs cal lf b)) v env S1 := by
        funext env S
        simp only [evalS]
        rfl
      rw [e1]
      exact x_for s.cok (chkIt_ok it h2 s) (chkT_ok s t _ h3) (chkSs_ok b h4 hk s fr) fun x => noSet_ok h1 _ x
    · cases h
  | .while c b, κ, st, G, n, W, X, h, hk, s, fr => by
    simp only [chkS] at h
    unfold cWhile at h
    split at h
    · simp only [Bool.and_eq_true] at h
      have e1 : evalS cal lf (.while c b) = fun env S => whileF (testF (evalE cal c)) (evalSs cal lf b) lf env S := by
        funext env S
        simp only [evalS]
        rfl
      rw [e1]
      exact x_while s.cok (chkE_ok c h.1 s).2 (chkSs_ok b h.2 hk s fr)
    · cases h
  | .nev, κ, st, G, n, W, X, h, hk, s, fr => by
    have e1 : evalS cal lf .nev = fun _ _ => .bad := by
      funext env S
      simp only [evalS]
    rw [e1]
    exact x_nev
  | .ret e, κ, st, G, n, W, X, h, hk, s, fr => by
    simp only [chkS] at h
    unfold cRet at h
    split at h
    · have e1 : evalS cal lf (.ret e) = fun env S => (evalE cal e env S).bind fun d S1 => .ok (.ret d, env) S1 := by
        funext env S
        simp only [evalS]
      rw [e1]
      exact x_ret (chkE_ok e h s).1
    · cases h
  | .retN, κ, st, G, n, W, X, h, hk, s, fr => by
    simp only [chkS] at h
    unfold cRetN at h
    have e1 : evalS cal lf .retN = fun env S => .ok (.ret .none, env) S := by
      funext env S
      simp only [evalS]
    rw [e1]
    split at h
    · exact x_retN
    · cases h
  | .brk, κ, st, G, n, W, X, h, hk, s, fr => by
    simp only [chkS] at h
    unfold cBrk at h
    have e1 : evalS cal lf .brk = fun env S => .ok (.brk, env) S := by
      funext env S
      simp only [evalS]
    rw [e1]
    split at h
    · exact x_brk
    · cases h
  | .cont, κ, st, G, n, W, X, h, hk, s, fr => by
    simp only [chkS] at h
    unfold cCont at h
    have e1 : evalS cal lf .cont = fun env S => .ok (.cont, env) S := by
      funext env S
      simp only [evalS]
    rw [e1]
    split at h
    · exact x_cont
    · cases h
  | .pass, κ, st, G, n, W, X, h, hk, s, fr => by
    simp only [chkS] at h
    unfold cPass at h
    have e1 : evalS cal lf .pass = fun env S => .ok (.nx, env) S := by
      funext env S
      simp only [evalS]
    rw [e1]
    split at h
    · exact x_pass
    · cases h
  | .rais c a, κ, st, G, n, W, X, h, hk, s, fr => by
    simp only [chkS] at h
    unfold cRais at h
    split at h
    · simp only [Bool.and_eq_true, decide_eq_true_eq] at h
      obtain ⟨⟨h1, h2⟩, h3⟩ := h
      have e1 : evalS cal lf (.rais c none) = fun _ S => .exc ⟨c, none⟩ S := by
        funext env S
        simp only [evalS]
      subst h1
      obtain ⟨C, hc, _⟩ := s.md.exc _ (by simpa using h2)
      rw [e1]
      exact x_rais s.cok ⟨by rw [s.sup.mg]; exact hc.gl, by rw [s.sup.K]; exact hc.ex, by rw [s.sup.K]; exact hc.kp, by rw [s.sup.K]; exact hc.sub, by rw [s.sup.K]; exact hc.ty, hc.db⟩ (by show X.env.scope.names.lookup _ = _; rw [s.sc]; exact glB_ok h3)
    · rename_i f m x p y pos pos'
      simp only [Bool.and_eq_true, decide_eq_true_eq, List.any_eq_true] at h
      obtain ⟨⟨⟨⟨h1, ⟨pr, hm, h2, h2'⟩⟩, h3⟩, h4⟩, h5⟩ := h
      have e1 : evalS cal lf (.rais c (some (f, m))) = fun env S => (evalE cal m env S).bind fun d S1 => .exc ⟨c, some (f, d)⟩ S1 := by
        funext env S
        simp only [evalS]
      subst h1
      have ini := s.md.ini pr hm
      rw [h2, h2'] at ini
      rw [e1]
      have c' : Cok G P w base κ.N (KL + 1 + 1) (kW W) X := ⟨s.cok.prog, s.cok.wo, s.cok.base, s.cok.K, s.cok.mg, s.cok.nm, s.cok.nd, s.cok.calm, s.cok.room.mono (by have := fr.2.2; omega), s.cok.tk, s.cok.own⟩
      obtain ⟨C, fI, fd, ps, i1, i2, i3, i4, i5, i6, i7⟩ := ini.ex
      exact x_raisA c' ⟨C, fI, fd, ps, by rw [s.sup.K]; exact i1, by rw [s.sup.K]; exact i2, by rw [s.sup.K]; exact i3, by rw [s.sup.K, s.sup.mg]; exact i4, by rw [s.sup.K]; exact i5, by rw [s.sup.mg]; exact i6, i7⟩ (by show X.env.scope.names.lookup _ = _; rw [s.sc]; exact glB_ok h3) (chkE_ok m h5 s).1 h4
    · cases h
  | .tryC e b i c xs k d, κ, st, G, n, W, X, h, hk, s, fr => by
    simp only [chkS] at h
    unfold cTry at h
    split at h
    · simp only [Bool.and_eq_true, decide_eq_true_eq, List.all_eq_true] at h
      obtain ⟨⟨⟨⟨⟨⟨⟨⟨⟨⟨⟨h1, h2⟩, h3⟩, h4⟩, h5⟩, h6⟩, h7⟩, h8⟩, h9⟩, h10⟩, h11⟩, h12⟩ := h
      have e1 : evalS cal lf (.tryC e b i c xs k d) = tryF (evalE cal e) (evalSs cal lf b) i c xs k d := by
        funext env S
        simp only [evalS, tryF] <;> rfl
      subst h1
      obtain ⟨C, hc, hq⟩ := s.md.exc _ (by simpa using h2)
      obtain ⟨v, hv1, hv2⟩ := con_val (G := G) h9
      rw [e1]
      refine x_tryC s.cok fr.1 fr.2.1 h5 (by show X.env.scope.names.lookup _ = _; rw [s.sc]; exact h6) h7 (by rw [s.sc]; exact h8) ⟨by rw [s.sup.mg]; exact hc.gl, by rw [s.sup.K]; exact hc.ex, by rw [s.sup.K]; exact hc.kp, by rw [s.sup.K]; exact hc.sub, by rw [s.sup.K]; exact hc.ty, hc.db⟩ (by show X.env.scope.names.lookup _ = _; rw [s.sc]; exact glB_ok h3) (fun q hq' => ?_) (hv1 _ _) hv2 rfl h10 (fun W' pn xe tk po => (chkE_ok e h11 (s.tr tk po)).1) fun pn xe po => chkSs_ok b h12 hk (s.tr (W' := kW fun _ _ _ => False) LamX.takes0 po) fr
      obtain ⟨Cq, g1, g2⟩ := hq q (by simpa using h4 q hq')
      exact ⟨Cq, by rw [s.sup.mg]; exact g1, by rw [s.sup.K]; exact g2⟩
    · cases h
theorem chkSs_ok {cal : CallF} {lf : Nat} {G0 : Wd} {P : Program} {w : World} {base : Heap} {KL : Nat} : ∀ (ms : Ss) {κ : Ck} {sts : List Stmt} {G : Wd} {n : Nat} {W : XK} {X : Cx}, chkSs ms κ sts = true → κ.sc.kind = .function → Sok κ cal G0 G P w base KL n (kW W) X → (X.stack = X.env :: X.outer ∧ X.env.frame = some X.env.locals ∧ KL + 2 ≤ n) → PSs X sts (tS G (evalSs cal lf ms) W)
  | .nil, κ, sts, G, n, W, X, h, hk, s, fr => by
    simp only [chkSs] at h
    have e1 : evalSs cal lf .nil = fun env S => .ok (.nx, env) S := by
      funext env S
      simp only [evalSs]
    rw [e1]
    cases sts with
    | nil => exact x_nil
    | cons _ _ => cases h
  | .cons m ms, κ, sts, G, n, W, X, h, hk, s, fr => by
    simp only [chkSs] at h
    unfold cSeq at h
    split at h
    · simp only [Bool.and_eq_true] at h
      have e1 : evalSs cal lf (.cons m ms) = seqF (evalS cal lf m) (evalSs cal lf ms) := by
        funext env S
        simp only [evalSs, seqF] <;> rfl
      rw [e1]
      exact x_seq (chkS_ok m h.1 hk s fr) (chkSs_ok ms h.2 hk s fr)
    · cases h
end
end
end Mp
set_option maxHeartbeats 1000000
/-! Mp.Mod: a module's defs keep what the small language's calls say. -/
namespace Mp
open PySem PySem.Spec PyProof.Rows L2
/-! ### the store behind a call -/
section
variable {G : Wd} {Z Z' H H' : Hp} {A A' B : List Addr} {S S' : Store}
theorem Rel.cut (r : Rel G Z (A ++ B) S H) : Rel G Z A (S.take A.length) H := by
  have hl := r.len
  rw [List.length_append] at hl
  refine ⟨r.sub, by rw [List.length_take]; omega, (List.nodup_append.mp r.nd).1, fun l a m h1 h2 => ?_, r.tabs, r.zt⟩
  have hlt := (List.getElem?_eq_some_iff.mp h1).1
  rw [List.getElem?_take_of_lt hlt] at h2
  have q := r.at_ l a m (by rw [List.getElem?_append_left hlt]; exact h1) h2
  rw [List.take_append_of_le_length (Nat.le_of_lt hlt)] at q
  exact q
theorem Fut.cut (f : Fut H Z A H' Z' A') : Fut H Z A H' Z' A :=
  ⟨f.fr, f.th, f.z, f.zn, ⟨[], by simp⟩, fun a m => .inl m, f.tb⟩
/-- behind a call: its own objects are gone -/
theorem leave_ok {r : R (Fl × EnvD)} {Q : VK} {E : XK} (hl : A.length = S.length) (h : PostR (leave S.length r) (fun d S' => Kon G H Z A d S' Q) (fun x S' => KonX G H Z A x S' E)) :
    PostR r (EndR G H Z A { nx := fun _ H' => Q .non H', rt := Q }) (fun x S' => KonX G H Z A x S' E) := by
  have cutR : ∀ {H' Z' : Hp} {A' : List Addr} {S' : Store}, Fut H Z A H' Z' A' → Rel G Z' A' S' H' → Rel G Z' A (S'.take S.length) H' ∧ A'.take S.length = A := fun {H' Z' A' S'} f R => by
    obtain ⟨B, rfl⟩ := f.ap
    rw [← hl]
    exact ⟨R.cut, by rw [List.take_append_of_le_length (Nat.le_refl _), List.take_length]⟩
  cases r with
  | bad => exact h
  | ok p S' =>
    obtain ⟨fl, env⟩ := p
    cases fl with
    | nx =>
      have h : Kon G H Z A .none (S'.take S.length) Q := h
      exact fun σ' H' Z' A' f R E => h _ _ _ _ f.cut (cutR f R).1 .non
    | brk => exact h.elim
    | cont => exact h.elim
    | ret d =>
      have h : PostR (if old S.length d then R.ok d (S'.take S.length) else .bad) _ _ := h
      by_cases ho : old S.length d = true
      · rw [if_pos ho] at h
        have h : Kon G H Z A d (S'.take S.length) Q := h
        intro σ' H' Z' A' f R E v rv
        have c := cutR f R
        exact h _ _ _ _ f.cut c.1 (by rw [← c.2]; exact Rp.cut _ _ rv ho)
      · rw [if_neg ho] at h
        exact h.elim
  | exc x S' =>
    have h : PostR (match x.arg with
      | none => R.exc x (S'.take S.length)
      | some (_, d) => if old S.length d then R.exc x (S'.take S.length) else .bad) (fun d S' => Kon G H Z A d S' Q) (fun x S' => KonX G H Z A x S' E) := h
    cases ha : x.arg with
    | none =>
      rw [ha] at h
      have h : KonX G H Z A x (S'.take S.length) E := h
      intro c dd H' Z' A' f R ex
      have q := cutR f R
      refine h c dd H' Z' A f.cut q.1 ?_
      obtain ⟨C, e1, e2, e3⟩ := ex
      refine ⟨C, e1, e2, ?_⟩
      rw [ha] at e3 ⊢
      exact e3
    | some p =>
      obtain ⟨fn, d⟩ := p
      rw [ha] at h
      have h : PostR (if old S.length d then R.exc x (S'.take S.length) else .bad) (fun d S' => Kon G H Z A d S' Q) (fun x S' => KonX G H Z A x S' E) := h
      by_cases ho : old S.length d = true
      · rw [if_pos ho] at h
        have h : KonX G H Z A x (S'.take S.length) E := h
        intro c dd H' Z' A' f R ex
        have q := cutR f R
        refine h c dd H' Z' A f.cut q.1 ?_
        obtain ⟨C, e1, e2, e3⟩ := ex
        refine ⟨C, e1, e2, ?_⟩
        rw [ha] at e3 ⊢
        obtain ⟨dd', fs, v, q1, q2, q3, q4⟩ := e3
        exact ⟨dd', fs, v, q1, q2, q3, by rw [← q.2]; exact Rp.cut _ _ q4 ho⟩
      · rw [if_neg ho] at h
        exact h.elim
end
/-! ### the defs of a module -/
/-- a def: its name, its statement in the text, what it is in the small language, the kind of its code object's table (0: none is needed; 1: generator expressions; 2: nested ones; 3: lambdas) -/
structure Mdf where
  x : Str
  st : Stmt
  fd : Fd
  ki : Nat
def Mdf.ck (m : Mdf) (fns : List Str) (con : List (Str × D)) (xs : Xt) : Ck := { N := m.fd.names, sc := defScope m.st, top := none, gq := if m.ki = 1 then 1 else if m.ki = 2 then 2 else 0, lam := decide (m.ki = 3), fns := fns, con := con, xs := xs }
def Mdf.kind (m : Mdf) (L : List Addr) : TK := if m.ki = 1 then .gen else if m.ki = 2 then .nest L else .lam (m.x ++ ".<locals>." ++ "<lambda>")
def Mdf.ps (m : Mdf) : List Str := m.fd.names.take m.fd.np
def chkF (fns : List Str) (con : List (Str × D)) (xs : Xt) (m : Mdf) : Bool := decide (m.fd.np ≤ m.fd.names.length) && scB m.fd.names m.ps (defScope m.st) && argB (defArgs m.st) m.ps && !(m.x == ("__debug__" : Str)) && chkSs m.fd.body (m.ck fns con xs) (defBody m.st)
theorem IniIs.up {G : Wd} {P : Program} {w : World} {base : Heap} {j k : Nat} {x f : Str} (h : IniIs G P w base j x f) (hjk : j ≤ k) : IniIs G P w base k x f := by
  obtain ⟨C, fI, fd, ps, i1, i2, i3, i4, i5, i6, i7⟩ := h.ex
  exact ⟨C, fI, fd, ps, i1, i2, i3, i4.mono hjk, i5, i6, i7⟩
structure Says (defs : List Mdf) (con : List (Str × D)) (xs : Xt) (G : Wd) (base : Heap) : Prop where
  chk : ∀ m ∈ defs, chkF (defs.map (·.x)) con xs m = true
  fn : ∀ m ∈ defs, ∃ fd, FunD G.K m.x m.x (defArgs m.st) (defBody m.st) (defScope m.st) [] [] (He.fAd G.K (m.x, none)) fd
  glo : ∀ m ∈ defs, G.mg m.x = some (.ref (He.fAd G.K (m.x, none)))
  blt : ∀ x ∈ blts, G.mg x = none
  con : ∀ x d, con.lookup x = some d → (x == ("__debug__" : Str)) = false ∧ ∃ v u, G.mg x = some u ∧ RelV v u ∧ ∀ Z A, Rp G Z A v d
  exc : ∀ x ∈ xs.ns, ∃ C, ExcIs G x C ∧ ∀ q ∈ xs.ns, ∃ Cq, G.mg q = some (.ref Cq) ∧ PySem.W.exmOne G.K (.ref Cq) (.ref C) = some (catchB q x)
  wf : ∀ p ∈ xs.ws, (∃ fd, FunD G.K p.1 p.1 (defArgs p.2) (defBody p.2) (defScope p.2) [] [] (He.fAd G.K (p.1, none)) fd) ∧ G.mg p.1 = some (.ref (He.fAd G.K (p.1, none)))
  xok : XsOk G xs.xs
  ini : ∀ p ∈ xs.is, ∀ (P : Program) (w : World), IniIs G P w base 1 p.1 p.2.2
  tab : ∀ m ∈ defs, m.ki ≠ 0 → ((He.cT G.K (m.x, none)).2, m.kind (G.T.map (·.1))) ∈ G.T ∧ (∀ q ∈ G.T, q.1 = (He.cT G.K (m.x, none)).2 → q.2 = m.kind (G.T.map (·.1))) ∧ LamX.TabB base G.mg (He.cT G.K (m.x, none)).1 (He.cT G.K (m.x, none)).2
section
variable {defs : List Mdf} {con : List (Str × D)} {xs : Xt} {G : Wd} {base : Heap} {P : Program} {w : World} {lf : Nat}
theorem env_start {Z : Hp} {A : List Addr} {vs : List V} {ds : List D} {N : List Str} {np : Nat} (r : RpAll G Z A vs ds) (h1 : ds.length = np) (h2 : np ≤ N.length) : EnvR G Z A (ds.map some ++ List.replicate (N.length - np) none) (L2.start N vs) := by
  have hl := r.length
  unfold L2.start
  refine ⟨by simp; omega, fun i d h => ?_⟩
  by_cases hi : i < ds.length
  · rw [List.getElem?_append_left (by simpa using hi), List.getElem?_map] at h
    cases hd : ds[i]? with
    | none => rw [hd] at h; cases h
    | some d' =>
      rw [hd] at h
      cases h
      obtain ⟨v, hv, rv⟩ := r.get hd
      exact ⟨v, by rw [List.getElem?_append_left (by simp; omega), List.getElem?_map, hv]; rfl, rv⟩
  · rw [List.getElem?_append_right (by simpa using hi), List.getElem?_replicate] at h
    split at h <;> cases h
theorem Says.fn_ok (hs : Says defs con xs G base) {j : Nat} (md : Mk (defs.map (·.x)) con xs (callN (defs.map (·.fd)) lf j) G P w base (8 * j)) {f : Nat} {m : Mdf} (hm : defs[f]? = some m) {fd : FuncData} (F : FunD G.K m.x m.x (defArgs m.st) (defBody m.st) (defScope m.st) [] [] (He.fAd G.K (m.x, none)) fd) :
    FnOk P w G.K G.mg base (L2.CX P w) (8 * (j + 1)) (He.fAd G.K (m.x, none)) fd m.ps (spD (callN (defs.map (·.fd)) lf (j + 1)) f G) := by
  have mem := List.mem_of_getElem? hm
  have hc := hs.chk m mem
  unfold chkF at hc
  simp only [Bool.and_eq_true, Bool.not_eq_true', decide_eq_true_eq] at hc
  obtain ⟨⟨⟨⟨h0, h1⟩, h2⟩, h3⟩, h4⟩ := hc
  have sc := scB_ok h1
  have hpl : m.ps.length = m.fd.np := by
    unfold Mdf.ps
    rw [List.length_take]
    omega
  have hfd : (defs.map (·.fd))[f]? = some m.fd := by rw [List.getElem?_map, hm]; rfl
  have hcall : ∀ ds S, callN (defs.map (·.fd)) lf (j + 1) f ds S = if ds.length = m.fd.np then leave S.length (evalSs (callN (defs.map (·.fd)) lf j) lf m.fd.body (ds.map some ++ List.replicate (m.fd.names.length - m.fd.np) none) S) else .bad := fun ds S => by
    rw [callN, hfd]
  obtain ⟨oc, od, dV, kV, doc, pm, an, cdv, ct, osl, rfl, lk, hcd, _, _⟩ := F.ex
  obtain ⟨c0, e0⟩ := He.codeIn_ref hcd
  have ec : (He.cT G.K (m.x, none)).1 = c0 := He.codeOf_eq lk e0
  refine FnOk.mono (j := (8 * j + 7) + 1) (fn_of lk hcd sc (fun vs H Q E h => ?_) fun A outer s H vs Q E hr h => ?_) (by omega)
  · obtain ⟨Z, A, S, ds, R, r, hP⟩ := h
    rw [hcall] at hP
    by_cases hl : ds.length = m.fd.np
    · rw [r.length, hl, hpl]
    · rw [if_neg hl] at hP
      exact hP.elim
  · obtain ⟨Z, A0, S, ds, R, r, hP⟩ := h
    rw [hcall] at hP
    by_cases hl : ds.length = m.fd.np
    · rw [if_pos hl] at hP
      have tab : m.ki ≠ 0 → ∃ PP, (PP, m.kind (G.T.map (·.1))) ∈ G.T ∧ (∀ q ∈ G.T, q.1 = PP → q.2 = m.kind (G.T.map (·.1))) ∧ LamX.TabB base G.mg c0 PP := fun hk => by
        obtain ⟨t1, t2, t3⟩ := hs.tab m mem hk
        rw [ec] at t3
        exact ⟨_, t1, t2, t3⟩
      have sok : Sok (m.ck (defs.map (·.x)) con xs) (callN (defs.map (·.fd)) lf j) G G P w base (8 * j) (8 * j + 7) (kW E) (cxOf (L2.CX P w) P w G.K G.mg base m.fd.names m.x (defScope m.st) (He.fAd G.K (m.x, none)) cdv A outer s H E) :=
        { cok := ⟨rfl, rfl, rfl, rfl, rfl, rfl, sc.nd, rfl, hr, takes_of rfl rfl rfl rfl, passes_of rfl⟩
          md := md
          sup := Sup.refl
          sc := rfl
          top := fun _ => rfl
          gen := by
            show GenA G _ (if m.ki = 1 then 1 else if m.ki = 2 then 2 else 0)
            by_cases k1 : m.ki = 1
            · rw [if_pos k1]
              obtain ⟨PP, t1, t2, t3⟩ := tab (by omega)
              have ek : m.kind (G.T.map (·.1)) = .gen := by unfold Mdf.kind; rw [if_pos k1]
              rw [ek] at t1 t2
              exact ⟨c0, PP, .gen, e0, t1, t2, t3.bm, t3.gP, .inl t3.code, .inl rfl⟩
            · rw [if_neg k1]
              by_cases k2 : m.ki = 2
              · rw [if_pos k2]
                obtain ⟨PP, t1, t2, t3⟩ := tab (by omega)
                have ek : m.kind (G.T.map (·.1)) = .nest (G.T.map (·.1)) := by unfold Mdf.kind; rw [if_neg k1, if_pos k2]
                rw [ek] at t1 t2
                exact ⟨c0, PP, _, e0, t1, t2, t3.bm, t3.gP, .inl t3.code, .inr (.inl ⟨_, rfl, rfl⟩)⟩
              · rw [if_neg k2]
                trivial
          lam := fun hlam => by
            have k3 : m.ki = 3 := of_decide_eq_true hlam
            obtain ⟨PP, t1, t2, t3⟩ := tab (by omega)
            have ek : m.kind (G.T.map (·.1)) = .lam (m.x ++ ".<locals>." ++ "<lambda>") := by unfold Mdf.kind; rw [if_neg (by omega), if_neg (by omega)]
            rw [ek] at t1 t2
            exact ⟨c0, PP, e0, t1, t2, t3⟩
          ll := fun _ => by omega
          rm := by
            show 8 * j + (if m.ki = 1 then 1 else if m.ki = 2 then 2 else 0) + 1 ≤ 8 * j + 7
            split
            · omega
            · split <;> omega }
      exact ⟨_, chkSs_ok m.fd.body h4 sc.kind sok ⟨rfl, rfl, by omega⟩, Z, A0, _, S, R, env_start r hl h0, leave_ok R.len hP⟩
    · rw [if_neg hl] at hP
      exact hP.elim
/-- the binding of a def's parameters -/
theorem chk_binds {fns : List Str} {xs : Xt} {K : PySem.W.Frag} {m : Mdf} (hc : chkF fns con xs m = true) {fd : FuncData} (F : FunD K m.x m.x (defArgs m.st) (defBody m.st) (defScope m.st) [] [] (He.fAd K (m.x, none)) fd) :
    Binds K fd m.ps [] ∧ ∀ (s : Shared) (us : List Value), us.length = m.ps.length → BindsTo s fd ⟨us, []⟩ (m.ps.zip us) := by
  unfold chkF at hc
  simp only [Bool.and_eq_true, Bool.not_eq_true', decide_eq_true_eq] at hc
  obtain ⟨⟨⟨⟨h0, h1⟩, h2⟩, h3⟩, h4⟩ := hc
  obtain ⟨args, ha, hp⟩ := argB_ok h2
  have nd : (args.map (·.arg)).Nodup := by
    rw [hp]
    exact (scB_ok h1).nd.sublist (List.take_sublist _ _)
  have b : ∀ (kV doc pm : Value) (an : Option Addr) (cdv ct : Value) (us : List Value), us.length = m.ps.length → bindArgs (PySem.W.fnOf m.x m.x (defArgs m.st) (defBody m.st) (defScope m.st) .none kV doc pm an cdv ct) ⟨us, []⟩ = pure (m.ps.zip us) := fun kV doc pm an cdv ct us hl => by
    rw [ha, ← hp]
    exact bindN nd (by rw [hl, hp])
  exact ⟨FunD.bindsN F b, fun s us => FunD.bindsA F b s us⟩
theorem Says.deb (hs : Says defs con xs G base) {m : Mdf} (mem : m ∈ defs) : (m.x == ("__debug__" : Str)) = false := by
  have hc := hs.chk m mem
  unfold chkF at hc
  simp only [Bool.and_eq_true, Bool.not_eq_true', decide_eq_true_eq] at hc
  exact hc.1.2
theorem mods (hs : Says defs con xs G base) (hw : G.w = w) : ∀ j : Nat, Mk (defs.map (·.x)) con xs (callN (defs.map (·.fd)) lf j) G P w base (8 * j)
  | 0 => by
    refine ⟨hs.blt, hs.con, fun f x hf => ?_, hs.exc, hs.wf, hs.xok, fun p hp => (hs.ini p hp P w).up (by omega), hw⟩
    rw [List.getElem?_map] at hf
    obtain ⟨m, hm, rfl⟩ := Option.map_eq_some_iff.mp hf
    have mem := List.mem_of_getElem? hm
    obtain ⟨fd, F⟩ := hs.fn m mem
    refine ⟨_, fd, m.ps, ⟨fun vs H Q E h => ?_, fun A outer s H args us vs Q E hr h0 hb hv h => ?_⟩, hs.glo m mem, F.kp, (chk_binds (hs.chk m mem) F).1, hs.deb mem⟩
    · obtain ⟨_, _, _, _, _, _, h⟩ := h
      exact h.elim
    · obtain ⟨_, _, _, _, _, _, h⟩ := h
      exact h.elim
  | j + 1 => by
    refine ⟨hs.blt, hs.con, fun f x hf => ?_, hs.exc, hs.wf, hs.xok, fun p hp => (hs.ini p hp P w).up (by omega), hw⟩
    rw [List.getElem?_map] at hf
    obtain ⟨m, hm, rfl⟩ := Option.map_eq_some_iff.mp hf
    have mem := List.mem_of_getElem? hm
    obtain ⟨fd, F⟩ := hs.fn m mem
    exact ⟨_, fd, m.ps, hs.fn_ok (mods hs hw j) hm F, hs.glo m mem, F.kp, (chk_binds (hs.chk m mem) F).1, hs.deb mem⟩
end
end Mp
set_option maxHeartbeats 1000000
/-! Mp.End: a law's end. -/
namespace Mp
open PySem PySem.Spec PyProof.Rows L2
/-- the defs as the head's facts have them -/
def Mdf.d (m : Mdf) : He.DefD := ⟨(m.x, none), m.x, m.x, defArgs m.st, defBody m.st, defScope m.st, [], []⟩
/-- the facts: the built-ins are free, the defs stand, the constants -/
def conFa (con : List (Str × D)) : List He.Fa := con.filterMap fun p => match p.2 with
  | .int i => some (.int p.1 i)
  | .tuple _ => some (.glo p.1)
  | _ => none
/-- the exceptions: each stands, is one, and is taken by which clause -/
def exFa (xs : Xt) : List He.Fa := (xs.xs.map .glo ++ xs.ws.map fun p => .glo p.1) ++ xs.ns.map .exc ++ xs.xs.flatMap fun q => xs.xs.map fun x => .exm q x (catchB q x)
/-- the defs that the head must show -/
def dOf (defs : List Mdf) (xs : Xt) : List He.DefD := defs.map Mdf.d ++ (xs.ws.map (fun p => ⟨(p.1, none), p.1, p.1, defArgs p.2, defBody p.2, defScope p.2, [], []⟩) ++ xs.is.map fun p => ⟨(p.1, some "__init__"), "__init__", p.1 ++ ".__init__", defArgs p.2.1, defBody p.2.1, defScope p.2.1, [], []⟩)
def faOf (defs : List Mdf) (con : List (Str × D)) (xs : Xt) : List He.Fa := (blts.map .free ++ (defs.map fun m => .glo m.x) ++ conFa con) ++ exFa xs
def tfOf (defs : List Mdf) : List He.Defn := (defs.filter fun m => decide (m.ki ≠ 0)).map fun m => (m.x, none)
def tabs (defs : List Mdf) (K : PySem.W.Frag) : List Addr := (tfOf defs).map fun p => (He.cT K p).2
def valsB : List D → List Value → Bool
  | [], [] => true
  | .str x :: ds, .str y _ :: vs => decide (x = y) && valsB ds vs
  | _, _ => false
theorem valsB_ok {G : Wd} : ∀ {ds : List D} {vs : List Value}, valsB ds vs = true → ∃ xs : List V, Vals xs vs ∧ ∀ Z A, RpAll G Z A xs ds := by
  intro ds
  induction ds with
  | nil =>
    intro vs h
    cases vs with
    | nil => exact ⟨[], .nil, fun _ _ => .nil⟩
    | cons v vs => simp [valsB] at h
  | cons d ds ih =>
    intro vs h
    cases d with
    | str x =>
      cases vs with
      | nil => simp [valsB] at h
      | cons v vs =>
        cases v with
        | str y t =>
          have h : (decide (x = y) && valsB ds vs) = true := h
          rw [Bool.and_eq_true, decide_eq_true_eq] at h
          obtain ⟨xs, h1, h2⟩ := ih h.2
          obtain ⟨rfl, _⟩ := h
          exact ⟨.str x :: xs, .cons ⟨t, rfl⟩ h1, fun Z A => .cons (.str x) (h2 Z A)⟩
        | _ => simp [valsB] at h
    | _ => simp [valsB] at h
/-- a written tuple of texts -/
def conTB (K : PySem.W.Frag) (p : Str × D) : Bool := match p.2 with
  | .tuple ds => (match K.lookup (He.ga K p.1) with
    | some ⟨.type c, _, .seq its _, _⟩ => decide (c = "tuple") && decide (its.size ≤ 1000) && valsB ds its.toList
    | _ => false)
  | _ => true
/-- a class whose own __init__ takes one argument -/
def oexB (K : PySem.W.Frag) (C : Addr) : Bool := match K.lookup C with
  | some ⟨.type t, _, .cls cd, sl⟩ => decide (t = "type") && cd.hasDict && !cd.hasDel && (match cd.mro, sl.toList with
    | .ref c :: bm, [_, _, _, _, some (.builtin n), _] => decide (c = C) && decide (n = "ValueError.__new__") && PySem.HandSPX.refsVE bm
    | _, _ => false)
  | _ => false
theorem oexB_ok {K : PySem.W.Frag} {C : Addr} (h : oexB K C = true) : ∃ nm q N bs bm sn sub ab col dd k0 k1 k2 k3 k5, K.lookup C = some (excClassObj nm q C N bs bm true sn sub ab col dd k0 k1 k2 k3 k5 "ValueError.__new__") ∧ PySem.HandSPX.refsVE bm = true := by
  unfold oexB at h
  split at h
  · rename_i t dd cd sl hk
    simp only [Bool.and_eq_true, decide_eq_true_eq, Bool.not_eq_true'] at h
    obtain ⟨⟨⟨h1, h2⟩, h3⟩, h4⟩ := h
    split at h4
    · rename_i c bm k0 k1 k2 k3 n k5 e1 e2
      simp only [Bool.and_eq_true, decide_eq_true_eq] at h4
      obtain ⟨⟨q1, q2⟩, q3⟩ := h4
      obtain ⟨nm, bs, mro, ns, qn, hd, sn, sub, ab, col, del⟩ := cd
      obtain ⟨l⟩ := sl
      dsimp only at h2 h3 e1 e2
      subst h1 h2 h3 e1 e2 q1 q2
      exact ⟨nm, qn, ns, bs, bm, sn, sub, ab, col, dd, k0, k1, k2, k3, k5, hk, q3⟩
    · cases h4
  · cases h
def flds : List Str := ["part", "index", "most", "line", "place"]
def iniB (K : PySem.W.Frag) (p : Str × Stmt × Str) : Bool := oexB K (He.ga K p.1) && decide (PySem.W.findIn K (.ref (He.ga K p.1)) "__setattr__" = some (some (.builtin "object.__setattr__"))) && decide (PySem.W.subIn K (.ref (He.ga K p.1)) (.type "BaseException") = some true) && decide (PySem.W.typeIn K (.ref (He.ga K p.1)) = some (.type "type")) && PySem.W.keepIn K (.ref (He.ga K p.1)) &&
  decide (PySem.W.findIn K (.ref (He.ga K p.1)) "__init__" = some (some (.ref (He.fAd K (p.1, some "__init__"))))) && decide (PySem.W.typeIn K (.ref (He.fAd K (p.1, some "__init__"))) = some (.type "function")) && decide (PySem.W.findIn K (.ref (He.ga K p.1)) p.2.2 = some none)
def xsB (xs : Xt) (K : PySem.W.Frag) : Bool := (xs.xs.all fun x => excDB K (He.ga K x)) && (xs.xs.all fun x => xs.xs.all fun y => decide (PySem.W.kitOne K (.ref (He.ga K x)) (.ref (He.ga K y)) = some (catchB x y))) && (xs.xs.all fun x => flds.all fun f => decide (PySem.W.findIn K (.ref (He.ga K x)) f = some none)) && xs.is.all (iniB K)
/-- the tables are apart; the classes -/
def exOf (defs : List Mdf) (con : List (Str × D)) (xs : Xt) (K : PySem.W.Frag) : Bool := decide (tabs defs K).Nodup && con.all (conTB K) && xsB xs K
/-- def __init__(self, p): self.f = p -/
def initB (p : Str × Stmt × Str) : Bool := match defArgs p.2.1, defBody p.2.1 with
  | ⟨[], [⟨s, none, _⟩, ⟨q, none, _⟩], none, [], [], none, []⟩, [.Assign [.Attribute (.Name s' _) f _] (.Name q' _) _] => decide (s' = s) && decide (q' = q) && decide (f = p.2.2) && scB [s, q] [s, q] (defScope p.2.1) && visB (defScope p.2.1) s && visB (defScope p.2.1) q && nmB s && nmB q
  | _, _ => false
/-- the classes with an __init__ are among the classes -/
def isOk (xs : Xt) : Bool := xs.is.all fun p => initB p && xs.xs.contains p.1
theorem init_ok {K : PySem.W.Frag} {mg : Str → Option Value} {base : Heap} {P : Program} {w : World} {p : Str × Stmt × Str} {C fI : Addr} {fd : FuncData} {qn : Str} (hb : initB p = true) (T : OexC K C) (hno : PySem.W.findIn K (.ref C) p.2.2 = some none)
    (F : FunD K "__init__" qn (defArgs p.2.1) (defBody p.2.1) (defScope p.2.1) [] [] fI fd) : ∃ ps, FnOk P w K mg base (L2.CX P w) 1 fI fd ps (spI C p.2.2) ∧ Binds K fd ps [] := by
  unfold initB at hb
  split at hb
  · rename_i s ps q pq s' p1 f p2 q' p3 p4 ea eb
    simp only [Bool.and_eq_true, decide_eq_true_eq] at hb
    obtain ⟨⟨⟨⟨⟨⟨⟨h1, h2⟩, h3⟩, h4⟩, h5⟩, h6⟩, h7⟩, h8⟩ := hb
    subst h1 h2 h3
    have sc := scB_ok h4
    have nd : ([⟨s', none, ps⟩, ⟨q', none, pq⟩] : List Arg).map (·.arg) = [s', q'] := rfl
    refine ⟨[s', q'], F.ok sc (fun vs H Q E h => ?_) fun cdv A outer s H vs Q E hr h => ?_, ?_⟩
    · obtain ⟨a, y, rfl, _⟩ := h
      rfl
    · obtain ⟨a, y, rfl, ha, k⟩ := h
      rw [eb]
      refine ⟨_, pss_one (ps_ost (pe_var (i := 0) rfl (visB_ok h5) (nmB_ok h7).1 (nmB_ok h7).2) (pe_var (i := 1) rfl (visB_ok h6) (nmB_ok h8).1 (nmB_ok h8).2)), ?_⟩
      exact ⟨y, rfl, .ref a, rfl, a, C, rfl, T, hno, .inl ⟨ha, k⟩⟩
    · refine FunD.bindsN F fun kV doc pm an cdv ct us hl => ?_
      rw [ea]
      exact bindN (args := [⟨s', none, ps⟩, ⟨q', none, pq⟩]) (by rw [nd]; exact sc.nd) (by rw [nd]; exact hl)
  · cases hb
def TOf (defs : List Mdf) (K : PySem.W.Frag) : List (Addr × TK) := (defs.filter fun m => decide (m.ki ≠ 0)).map fun m => ((He.cT K (m.x, none)).2, m.kind (tabs defs K))
abbrev WdOf (defs : List Mdf) (K : PySem.W.Frag) (mg : Str → Option Value) (w : World) : Wd := ⟨K, mg, TOf defs K, w⟩
theorem TOf_fst (defs : List Mdf) (K : PySem.W.Frag) : (TOf defs K).map (·.1) = tabs defs K := by
  unfold TOf tabs tfOf
  rw [List.map_map, List.map_map]
  rfl
/-- constants that are ints -/
def conOk (con : List (Str × D)) : Bool := con.all fun p => !(p.1 == ("__debug__" : Str)) && match p.2 with
  | .int _ => true
  | .tuple _ => true
  | _ => false
def xsOk (xs : Xt) : Bool := (xs.xs.all fun x => !(x == ("__debug__" : Str))) && (xs.ns.all fun x => xs.xs.contains x) && isOk xs
theorem xs_parts {xs : Xt} (h : xsOk xs = true) : (∀ x ∈ xs.xs, (x == ("__debug__" : Str)) = false) ∧ (∀ x ∈ xs.ns, x ∈ xs.xs) ∧ ∀ p ∈ xs.is, initB p = true ∧ p.1 ∈ xs.xs := by
  unfold xsOk isOk at h
  simp only [Bool.and_eq_true, List.all_eq_true, Bool.not_eq_true'] at h
  obtain ⟨⟨h1, h2⟩, h3⟩ := h
  exact ⟨h1, fun x hx => by simpa using h2 x hx, fun p hp => ⟨(h3 p hp).1, by simpa using (h3 p hp).2⟩⟩
section
variable {defs : List Mdf} {con : List (Str × D)} {xs : Xt} {K : PySem.W.Frag} {h base : Heap} {mg : Str → Option Value} {w : World} {ts : List He.Tab} (c : He.SaysX (faOf defs con xs) (dOf defs xs) ts (tfOf defs) (exOf defs con xs) w h K)
include c
theorem says_xg (X : K.In base) (G : base.Ns mainGlobals mg) : ∀ q ∈ xs.xs, mg q = some (.ref (He.ga K q)) := fun q hq => He.glo_ok X G (He.SaysD.facts c.t.d (f := .glo q) (by
  unfold faOf exFa
  exact List.mem_append_right _ (List.mem_append_left _ (List.mem_append_left _ (List.mem_append_left _ (List.mem_map_of_mem hq))))))
theorem says_wg (X : K.In base) (G : base.Ns mainGlobals mg) : ∀ p ∈ xs.ws, mg p.1 = some (.ref (He.ga K p.1)) := fun p hp => He.glo_ok X G (He.SaysD.facts c.t.d (f := .glo p.1) (by
  unfold faOf exFa
  exact List.mem_append_right _ (List.mem_append_left _ (List.mem_append_left _ (List.mem_append_right _ (List.mem_map_of_mem (f := fun p : Str × Stmt => He.Fa.glo p.1) hp))))))
theorem says_exm : ∀ q ∈ xs.xs, ∀ x ∈ xs.xs, PySem.W.exmOne K (.ref (He.ga K q)) (.ref (He.ga K x)) = some (catchB q x) := fun q hq x hx => He.exm_ok (He.SaysD.facts c.t.d (f := .exm q x (catchB q x)) (by
  unfold faOf exFa
  exact List.mem_append_right _ (List.mem_append_right _ (List.mem_flatMap.mpr ⟨q, hq, List.mem_map_of_mem (f := fun x => He.Fa.exm q x (catchB q x)) hx⟩))))
theorem says_more : (tabs defs K).Nodup ∧ (∀ p ∈ con, conTB K p = true) ∧ (∀ x ∈ xs.xs, excDB K (He.ga K x) = true) ∧ (∀ x ∈ xs.xs, ∀ y ∈ xs.xs, PySem.W.kitOne K (.ref (He.ga K x)) (.ref (He.ga K y)) = some (catchB x y)) ∧ (∀ x ∈ xs.xs, ∀ f ∈ flds, PySem.W.findIn K (.ref (He.ga K x)) f = some none) ∧ ∀ p ∈ xs.is, iniB K p = true := by
  have hm := c.more
  unfold exOf xsB at hm
  simp only [Bool.and_eq_true, List.all_eq_true, decide_eq_true_eq] at hm
  obtain ⟨⟨h1, h2⟩, ⟨⟨h3, h4⟩, h5⟩, h6⟩ := hm
  exact ⟨h1, h2, h3, h4, h5, h6⟩
end
theorem says_of {defs : List Mdf} {con : List (Str × D)} {xs : Xt} {K : PySem.W.Frag} {h base : Heap} {mg : Str → Option Value} {w : World} {ts : List He.Tab} (c : He.SaysX (faOf defs con xs) (dOf defs xs) ts (tfOf defs) (exOf defs con xs) w h K) (X : K.In base) (G : base.Ns mainGlobals mg)
    (hc : (defs.all fun m => chkF (defs.map (·.x)) con xs m) = true) (hcon : conOk con = true) (hxs : xsOk xs = true) (TB : ∀ p ∈ (tfOf defs).map (He.cT K), LamX.TabB base mg p.1 p.2)   : Says defs con xs (WdOf defs K mg w) base where
  chk := fun m hm => List.all_eq_true.mp hc m hm
  fn := fun m hm => He.SaysD.defs c.t.d (d := m.d) (by
    unfold dOf
    exact List.mem_append_left _ (List.mem_map_of_mem hm))
  glo := fun m hm => He.glo_ok X G (He.SaysD.facts c.t.d (f := .glo m.x) (by
    unfold faOf
    exact List.mem_append_left _ (List.mem_append_left _ (List.mem_append_right _ (List.mem_map_of_mem (f := fun m : Mdf => He.Fa.glo m.x) hm)))))
  exc := fun x hx => by
    obtain ⟨x1, x2, _⟩ := xs_parts hxs
    have gl := says_xg c X G
    obtain ⟨e1, e2, e3, e4⟩ := He.exc_ok (He.SaysD.facts c.t.d (f := .exc x) (by
      unfold faOf exFa
      exact List.mem_append_right _ (List.mem_append_left _ (List.mem_append_right _ (List.mem_map_of_mem hx)))))
    exact ⟨_, ⟨gl x (x2 x hx), e1, e2, e3, e4, x1 x (x2 x hx)⟩, fun q hq => ⟨_, gl q (x2 q hq), says_exm c q (x2 q hq) x (x2 x hx)⟩⟩
  wf := fun p hp => ⟨He.SaysD.defs c.t.d (d := ⟨(p.1, none), p.1, p.1, defArgs p.2, defBody p.2, defScope p.2, [], []⟩) (by
    unfold dOf
    exact List.mem_append_right _ (List.mem_append_left _ (List.mem_map_of_mem (f := fun p : Str × Stmt => (⟨(p.1, none), p.1, p.1, defArgs p.2, defBody p.2, defScope p.2, [], []⟩ : He.DefD)) hp))), says_wg c X G p hp⟩
  xok := by
    obtain ⟨x1, x2, _⟩ := xs_parts hxs
    obtain ⟨m1, m2, m3, m4, m5, m6⟩ := says_more c
    have gl := says_xg c X G
    have at_ : ∀ {x : Str} {C : Addr}, x ∈ xs.xs → mg x = some (.ref C) → C = He.ga K x := fun hx e => by
      rw [gl _ hx] at e
      cases e
      rfl
    refine ⟨⟨fun x hx => ⟨_, gl x hx, excDB_ok (m3 x hx), x1 x hx⟩, fun x hx y hy C D hC hD => ?_⟩, fun x hx D hD f hf => ?_, fun x hx => ⟨_, gl x hx, x1 x hx, fun q hq => ⟨_, gl q hq, says_exm c q hq x hx⟩⟩, He.free_ok X G (He.SaysD.facts c.t.d (f := .free "isinstance") (by
      unfold faOf
      exact List.mem_append_left _ (List.mem_append_left _ (List.mem_append_left _ (List.mem_map_of_mem (by decide : ("isinstance" : Str) ∈ blts))))))⟩
    · rw [at_ hx hC, at_ hy hD]
      exact m4 x hx y hy
    · rw [at_ hx hD]
      exact m5 x hx f hf
  ini := fun p hp P w' => by
    obtain ⟨x1, x2, x3⟩ := xs_parts hxs
    obtain ⟨m1, m2, m3, m4, m5, m6⟩ := says_more c
    obtain ⟨h1, h2⟩ := x3 p hp
    have hi := m6 p hp
    unfold iniB at hi
    simp only [Bool.and_eq_true, decide_eq_true_eq] at hi
    obtain ⟨⟨⟨⟨⟨⟨⟨i1, i2⟩, i3⟩, i4⟩, i5⟩, i6⟩, i7⟩, i8⟩ := hi
    have T : OexC K (He.ga K p.1) := ⟨oexB_ok i1, i2, i3, i4, i5⟩
    obtain ⟨fd, F⟩ : ∃ fd, FunD K "__init__" (p.1 ++ ".__init__") (defArgs p.2.1) (defBody p.2.1) (defScope p.2.1) [] [] (He.fAd K (p.1, some "__init__")) fd := He.SaysD.defs c.t.d (d := ⟨(p.1, some "__init__"), "__init__", p.1 ++ ".__init__", defArgs p.2.1, defBody p.2.1, defScope p.2.1, [], []⟩) (by
      unfold dOf
      exact List.mem_append_right _ (List.mem_append_right _ (List.mem_map_of_mem (f := fun p : Str × Stmt × Str => (⟨(p.1, some "__init__"), "__init__", p.1 ++ ".__init__", defArgs p.2.1, defBody p.2.1, defScope p.2.1, [], []⟩ : He.DefD)) hp)))
    obtain ⟨ps, k1, k2⟩ := init_ok (mg := mg) (base := base) (P := P) (w := w') h1 T i8 F
    exact ⟨_, _, fd, ps, T, i6, i7, k1, k2, says_xg c X G _ h2, x1 _ h2⟩
  blt := fun x hx => He.free_ok X G (He.SaysD.facts c.t.d (f := .free x) (by
    unfold faOf
    exact List.mem_append_left _ (List.mem_append_left _ (List.mem_append_left _ (List.mem_map_of_mem hx)))))
  con := fun x d hl => by
    have mem := PySem.mem_of_lookup hl
    have h1 := List.all_eq_true.mp hcon _ mem
    simp only [Bool.and_eq_true, Bool.not_eq_true'] at h1
    obtain ⟨h1, h2⟩ := h1
    cases d with
    | int i =>
      obtain ⟨t, ht⟩ := He.int_ok X G (He.SaysD.facts c.t.d (f := .int x i) (by
        unfold faOf conFa
        exact List.mem_append_left _ (List.mem_append_right _ (List.mem_filterMap.mpr ⟨_, mem, rfl⟩))))
      exact ⟨h1, .int i, _, ht, ⟨t, rfl⟩, fun _ _ => .int i⟩
    | tuple ds =>
      have ht := (says_more c).2.1 _ mem
      have hg : mg x = some (.ref (He.ga K x)) := He.glo_ok X G (He.SaysD.facts c.t.d (f := .glo x) (by
        unfold faOf conFa
        exact List.mem_append_left _ (List.mem_append_right _ (List.mem_filterMap.mpr ⟨_, mem, rfl⟩))))
      unfold conTB at ht
      split at ht
      · rename_i ds' e1
        cases e1
        split at ht
        · rename_i cc od its nn sl hk
          simp only [Bool.and_eq_true, decide_eq_true_eq] at ht
          obtain ⟨⟨t1, t2⟩, t3⟩ := ht
          obtain ⟨vs, v1, v2⟩ := valsB_ok (G := WdOf defs K mg w) t3
          subst t1
          exact ⟨h1, .ref (He.ga K x), _, hg, rfl, fun Z A => .tup (.inr ⟨_, its, nn, hk, rfl, rfl, by rw [sizeLine_eq]; omega, v1⟩) (v2 Z A)⟩
        · cases ht
      · rename_i hne
        exact absurd rfl (hne ds)
    | _ => cases h2
  tab := fun m hm hk => by
    have e := TOf_fst defs K
    have mem : m ∈ defs.filter fun m => decide (m.ki ≠ 0) := List.mem_filter.mpr ⟨hm, decide_eq_true hk⟩
    have mt : ((He.cT K (m.x, none)).2, m.kind (tabs defs K)) ∈ TOf defs K := List.mem_map_of_mem (f := fun m : Mdf => ((He.cT K (m.x, none)).2, m.kind (tabs defs K))) mem
    show ((He.cT K (m.x, none)).2, m.kind ((TOf defs K).map (·.1))) ∈ TOf defs K ∧ (∀ q ∈ TOf defs K, q.1 = (He.cT K (m.x, none)).2 → q.2 = m.kind ((TOf defs K).map (·.1))) ∧ LamX.TabB base mg (He.cT K (m.x, none)).1 (He.cT K (m.x, none)).2
    rw [e]
    have nd : ((TOf defs K).map (·.1)).Nodup := by
      rw [e]
      exact (says_more c).1
    refine ⟨mt, fun q hq eq => ?_, TB _ (List.mem_map_of_mem (List.mem_map_of_mem (f := fun m : Mdf => ((m.x, none) : He.Defn)) mem))⟩
    have two : ∀ {l : List (Addr × TK)}, (l.map (·.1)).Nodup → ∀ {a b : Addr × TK}, a ∈ l → b ∈ l → a.1 = b.1 → a = b := by
      intro l
      induction l with
      | nil => intro _ a b ha; cases ha
      | cons x r ih =>
        intro nd a b ha hb e
        have n2 := List.nodup_cons.mp (show (x.1 :: r.map (·.1)).Nodup from nd)
        rcases List.mem_cons.mp ha with ha | ha <;> rcases List.mem_cons.mp hb with hb | hb
        · rw [ha, hb]
        · exact absurd (by rw [← ha, e]; exact List.mem_map_of_mem hb) n2.1
        · exact absurd (by rw [← hb, ← e]; exact List.mem_map_of_mem ha) n2.1
        · exact ih n2.2 ha hb e
    exact congrArg Prod.snd (two nd hq mt eq)
/-! ### the first heap -/
/-- the frozen part: all but the tables -/
def zOf (H : Hp) : Hp := fun a => match H a with
  | some (.tbl _) => none
  | o => o
theorem zOf_some {H : Hp} {a : Addr} {o : HO} (h : zOf H a = some o) : H a = some o := by
  unfold zOf at h
  split at h
  · cases h
  · exact h
theorem zOf_of {H : Hp} {a : Addr} {o : HO} (h : H a = some o) (n : ∀ ps, o ≠ .tbl ps) : zOf H a = some o := by
  unfold zOf
  split
  · rename_i ps e
    rw [h] at e
    cases e
    exact (n ps rfl).elim
  · exact h
theorem zOf_tbl {H : Hp} {a : Addr} {ps : Array Value} : zOf H a ≠ some (.tbl ps) := fun h => by
  have e := zOf_some h
  unfold zOf at h
  rw [e] at h
  cases h
theorem rel_start {G : Wd} {H : Hp} (h : ∀ p ∈ G.T, H p.1 = some (.tbl #[]) ∧ ∀ c, p.2 ≠ .dyn c) : Rel G (zOf H) [] [] H where
  sub := fun a o e => zOf_some e
  len := rfl
  nd := List.nodup_nil
  at_ := fun l a m e _ => by simp at e
  tabs := fun p hp => by
    obtain ⟨h1, h2⟩ := h p hp
    obtain ⟨a, k⟩ := p
    cases k with
    | gen => exact ⟨#[], h1, trivial⟩
    | nest B => exact ⟨#[], h1, trivial, fun pos cv e => by cases e⟩
    | dyn c => exact (h2 c rfl).elim
    | lam q => exact ⟨#[], h1, trivial, fun pos cv e => by cases e⟩
  zt := fun a ps => zOf_tbl
theorem scr_start {K : PySem.W.Frag} {H : Hp} {a : Addr} {ns : List Int} (h : SqL K H a (ns.map V.int)) : SqL K (zOf H) a (ns.map V.int) := by
  rcases h with (h | ⟨o, h⟩) | h
  · exact .inl (.inl (zOf_of h fun ps e => by cases e))
  · exact .inl (.inr ⟨o, zOf_of h fun ps e => by cases e⟩)
  · exact .inr h
/-- THE LAW'S END: the evaluator's word is the program's -/
theorem law_at {l : PySem.W.OpenLaw} {w : World} {defs : List Mdf} {con : List (Str × D)} {xs : Xt} {K : PySem.W.Frag} {h : Heap} {mg : Str → Option Value} {fa : Addr} {ts : List He.Tab} {f j lf n : Nat} {m : Mdf} {x : Str} (c : He.SaysX (faOf defs con xs) (dOf defs xs) ts (tfOf defs) (exOf defs con xs) w h K) (X : K.In h) (G : h.Ns mainGlobals mg) (hfa : mg m.x = some (.ref fa))
    (hc : (defs.all fun m => chkF (defs.map (·.x)) con xs m) = true) (hcon : conOk con = true) (hxs : xsOk xs = true) (hm : defs[f]? = some m) (hps : m.ps = [x])
    (hrun : ∀ ns : List Int, ns.length ≤ n → (∀ z ∈ ns, Builtin.Int.intBits z ≤ 1048576) → callN (defs.map (·.fd)) lf (j + 1) f [oScr ns] [] = .ok (.bool true) []) :
    LamX.LawAtS l w K (L2.CX l.prog w) (8 * (j + 1)) n x mg fa h := by
  have mem := List.mem_of_getElem? hm
  have saysB : ∀ base : Heap, K.In base → base.Ns mainGlobals mg → (∀ p ∈ (tfOf defs).map (He.cT K), LamX.TabB base mg p.1 p.2) → Says defs con xs (WdOf defs K mg w) base := fun base X G TB => says_of c X G hc hcon hxs TB
  obtain ⟨fd, F⟩ : ∃ fd, FunD K m.x m.x (defArgs m.st) (defBody m.st) (defScope m.st) [] [] (He.fAd K (m.x, none)) fd := He.SaysD.defs c.t.d (d := m.d) (by
    unfold dOf
    exact List.mem_append_left _ (List.mem_map_of_mem mem))
  have efa : fa = He.fAd K (m.x, none) := by
    have e := hfa.symm.trans (He.glo_ok X G (He.SaysD.facts c.t.d (f := .glo m.x) (by
      unfold faOf
      exact List.mem_append_left _ (List.mem_append_left _ (List.mem_append_right _ (List.mem_map_of_mem (f := fun m : Mdf => He.Fa.glo m.x) mem))))))
    cases e
    rfl
  have hcm := List.all_eq_true.mp hc m mem
  refine ⟨fd, (tfOf defs).map (He.cT K), spD (callN (defs.map (·.fd)) lf (j + 1)) f (WdOf defs K mg w), fun p hp => ?_, fun p hp => ?_, fun p hp => ?_, fun s u => ?_, fun H a ns hl hb hT hS => ?_, fun base X' G' TB => ?_⟩
  · obtain ⟨q, hq, rfl⟩ := List.mem_map.mp hp
    exact c.empty q hq
  · obtain ⟨q, hq, rfl⟩ := List.mem_map.mp hp
    exact c.out q hq
  · obtain ⟨q, hq, rfl⟩ := List.mem_map.mp hp
    exact PySem.W.codeHd_of_K X (c.hd q hq)
  · have := (chk_binds hcm F).2 s [u] (by rw [hps]; rfl)
    rw [hps] at this
    exact this
  · refine ⟨zOf H, [], [], [oScr ns], rel_start fun p hp => ?_, .cons (.scr (scr_start hS)) .nil, ?_⟩
    · obtain ⟨m', hm', rfl⟩ := List.mem_map.mp hp
      have hf := List.mem_filter.mp hm'
      refine ⟨hT _ (List.mem_map_of_mem (List.mem_map_of_mem (f := fun m : Mdf => ((m.x, none) : He.Defn)) hm')), fun c e => ?_⟩
      have e : m'.kind (tabs defs K) = .dyn c := e
      unfold Mdf.kind at e
      split at e
      · cases e
      · split at e <;> cases e
    · rw [hrun ns hl hb]
      intro v H' Z' A' f' R rv
      cases rv
      rfl
  · subst efa
    have hs := saysB base X' G' TB
    rw [← hps]
    exact hs.fn_ok (mods hs rfl j) hm F
end Mp
set_option maxHeartbeats 200000
/-! Pl1: plain walking over the evaluator; data of plain kinds. -/
namespace Mp
open PySem
theorem snocRec {α : Type} {P : List α → Prop} (nil : P []) (app : ∀ xs x, P xs → P (xs ++ [x])) (l : List α) : P l := by
  rw [← List.reverse_reverse l]
  induction l.reverse with
  | nil => exact nil
  | cons x xs ih =>
    rw [List.reverse_cons]
    exact app _ _ ih
/-! ### data that stand for plain things -/
class En (α : Type) where
  e : α → D
  lay : ∀ a, (e a).canLay0 = true
  dep : Nat
  hdep : ∀ a, (e a).depth ≤ dep
  eqv : ∀ a b, PyData.eqv (e a) (e b) = true ↔ a = b
open En (e)
class OEn (α : Type) [En α] where
  lt : α → α → Bool
  alk : ∀ a b : α, PySem.W.alike (e a) (e b) = true
  dl : ∀ a b : α, PySem.W.dataLt (e a) (e b) = lt a b
instance : En Nat where
  e k := .int (k : Int)
  lay _ := rfl
  dep := 0
  hdep _ := by simp [PyData.depth]
  eqv a b := by simp [PyData.eqv]; omega
instance : OEn Nat where
  lt a b := decide (a < b)
  alk _ _ := rfl
  dl a b := (PySem.W.dataLt_int _ _).trans (by simp)
theorem lay_all {α : Type} [En α] : ∀ xs : List α, PyData.canLayAll0 (xs.map e) = true
  | [] => rfl
  | x :: xs => by simp [PyData.canLayAll0, En.lay, lay_all xs]
theorem dep_all {α : Type} [En α] : ∀ xs : List α, PyData.depthAll (xs.map e) ≤ En.dep α
  | [] => Nat.zero_le _
  | x :: xs => by
    have := En.hdep x
    have := dep_all xs
    simp only [List.map_cons, PyData.depthAll]
    omega
theorem eqv_all {α : Type} [En α] : ∀ xs ys : List α, PyData.eqvAll (xs.map e) (ys.map e) = true ↔ xs = ys
  | [], [] => by simp [PyData.eqvAll]
  | [], _ :: _ => by simp [PyData.eqvAll]
  | _ :: _, [] => by simp [PyData.eqvAll]
  | x :: xs, y :: ys => by simp [PyData.eqvAll, En.eqv, eqv_all xs ys]
instance {α : Type} [En α] : En (List α) where
  e xs := .tuple (xs.map e)
  lay xs := by simp [PyData.canLay0, lay_all]
  dep := En.dep α + 1
  hdep xs := by
    have := dep_all xs
    simp only [PyData.depth]
    omega
  eqv xs ys := by simp [PyData.eqv, eqv_all]
instance {α β : Type} [En α] [En β] : En (α × β) where
  e p := .tuple [e p.1, e p.2]
  lay p := by simp [PyData.canLay0, PyData.canLayAll0, En.lay]
  dep := max (En.dep α) (En.dep β) + 1
  hdep p := by
    have := En.hdep p.1
    have := En.hdep p.2
    simp only [PyData.depth, PyData.depthAll]
    omega
  eqv p q := by
    obtain ⟨a, b⟩ := p
    obtain ⟨c, d⟩ := q
    simp [PyData.eqv, PyData.eqvAll, En.eqv]
theorem shaped_e {α : Type} [En α] (a : α) (h : En.dep α ≤ 64 := by decide) : SeqAt.shaped (e a) = true := by
  have := En.hdep a
  simp [SeqAt.shaped, En.lay]
  omega
theorem eqv_e {α : Type} [En α] [DecidableEq α] (a b : α) : PyData.eqv (e a) (e b) = decide (a = b) := by
  have := En.eqv a b
  cases h : PyData.eqv (e a) (e b) <;> simp_all
theorem shaped_lst {α : Type} [En α] (xs : List α) (h : En.dep α < 64 := by decide) : SeqAt.shaped (.list (xs.map e)) = true := by
  have := dep_all xs
  simp [SeqAt.shaped, PyData.canLay0, lay_all, PyData.depth]
  omega
theorem eqD_e {α : Type} [En α] [DecidableEq α] (a b : α) (h : En.dep α ≤ 64 := by decide) : eqD (e a) (e b) = some (decide (a = b)) := by
  unfold eqD
  rw [shaped_e a h, shaped_e b h, eqv_e]
  rfl
theorem eqD_lst {α : Type} [En α] [DecidableEq α] (xs ys : List α) (h : En.dep α < 64 := by decide) : eqD (.list (xs.map e)) (.list (ys.map e)) = some (decide (xs = ys)) := by
  unfold eqD
  rw [shaped_lst xs h, shaped_lst ys h]
  have := eqv_all xs ys
  cases q : PyData.eqvAll (xs.map e) (ys.map e) <;> simp_all [PyData.eqv]
theorem any_eqv {α : Type} [En α] [DecidableEq α] (a : α) (xs : List α) : ((xs.map e).any fun z => PyData.eqv z (e a)) = decide (a ∈ xs) := by
  induction xs with
  | nil => simp
  | cons x xs ih =>
    simp only [List.map_cons, List.any_cons, ih, eqv_e, List.mem_cons]
    by_cases h : x = a <;> simp [h, eq_comm]
    exact fun z => absurd z.symm h
theorem inD_tup {α : Type} [En α] [DecidableEq α] (a : α) (xs : List α) (h : En.dep α < 64 := by decide) : inD (e a) (.tuple (xs.map e)) = some (decide (a ∈ xs)) := by
  unfold inD
  have h2 : SeqAt.shaped (.tuple (xs.map e)) = true := shaped_e xs h
  rw [shaped_e a (Nat.le_of_lt h), h2]
  exact congrArg some (any_eqv a xs)
theorem inD_lst {α : Type} [En α] [DecidableEq α] (a : α) (xs : List α) (h : En.dep α < 64 := by decide) : inD (e a) (.list (xs.map e)) = some (decide (a ∈ xs)) := by
  unfold inD
  rw [shaped_e a (Nat.le_of_lt h), shaped_lst xs h]
  exact congrArg some (any_eqv a xs)
/-! ### walks that change nothing -/
section
variable {β : Type} {S : Store}
theorem mapItems_eq {α : Type} {turn : D → Store → R (List D)} (en : α → D) (g : α → List D) : ∀ xs : List α, (∀ x ∈ xs, turn (en x) S = .ok (g x) S) → mapItems turn (xs.map en) S = .ok (xs.flatMap g) S
  | [], _ => rfl
  | x :: xs, h => by
    rw [List.map_cons, mapItems, h x List.mem_cons_self]
    show R.bind (mapItems turn (xs.map en) S) _ = _
    rw [mapItems_eq en g xs fun y hy => h y (List.mem_cons_of_mem _ hy)]
    rfl
theorem anyItems_eq {α : Type} {turn : D → Store → R Bool} (en : α → D) (g : α → Bool) : ∀ xs : List α, (∀ x ∈ xs, turn (en x) S = .ok (g x) S) → anyItems turn (xs.map en) S = .ok (xs.any g) S
  | [], _ => rfl
  | x :: xs, h => by
    rw [List.map_cons, anyItems, h x List.mem_cons_self]
    show (if g x = true then R.ok true S else anyItems turn (xs.map en) S) = _
    rw [anyItems_eq en g xs fun y hy => h y (List.mem_cons_of_mem _ hy), List.any_cons]
    cases g x <;> rfl
theorem drop_at {α : Type} {xs : List α} {i : Nat} {x : α} (h : xs[i]? = some x) : xs.drop i = x :: xs.drop (i + 1) := by
  obtain ⟨hlt, rfl⟩ := List.getElem?_eq_some_iff.mp h
  exact List.drop_eq_getElem_cons hlt
theorem mapObj_eq {α : Type} {turn : D → Store → R (List D)} {l : Nat} (en : α → D) (g : α → List D) (xs : List α) (hl : S[l]? = some (.lst (xs.map en))) (h : ∀ x ∈ xs, turn (en x) S = .ok (g x) S) :
    ∀ f i, xs.length < f + i → i ≤ xs.length → mapObj l turn f i S = .ok ((xs.drop i).flatMap g) S
  | 0, i, hf, hi => by omega
  | f + 1, i, hf, hi => by
    rw [mapObj, hl]
    cases hi : xs[i]? with
    | none =>
      have : xs.length ≤ i := List.getElem?_eq_none_iff.mp hi
      simp [hi, List.drop_eq_nil_of_le this]
    | some x =>
      have hlt : i < xs.length := (List.getElem?_eq_some_iff.mp hi).1
      have hx : x ∈ xs := List.mem_of_getElem? hi
      have e1 : (xs.map en)[i]? = some (en x) := by simp [hi]
      simp only [e1, h x hx, R.bind, mapObj_eq en g xs hl h f (i + 1) (by omega) hlt, drop_at hi, List.flatMap_cons]
theorem anyObj_eq {α : Type} {turn : D → Store → R Bool} {l : Nat} (en : α → D) (g : α → Bool) (xs : List α) (hl : S[l]? = some (.lst (xs.map en))) (h : ∀ x ∈ xs, turn (en x) S = .ok (g x) S) :
    ∀ f i, xs.length < f + i → i ≤ xs.length → anyObj l turn f i S = .ok ((xs.drop i).any g) S
  | 0, i, hf, hi => by omega
  | f + 1, i, hf, hi => by
    rw [anyObj, hl]
    cases hi : xs[i]? with
    | none =>
      have : xs.length ≤ i := List.getElem?_eq_none_iff.mp hi
      simp [hi, List.drop_eq_nil_of_le this]
    | some x =>
      have hlt : i < xs.length := (List.getElem?_eq_some_iff.mp hi).1
      have hx : x ∈ xs := List.mem_of_getElem? hi
      have e1 : (xs.map en)[i]? = some (en x) := by simp [hi]
      simp only [e1, h x hx, R.bind, anyObj_eq en g xs hl h f (i + 1) (by omega) hlt, drop_at hi, List.any_cons]
      cases g x <;> rfl
/-- what is walked, read -/
def Src (v : Itv) (ds : List D) (S : Store) : Prop := match v with
  | .items es => es = ds
  | .obj l => S[l]? = some (.lst ds)
theorem mapItv_eq {α : Type} {turn : D → Store → R (List D)} {v : Itv} (en : α → D) (g : α → List D) (xs : List α) (hs : Src v (xs.map en) S) (h : ∀ x ∈ xs, turn (en x) S = .ok (g x) S) : mapItv turn v S = .ok (xs.flatMap g) S := by
  cases v with
  | items es =>
    cases (show es = xs.map en from hs)
    exact mapItems_eq en g xs h
  | obj l =>
    have hs : S[l]? = some (.lst (xs.map en)) := hs
    rw [mapItv, hs]
    have := mapObj_eq en g xs hs h ((xs.map en).length + 1) 0 (by simp) (Nat.zero_le _)
    simpa using this
theorem anyItv_eq {α : Type} {turn : D → Store → R Bool} {v : Itv} (en : α → D) (g : α → Bool) (xs : List α) (hs : Src v (xs.map en) S) (h : ∀ x ∈ xs, turn (en x) S = .ok (g x) S) : anyItv turn v S = .ok (xs.any g) S := by
  cases v with
  | items es =>
    cases (show es = xs.map en from hs)
    exact anyItems_eq en g xs h
  | obj l =>
    have hs : S[l]? = some (.lst (xs.map en)) := hs
    rw [anyItv, hs]
    have := anyObj_eq en g xs hs h ((xs.map en).length + 1) 0 (by simp) (Nat.zero_le _)
    simpa using this
end
/-! ### loops -/
/-- how a turn may end: on with I, out with O -/
def Out (I : EnvD → Store → Prop) (O : Fl → EnvD → Store → Prop) (p : Fl × EnvD) (S : Store) : Prop := match p.1 with
  | .nx => I p.2 S
  | .cont => I p.2 S
  | .brk => O .nx p.2 S
  | .ret v => O (.ret v) p.2 S
section
variable {turn : D → EnvD → Store → R (Fl × EnvD)} {I : List D → EnvD → Store → Prop} {O : Fl → EnvD → Store → Prop}
theorem forItems_out {ds : List D} (step : ∀ pre d post env S, ds = pre ++ d :: post → I pre env S → ∃ p S', turn d env S = .ok p S' ∧ Out (I (pre ++ [d])) O p S') (done : ∀ env S, I ds env S → O .nx env S) :
    ∀ post pre env S, ds = pre ++ post → I pre env S → ∃ p S', forItems turn post env S = .ok p S' ∧ O p.1 p.2 S'
  | [], pre, env, S, e, h => ⟨(.nx, env), S, rfl, done env S (by rw [e, List.append_nil]; exact h)⟩
  | d :: post, pre, env, S, e, h => by
    obtain ⟨⟨fl, env'⟩, S', e1, h1⟩ := step pre d post env S e h
    rw [forItems, e1]
    cases fl with
    | nx => exact forItems_out step done post (pre ++ [d]) env' S' (by simp [e]) h1
    | cont => exact forItems_out step done post (pre ++ [d]) env' S' (by simp [e]) h1
    | brk => exact ⟨_, _, rfl, h1⟩
    | ret v => exact ⟨_, _, rfl, h1⟩
theorem forObj_out {ds : List D} {l : Nat} (hl : ∀ pre env S, I pre env S → S[l]? = some (.lst ds)) (step : ∀ pre d post env S, ds = pre ++ d :: post → I pre env S → ∃ p S', turn d env S = .ok p S' ∧ Out (I (pre ++ [d])) O p S') (done : ∀ env S, I ds env S → O .nx env S) :
    ∀ f post pre env S, ds = pre ++ post → post.length < f → I pre env S → ∃ p S', forObj l turn f pre.length env S = .ok p S' ∧ O p.1 p.2 S'
  | 0, _, _, _, _, _, hf, _ => by omega
  | f + 1, post, pre, env, S, e, hf, h => by
    rw [forObj, hl pre env S h]
    cases post with
    | nil =>
      have e1 : ds[pre.length]? = none := by rw [e]; simp
      simp only [e1]
      exact ⟨(.nx, env), S, rfl, done env S (by rw [e, List.append_nil]; exact h)⟩
    | cons d post =>
      have e1 : ds[pre.length]? = some d := by rw [e]; simp
      simp only [e1]
      obtain ⟨⟨fl, env'⟩, S', e2, h1⟩ := step pre d post env S e h
      show ∃ p S', (turn d env S).bind _ = _ ∧ _
      rw [e2]
      have k : (pre ++ [d]).length = pre.length + 1 := by simp
      cases fl with
      | nx =>
        have := forObj_out hl step done f post (pre ++ [d]) env' S' (by simp [e]) (by simp at hf; omega) h1
        rw [k] at this
        exact this
      | cont =>
        have := forObj_out hl step done f post (pre ++ [d]) env' S' (by simp [e]) (by simp at hf; omega) h1
        rw [k] at this
        exact this
      | brk => exact ⟨_, _, rfl, h1⟩
      | ret v => exact ⟨_, _, rfl, h1⟩
/-- a for loop -/
theorem forItv_out {v : Itv} (ds : List D) (I : List D → EnvD → Store → Prop) (O : Fl → EnvD → Store → Prop) {env : EnvD} {S : Store} (hs : ∀ pre env S, I pre env S → Src v ds S) (h0 : I [] env S)
    (step : ∀ pre d post env S, ds = pre ++ d :: post → I pre env S → ∃ p S', turn d env S = .ok p S' ∧ Out (I (pre ++ [d])) O p S') (done : ∀ env S, I ds env S → O .nx env S) : ∃ p S', forItv turn v env S = .ok p S' ∧ O p.1 p.2 S' := by
  cases v with
  | items es =>
    have q : es = ds := hs _ _ _ h0
    rw [forItv, q]
    exact forItems_out step done ds [] env S rfl h0
  | obj l =>
    have q : S[l]? = some (.lst ds) := hs _ _ _ h0
    rw [forItv, q]
    exact forObj_out (fun pre env S h => hs pre env S h) step done (ds.length + 1) ds [] env S rfl (by omega) h0
theorem while_out {test : EnvD → Store → R Bool} {body : EnvD → Store → R (Fl × EnvD)} (I : EnvD → Store → Prop) (mu : EnvD → Store → Nat) (O : Fl → EnvD → Store → Prop)
    (step : ∀ env S, I env S → (test env S = .ok false S ∧ O .nx env S) ∨ (test env S = .ok true S ∧ ∃ p S', body env S = .ok p S' ∧ Out (fun env' S' => I env' S' ∧ mu env' S' < mu env S) O p S')) :
    ∀ f env S, I env S → mu env S < f → ∃ p S', whileF test body f env S = .ok p S' ∧ O p.1 p.2 S'
  | 0, _, _, _, h => by omega
  | f + 1, env, S, h, hm => by
    rw [whileF]
    rcases step env S h with ⟨e1, o⟩ | ⟨e1, ⟨fl, env'⟩, S', e2, o⟩
    · rw [e1]
      exact ⟨(.nx, env), S, rfl, o⟩
    · rw [e1]
      show ∃ p S', (body env S).bind _ = _ ∧ _
      rw [e2]
      cases fl with
      | nx => exact while_out I mu O step f env' S' o.1 (by have q : mu env' S' < mu env S := o.2; omega)
      | cont => exact while_out I mu O step f env' S' o.1 (by have q : mu env' S' < mu env S := o.2; omega)
      | brk => exact ⟨_, _, rfl, o⟩
      | ret v => exact ⟨_, _, rfl, o⟩
end
/-! ### comprehensions, any, all -/
section
variable {cal : CallF} {env : EnvD} {S S1 : Store} {v : Itv} {own : List Nat} {t : Tg} {it : It} {hi : Bool} {c ex : E}
def ifT (cal : CallF) (hi : Bool) (c : E) (en : EnvD) (S : Store) : R Bool := if hi then (evalE cal c en S).bind fun x S => opt (truD (rd S x)) S else .ok true S
theorem filt_flat {α β : Type} (p : α → Bool) (f : α → β) : ∀ xs : List α, xs.flatMap (fun x => if p x = true then [f x] else []) = (xs.filter p).map f
  | [] => rfl
  | x :: xs => by
    rw [List.flatMap_cons, filt_flat p f xs, List.filter_cons]
    by_cases h : p x = true
    · rw [if_pos h, if_pos h, List.map_cons]; rfl
    · rw [if_neg h, if_neg h]; rfl
theorem comp_eq {α : Type} {mu : Bool} (xs : List α) (en : α → D) (nv : α → EnvD) (p : α → Bool) (f : α → D) (hit : evalIt cal it env S = .ok v S1) (hs : Src v (xs.map en) S1) (ha : ∀ x ∈ xs, asg t (en x) (wipe env own) = some (nv x))
    (hc : ∀ x ∈ xs, ifT cal hi c (nv x) S1 = .ok (p x) S1) (he : ∀ x ∈ xs, p x = true → evalE cal ex (nv x) S1 = .ok (f x) S1) (hl : (xs.filter p).length ≤ lim) :
    evalE cal (.comp mu own t it hi c ex) env S = give mu ((xs.filter p).map f) S1 := by
  rw [evalE, hit]
  show (noX (mapItv _ v S1)).bind _ = _
  rw [mapItv_eq en (fun x => if p x = true then [f x] else []) xs hs fun x hx => ?_]
  · rw [filt_flat]
    show (if ((xs.filter p).map f).length ≤ lim then _ else _) = _
    rw [if_pos (by simpa using hl)]
  · rw [ha x hx]
    show (ifT cal hi c (nv x) S1).bind _ = _
    rw [hc x hx]
    show (if p x = true then (evalE cal ex (nv x) S1).bind _ else R.ok [] S1) = _
    by_cases h : p x = true
    · rw [if_pos h, if_pos h, he x hx h]; rfl
    · rw [if_neg h, if_neg h]
theorem gen_eq {α : Type} {all : Bool} (xs : List α) (en : α → D) (nv : α → EnvD) (p q : α → Bool) (hit : evalIt cal it env S = .ok v S1) (hs : Src v (xs.map en) S1) (ha : ∀ x ∈ xs, asg t (en x) (wipe env own) = some (nv x))
    (hc : ∀ x ∈ xs, ifT cal hi c (nv x) S1 = .ok (p x) S1) (he : ∀ x ∈ xs, p x = true → evalE cal ex (nv x) S1 = .ok (.bool (q x)) S1) :
    evalE cal (.gen all own t it hi c ex) env S = .ok (.bool ((xs.any fun x => p x && (q x != all)) != all)) S1 := by
  rw [evalE, hit]
  show (noX (anyItv _ v S1)).bind _ = _
  rw [anyItv_eq en (fun x => p x && (q x != all)) xs hs fun x hx => ?_]
  · rfl
  · rw [ha x hx]
    show (ifT cal hi c (nv x) S1).bind _ = _
    rw [hc x hx]
    show (if p x = true then (evalE cal ex (nv x) S1).bind _ else R.ok false S1) = _
    by_cases h : p x = true
    · rw [if_pos h, he x hx h, h]; rfl
    · rw [if_neg h]
      have : p x = false := by simpa using h
      rw [this]; rfl
theorem all_ne {α : Type} (xs : List α) (p q : α → Bool) : ((xs.any fun x => p x && (q x != true)) != true) = xs.all fun x => !p x || q x := by
  induction xs with
  | nil => rfl
  | cons x xs ih =>
    simp only [List.any_cons, List.all_cons]
    rw [← ih]
    cases p x <;> cases q x <;> simp
theorem any_ne {α : Type} (xs : List α) (p q : α → Bool) : ((xs.any fun x => p x && (q x != false)) != false) = xs.any fun x => p x && q x := by simp
@[simp] theorem all_tt {α : Type} (xs : List α) : (xs.all fun _ => true) = true := by simp
theorem genall_eq {α : Type} (xs : List α) (en : α → D) (nv : α → EnvD) (q : α → Bool) (hit : evalIt cal it env S = .ok v S1) (hs : Src v (xs.map en) S1) (ha : ∀ x ∈ xs, asg t (en x) (wipe env own) = some (nv x))
    (he : ∀ x ∈ xs, evalE cal ex (nv x) S1 = .ok (.bool (q x)) S1) : evalE cal (.gen true own t it false c ex) env S = .ok (.bool (xs.all q)) S1 := by
  rw [gen_eq xs en nv (fun _ => true) q hit hs ha (fun _ _ => rfl) fun x hx _ => he x hx, all_ne]
  simp
theorem genany_eq {α : Type} (xs : List α) (en : α → D) (nv : α → EnvD) (q : α → Bool) (hit : evalIt cal it env S = .ok v S1) (hs : Src v (xs.map en) S1) (ha : ∀ x ∈ xs, asg t (en x) (wipe env own) = some (nv x))
    (he : ∀ x ∈ xs, evalE cal ex (nv x) S1 = .ok (.bool (q x)) S1) : evalE cal (.gen false own t it false c ex) env S = .ok (.bool (xs.any q)) S1 := by
  rw [gen_eq xs en nv (fun _ => true) q hit hs ha (fun _ _ => rfl) fun x hx _ => he x hx, any_ne]
  simp
/-- two clauses, no test -/
theorem map2_eq {α β : Type} {mu : Bool} {t' : Tg} {it' : It} {c' : E} {S : Store} {v : Itv} (xs : List α) (en : α → D) (nv : α → EnvD) (v' : α → Itv) (ys : α → List β) (en' : β → D) (nv' : α → β → EnvD) (f : α → β → D) (hit : evalIt cal it env S = .ok v S) (hs : Src v (xs.map en) S) (ha : ∀ x ∈ xs, asg t (en x) (wipe env own) = some (nv x))
    (hit' : ∀ x ∈ xs, evalIt cal it' (nv x) S = .ok (v' x) S) (hs' : ∀ x ∈ xs, Src (v' x) ((ys x).map en') S) (ha' : ∀ x ∈ xs, ∀ y ∈ ys x, asg t' (en' y) (wipe (nv x) (slots t')) = some (nv' x y))
    (he : ∀ x ∈ xs, ∀ y ∈ ys x, evalE cal ex (nv' x y) S = .ok (f x y) S) (hl : (xs.flatMap fun x => (ys x).map (f x)).length ≤ lim) :
    evalE cal (.comp2 mu own t it false c t' it' false c' ex) env S = give mu (xs.flatMap fun x => (ys x).map (f x)) S := by
  rw [evalE, hit]
  show (noX (mapItv _ v S)).bind _ = _
  rw [mapItv_eq en (fun x => (ys x).map (f x)) xs hs fun x hx => ?_]
  · show (if (xs.flatMap fun x => (ys x).map (f x)).length ≤ lim then _ else _) = _
    rw [if_pos hl]
  · rw [ha x hx]
    show (evalIt cal it' (nv x) S).bind _ = _
    rw [hit' x hx]
    show mapItv _ (v' x) S = _
    rw [mapItv_eq en' (fun y => [f x y]) (ys x) (hs' x hx) fun y hy => ?_]
    · have : ∀ l : List β, l.flatMap (fun y => [f x y]) = l.map (f x) := by
        intro l
        induction l with
        | nil => rfl
        | cons y l ih => rw [List.flatMap_cons, ih]; rfl
      rw [this]
    · rw [ha' x hx y hy]
      show (evalE cal ex (nv' x y) S).bind _ = _
      rw [he x hx y hy]
      rfl
/-- two clauses, the second with a test -/
theorem gen2all_eq {α β : Type} {t' : Tg} {it' : It} {c' : E} {S : Store} {v : Itv} (xs : List α) (en : α → D) (nv : α → EnvD) (v' : α → Itv) (ys : α → List β) (en' : β → D) (nv' : α → β → EnvD) (p q : α → β → Bool) (hit : evalIt cal it env S = .ok v S) (hs : Src v (xs.map en) S) (ha : ∀ x ∈ xs, asg t (en x) (wipe env own) = some (nv x))
    (hit' : ∀ x ∈ xs, evalIt cal it' (nv x) S = .ok (v' x) S) (hs' : ∀ x ∈ xs, Src (v' x) ((ys x).map en') S) (ha' : ∀ x ∈ xs, ∀ y ∈ ys x, asg t' (en' y) (wipe (nv x) (slots t')) = some (nv' x y))
    (hc : ∀ x ∈ xs, ∀ y ∈ ys x, ifT cal true c' (nv' x y) S = .ok (p x y) S) (he : ∀ x ∈ xs, ∀ y ∈ ys x, p x y = true → evalE cal ex (nv' x y) S = .ok (.bool (q x y)) S) :
    evalE cal (.gen2 true own t it false c t' it' true c' ex) env S = .ok (.bool (xs.all fun x => (ys x).all fun y => !p x y || q x y)) S := by
  rw [evalE, hit]
  show (noX (anyItv _ v S)).bind _ = _
  rw [anyItv_eq en (fun x => (ys x).any fun y => p x y && (q x y != true)) xs hs fun x hx => ?_]
  · show R.ok (PyData.bool _) S = _
    congr 2
    induction xs with
    | nil => rfl
    | cons x xs ih =>
      have ih' := ih
      clear ih
      rw [List.all_cons, ← all_ne]
      have : ∀ xs : List α, ((xs.any fun x => (ys x).any fun y => p x y && (q x y != true)) != true) = xs.all fun x => (ys x).all fun y => !p x y || q x y := by
        intro xs
        induction xs with
        | nil => rfl
        | cons x xs ih =>
          rw [List.any_cons, List.all_cons, ← ih, ← all_ne]
          cases (ys x).any fun y => p x y && (q x y != true) <;> simp
      rw [← this, List.any_cons]
      cases (ys x).any fun y => p x y && (q x y != true) <;> simp
  · rw [ha x hx]
    show (evalIt cal it' (nv x) S).bind _ = _
    rw [hit' x hx]
    show anyItv _ (v' x) S = _
    rw [anyItv_eq en' (fun y => p x y && (q x y != true)) (ys x) (hs' x hx) fun y hy => ?_]
    rw [ha' x hx y hy]
    show (ifT cal true c' (nv' x y) S).bind _ = _
    rw [hc x hx y hy]
    show (if p x y = true then (evalE cal ex (nv' x y) S).bind _ else R.ok false S) = _
    by_cases h : p x y = true
    · rw [if_pos h, he x hx y hy h, h]; rfl
    · rw [if_neg h]
      have : p x y = false := by simpa using h
      rw [this]; rfl
theorem map_eq {α : Type} {mu : Bool} (xs : List α) (en : α → D) (nv : α → EnvD) (f : α → D) (hit : evalIt cal it env S = .ok v S1) (hs : Src v (xs.map en) S1) (ha : ∀ x ∈ xs, asg t (en x) (wipe env own) = some (nv x))
    (he : ∀ x ∈ xs, evalE cal ex (nv x) S1 = .ok (f x) S1) (hl : xs.length ≤ lim) : evalE cal (.comp mu own t it false c ex) env S = give mu (xs.map f) S1 := by
  have q : xs.filter (fun _ => true) = xs := List.filter_eq_self.mpr fun _ _ => rfl
  rw [comp_eq xs en nv (fun _ => true) f hit hs ha (fun _ _ => rfl) (fun x hx _ => he x hx) (by rw [q]; exact hl), q]
end
end Mp
set_option maxHeartbeats 200000
/-! Pl2: the evaluator's steps as rewriting rules. -/
namespace Mp
open PySem
open En (e)
/-- equal, with no more said -/
theorem nrfl {α : Sort _} {a b : α} (h : a = b) : a = b := h
section
variable {cal : CallF} {lf : Nat} {env : EnvD} {S : Store} {α β γ : Type}
@[simp] theorem bind_ok (a : α) (f : α → Store → R β) : R.bind (.ok a S) f = f a S := nrfl rfl
@[simp] theorem bind_bad (f : α → Store → R β) : R.bind .bad f = .bad := nrfl rfl
@[simp] theorem bind_exc (x : Exc) (f : α → Store → R β) : R.bind (.exc x S) f = .exc x S := nrfl rfl
@[simp] theorem opt_some (a : α) : opt (some a) S = .ok a S := nrfl rfl
@[simp] theorem opt_none : opt (none : Option α) S = .bad := nrfl rfl
/-- a fork -/
def fork (b : Bool) (x y : R α) : R α := if b = true then x else y
@[simp] theorem fork_t (x y : R α) : fork true x y = x := nrfl rfl
@[simp] theorem fork_f (x y : R α) : fork false x y = y := nrfl rfl
@[simp] theorem ev_var (i : Nat) : evalE cal (.var i) env S = (match env[i]? with | some (some d) => .ok d S | _ => .bad) := nrfl rfl
@[simp] theorem ev_con (d : D) : evalE cal (.con d) env S = .ok d S := nrfl rfl
@[simp] theorem ev_glo (x : Str) (d : D) : evalE cal (.glo x d) env S = .ok d S := nrfl rfl
@[simp] theorem ev_bin (o : Op) (a b : E) : evalE cal (.bin o a b) env S = (evalE cal a env S).bind fun x S1 => (evalE cal b env S1).bind fun y S2 => opt (opD o (rd S2 x) (rd S2 y)) S2 := nrfl rfl
@[simp] theorem ev_neg (a : E) : evalE cal (.neg a) env S = (evalE cal a env S).bind fun x S1 => opt ((asInt x).map fun i => .int (-i)) S1 := nrfl rfl
@[simp] theorem ev_cmp (o : Cm) (a b : E) : evalE cal (.cmp o a b) env S = (evalE cal a env S).bind fun x S1 => (evalE cal b env S1).bind fun y S2 => opt ((cmpD o (rd S2 x) (rd S2 y)).map .bool) S2 := nrfl rfl
@[simp] theorem ev_chain (o p : Cm) (a b c : E) : evalE cal (.chain o p a b c) env S = (evalE cal a env S).bind fun x S1 => (evalE cal b env S1).bind fun y S2 => (opt (cmpD o (rd S2 x) (rd S2 y)) S2).bind fun t S2 =>
      fork t ((evalE cal c env S2).bind fun z S3 => opt ((cmpD p (rd S3 y) (rd S3 z)).map .bool) S3) (.ok (.bool false) S2) := nrfl rfl
@[simp] theorem ev_and (a b : E) : evalE cal (.and a b) env S = (evalE cal a env S).bind fun x S1 => (opt (truD (rd S1 x)) S1).bind fun t S1 => fork t (evalE cal b env S1) (.ok x S1) := nrfl rfl
@[simp] theorem ev_or (a b : E) : evalE cal (.or a b) env S = (evalE cal a env S).bind fun x S1 => (opt (truD (rd S1 x)) S1).bind fun t S1 => fork t (.ok x S1) (evalE cal b env S1) := nrfl rfl
@[simp] theorem ev_not (a : E) : evalE cal (.not a) env S = (evalE cal a env S).bind fun x S1 => opt ((truD (rd S1 x)).map fun t => .bool (!t)) S1 := nrfl rfl
@[simp] theorem ev_ite (c a b : E) : evalE cal (.ite c a b) env S = (evalE cal c env S).bind fun x S1 => (opt (truD (rd S1 x)) S1).bind fun t S1 => fork t (evalE cal a env S1) (evalE cal b env S1) := nrfl rfl
@[simp] theorem ev_tup (es : Es) : evalE cal (.tup es) env S = (evalEs cal es env S).bind fun ds S1 => opt ((fits ds).map .tuple) S1 := nrfl rfl
def lstD (mu : Bool) (ds : List D) (S : Store) : R D := if ds.length ≤ lim then give mu ds S else .bad
theorem lstD_ok {mu : Bool} {ds : List D} (h : ds.length ≤ 1000000) : lstD mu ds S = give mu ds S := if_pos (Nat.le_trans h (by decide))
theorem fits_ok {ds : List D} (h : ds.length ≤ 1000000) : fits ds = some ds := if_pos (Nat.le_trans h (by decide))
@[simp] theorem lstD0 (mu : Bool) : lstD mu [] S = give mu [] S := lstD_ok (by decide)
@[simp] theorem lstD1 (mu : Bool) (a : D) : lstD mu [a] S = give mu [a] S := lstD_ok (Nat.le_of_ble_eq_true rfl)
@[simp] theorem lstD2 (mu : Bool) (a b : D) : lstD mu [a, b] S = give mu [a, b] S := lstD_ok (Nat.le_of_ble_eq_true rfl)
@[simp] theorem lstD3 (mu : Bool) (a b c : D) : lstD mu [a, b, c] S = give mu [a, b, c] S := lstD_ok (Nat.le_of_ble_eq_true rfl)
@[simp] theorem lstD4 (mu : Bool) (a b c d : D) : lstD mu [a, b, c, d] S = give mu [a, b, c, d] S := lstD_ok (Nat.le_of_ble_eq_true rfl)
@[simp] theorem fits0 : fits [] = some [] := fits_ok (Nat.le_of_ble_eq_true rfl)
@[simp] theorem fits1 (a : D) : fits [a] = some [a] := fits_ok (Nat.le_of_ble_eq_true rfl)
@[simp] theorem fits2 (a b : D) : fits [a, b] = some [a, b] := fits_ok (Nat.le_of_ble_eq_true rfl)
@[simp] theorem fits3 (a b c : D) : fits [a, b, c] = some [a, b, c] := fits_ok (Nat.le_of_ble_eq_true rfl)
@[simp] theorem fits4 (a b c d : D) : fits [a, b, c, d] = some [a, b, c, d] := fits_ok (Nat.le_of_ble_eq_true rfl)
@[simp] theorem fits5 (a b c d x : D) : fits [a, b, c, d, x] = some [a, b, c, d, x] := fits_ok (Nat.le_of_ble_eq_true rfl)
@[simp] theorem ev_lst (mu : Bool) (es : Es) : evalE cal (.lst mu es) env S = (evalEs cal es env S).bind fun ds S1 => lstD mu ds S1 := nrfl rfl
@[simp] theorem ev_ix (a b : E) : evalE cal (.ix a b) env S = (evalE cal a env S).bind fun x S1 => (evalE cal b env S1).bind fun y S2 => opt (ixD (rd S2 x) y) S2 := nrfl rfl
@[simp] theorem ev_slL (a lo : E) : evalE cal (.slL a lo) env S = (evalE cal a env S).bind fun x S1 => (evalE cal lo env S1).bind fun y S2 => opt ((asInt y).bind fun i => cutD (rd S2 x) (some i) none) S2 := nrfl rfl
@[simp] theorem ev_slH (a hi : E) : evalE cal (.slH a hi) env S = (evalE cal a env S).bind fun x S1 => (evalE cal hi env S1).bind fun y S2 => opt ((asInt y).bind fun i => cutD (rd S2 x) none (some i)) S2 := nrfl rfl
@[simp] theorem ev_call (f : Nat) (es : Es) : evalE cal (.call f es) env S = (evalEs cal es env S).bind fun ds S1 => cal f ds S1 := nrfl rfl
@[simp] theorem ev_primP (p : Pr) (es : Es) : evalE cal (.prim p es) env S = (evalEs cal es env S).bind fun ds S1 => (opt (primD p (ds.map (rd S1))) S1).bind fun d S1 => giveD p.mut d S1 := nrfl rfl
@[simp] theorem ev_meth (m : Me) (o : E) (es : Es) : evalE cal (.meth m o es) env S = (evalE cal o env S).bind fun x S1 => (opt (isLst (rd S1 x)) S1).bind fun _ S1 => (evalEs cal es env S1).bind fun ds S2 => methD m x ds S2 := nrfl rfl
theorem ev_frz (i : Nat) : evalE cal (.frz i) env S = (match env[i]? with
    | some (some (.dict [(.int (.ofNat l), .none)])) => (match S[l]? with
      | some (.lst ds) => .ok (.list ds) (S.set l .dead)
      | _ => .bad)
    | _ => .bad) := nrfl rfl
@[simp] theorem ev_nil : evalEs cal .nil env S = .ok [] S := nrfl rfl
@[simp] theorem ev_cons (x : E) (es : Es) : evalEs cal (.cons x es) env S = (evalE cal x env S).bind fun d S1 => (evalEs cal es env S1).bind fun ds S2 => .ok (d :: ds) S2 := nrfl rfl
@[simp] theorem it_e (a : E) : evalIt cal (.e a) env S = (evalE cal a env S).bind fun x S1 => opt (itv x S1) S1 := nrfl rfl
theorem it_r1 (a : E) : evalIt cal (.r1 a) env S = (evalE cal a env S).bind fun x S1 => opt ((asInt x).bind fun i => if inRng i then some (.items (rngL 0 i)) else none) S1 := nrfl rfl
theorem it_r2 (a b : E) : evalIt cal (.r2 a b) env S = (evalE cal a env S).bind fun x S1 => (evalE cal b env S1).bind fun y S2 => opt ((asInt x).bind fun i => (asInt y).bind fun j => if inRng i && inRng j then some (.items (rngL i j)) else none) S2 := nrfl rfl
@[simp] theorem it_en (a : E) : evalIt cal (.en a) env S = (evalE cal a env S).bind fun x S1 => opt ((itemsOf x).map fun ds => .items (pairs 0 ds)) S1 := nrfl rfl
@[simp] theorem it_zp (a b : E) : evalIt cal (.zp a b) env S = (evalE cal a env S).bind fun x S1 => (evalE cal b env S1).bind fun y S2 => opt ((zipO x y).map .items) S2 := nrfl rfl
/-- a loop's turn -/
def turnP (cal : CallF) (lf : Nat) (t : Tg) (b : Ss) : D → EnvD → Store → R (Fl × EnvD) := fun d env S => (opt (asg t d env) S).bind fun en S => evalSs cal lf b en S
theorem turnP_eq (t : Tg) (b : Ss) (d : D) : turnP cal lf t b d env S = (opt (asg t d env) S).bind fun en S => evalSs cal lf b en S := nrfl rfl
@[simp] theorem st_expr (x : E) : evalS cal lf (.expr x) env S = (evalE cal x env S).bind fun _ S1 => .ok (.nx, env) S1 := nrfl rfl
@[simp] theorem st_asg (t : Tg) (x : E) : evalS cal lf (.asg t x) env S = (evalE cal x env S).bind fun d S1 => (opt (asg t d env) S1).bind fun en S1 => .ok (.nx, en) S1 := nrfl rfl
@[simp] theorem st_par (ts : List Nat) (es : Es) : evalS cal lf (.par ts es) env S = (evalEs cal es env S).bind fun ds S1 => (opt (asgs ts ds env) S1).bind fun en S1 => .ok (.nx, en) S1 := nrfl rfl
@[simp] theorem st_aug (i : Nat) (o : Op) (x : E) : evalS cal lf (.aug i o x) env S = (match env[i]? with
    | some (some x') => (evalE cal x env S).bind fun y S1 => (ipD o x' y S1).bind fun d S2 => .ok (.nx, env.set i (some d)) S2
    | _ => .bad) := nrfl rfl
@[simp] theorem st_setix (o i x : E) : evalS cal lf (.setix o i x) env S = (evalE cal x env S).bind fun v S1 => (evalE cal o env S1).bind fun ov S2 => (evalE cal i env S2).bind fun iv S3 => (opt (setD ov iv v S3) S3).bind fun S4 _ => .ok (.nx, env) S4 := nrfl rfl
@[simp] theorem st_ite (c : E) (a b : Ss) : evalS cal lf (.ite c a b) env S = (test cal c env S).bind fun t S1 => fork t (evalSs cal lf a env S1) (evalSs cal lf b env S1) := nrfl rfl
theorem test_eq (c : E) : test cal c env S = (evalE cal c env S).bind fun x S1 => opt (truD (rd S1 x)) S1 := nrfl rfl
@[simp] theorem st_for (t : Tg) (it : It) (b : Ss) : evalS cal lf (.for t it b) env S = (evalIt cal it env S).bind fun v S1 => forItv (turnP cal lf t b) v env S1 := nrfl rfl
@[simp] theorem st_while (c : E) (b : Ss) : evalS cal lf (.while c b) env S = whileF (test cal c) (evalSs cal lf b) lf env S := nrfl rfl
@[simp] theorem st_ret (x : E) : evalS cal lf (.ret x) env S = (evalE cal x env S).bind fun d S1 => .ok (.ret d, env) S1 := nrfl rfl
@[simp] theorem st_rais (c : Str) : evalS cal lf (.rais c none) env S = .exc ⟨c, none⟩ S := nrfl rfl
theorem st_tryC (x : E) (b : Ss) (i : Nat) (c : Str) (xs : List Str) (k : Nat) (d : D) : evalS cal lf (.tryC x b i c xs k d) env S = (match evalE cal x env S with
    | .ok _ S1 => noX (evalSs cal lf b env S1)
    | .exc q S1 => if xs.contains q.cls then (if catchB q.cls c then (if decide (k < env.length) && decide (k ≠ i) then .ok (.nx, (env.set i none).set k (some d)) S1 else .bad) else .exc q S1) else .bad
    | .bad => .bad) := nrfl rfl
@[simp] theorem st_retN : evalS cal lf .retN env S = .ok (.ret .none, env) S := nrfl rfl
@[simp] theorem st_brk : evalS cal lf .brk env S = .ok (.brk, env) S := nrfl rfl
@[simp] theorem st_cont : evalS cal lf .cont env S = .ok (.cont, env) S := nrfl rfl
@[simp] theorem st_nev : evalS cal lf .nev env S = .bad := nrfl rfl
@[simp] theorem st_pass : evalS cal lf .pass env S = .ok (.nx, env) S := nrfl rfl
@[simp] theorem ss_nil : evalSs cal lf .nil env S = .ok (.nx, env) S := nrfl rfl
theorem ss_cons (s : Mp.S) (ss : Ss) : evalSs cal lf (.cons s ss) env S = (evalS cal lf s env S).bind fun p S1 => match p.1 with
    | .nx => evalSs cal lf ss p.2 S1
    | _ => .ok p S1 := nrfl rfl
/-- on behind a statement -/
def thn (cal : CallF) (lf : Nat) (ss : Ss) (p : Fl × EnvD) (S : Store) : R (Fl × EnvD) := match p.1 with
    | .nx => evalSs cal lf ss p.2 S
    | _ => .ok p S
@[simp] theorem ss_cons' (s : Mp.S) (ss : Ss) : evalSs cal lf (.cons s ss) env S = (evalS cal lf s env S).bind (thn cal lf ss) := nrfl rfl
@[simp] theorem thn_nx (ss : Ss) : thn cal lf ss (.nx, env) S = evalSs cal lf ss env S := nrfl rfl
@[simp] theorem thn_ret (ss : Ss) (d : D) : thn cal lf ss (.ret d, env) S = .ok (.ret d, env) S := nrfl rfl
@[simp] theorem thn_brk (ss : Ss) : thn cal lf ss (.brk, env) S = .ok (.brk, env) S := nrfl rfl
@[simp] theorem thn_cont (ss : Ss) : thn cal lf ss (.cont, env) S = .ok (.cont, env) S := nrfl rfl
@[simp] theorem and_bool (p q : Bool) : fork p (R.ok (PyData.bool q) S) (R.ok (.bool p) S) = .ok (.bool (p && q)) S := by cases p <;> rfl
@[simp] theorem or_bool (p q : Bool) : fork p (R.ok (PyData.bool p) S) (R.ok (.bool q) S) = .ok (.bool (p || q)) S := by cases p <;> rfl
@[simp] theorem and_boolF (p q : Bool) : fork p (R.ok (PyData.bool q) S) (R.ok (.bool false) S) = .ok (.bool (p && q)) S := by cases p <;> rfl
@[simp] theorem or_boolT (p q : Bool) : fork p (R.ok (PyData.bool true) S) (R.ok (.bool q) S) = .ok (.bool (p || q)) S := by cases p <;> rfl
@[simp] theorem fork_same (p : Bool) (x : R α) : fork p x x = x := by cases p <;> rfl
@[simp] theorem tru_bool (b : Bool) : truD (.bool b) = some b := nrfl rfl
@[simp] theorem tru_list (ds : List D) : truD (.list ds) = some (!ds.isEmpty) := nrfl rfl
@[simp] theorem tru_tuple (ds : List D) : truD (.tuple ds) = some (!ds.isEmpty) := nrfl rfl
@[simp] theorem tru_none : truD .none = some false := nrfl rfl
@[simp] theorem tru_int (i : Int) : truD (.int i) = some (i != 0) := nrfl rfl
@[simp] theorem rd_bool' (b : Bool) : rd S (.bool b) = .bool b := nrfl rfl
@[simp] theorem rd_int' (i : Int) : rd S (.int i) = .int i := nrfl rfl
@[simp] theorem rd_none' : rd S .none = .none := nrfl rfl
@[simp] theorem rd_tuple' (ds : List D) : rd S (.tuple ds) = .tuple ds := nrfl rfl
@[simp] theorem rd_list' (ds : List D) : rd S (.list ds) = .list ds := nrfl rfl
@[simp] theorem rd_str' (x : Str) : rd S (.str x) = .str x := nrfl rfl
theorem rd_ref' {l : Nat} {ds : List D} (h : S[l]? = some (.lst ds)) : rd S (oRef l) = .list ds := by
  show (match S[l]? with
    | some (.lst ds) => PyData.list ds
    | _ => _) = _
  rw [h]
theorem callN_at {G : List Fd} {n f : Nat} {fd : Fd} {as : List D} (h : G[f]? = some fd) (hl : as.length = fd.np) : callN G lf (n + 1) f as S = leave S.length (evalSs (callN G lf n) lf fd.body (as.map some ++ List.replicate (fd.names.length - fd.np) none) S) := by
  rw [callN, h]
  exact if_pos hl
@[simp] theorem leave_exc (n : Nat) (c : Str) : leave n (.exc ⟨c, none⟩ S : R (Fl × EnvD)) = .exc ⟨c, none⟩ (S.take n) := nrfl rfl
@[simp] theorem leave_nx (n : Nat) : leave n (.ok (.nx, env) S) = .ok .none (S.take n) := nrfl rfl
theorem leave_ret {n : Nat} {d : D} (h : old n d = true) : leave n (.ok (.ret d, env) S) = .ok d (S.take n) := if_pos h
/-! ### data without references -/
mutual
def plain : D → Bool
  | .dict _ => false
  | .list ds => plainAll ds
  | .tuple ds => plainAll ds
  | _ => true
def plainAll : List D → Bool
  | [] => true
  | d :: ds => plain d && plainAll ds
end
mutual
theorem old_plain (n : Nat) : ∀ d : D, plain d = true → old n d = true
  | .none, _ => rfl
  | .bool _, _ => rfl
  | .int _, _ => rfl
  | .str _, _ => rfl
  | .list ds, h => by
    simp only [old]
    exact old_plainAll n ds h
  | .tuple ds, h => by
    simp only [old]
    exact old_plainAll n ds h
  | .dict _, h => by cases h
theorem old_plainAll (n : Nat) : ∀ ds : List D, plainAll ds = true → oldAll n ds = true
  | [], _ => rfl
  | d :: ds, h => by
    have h : (plain d && plainAll ds) = true := h
    rw [Bool.and_eq_true] at h
    simp only [oldAll, old_plain n d h.1, old_plainAll n ds h.2, Bool.and_self]
end
theorem plainAll_iff : ∀ {ds : List D}, plainAll ds = true ↔ ∀ d ∈ ds, plain d = true
  | [] => by simp [plainAll]
  | d :: ds => by simp [plainAll, plainAll_iff]
mutual
theorem plain_lay : ∀ d : D, d.canLay0 = true → plain d = true
  | .none, _ => rfl
  | .bool _, _ => rfl
  | .int _, _ => rfl
  | .str _, _ => rfl
  | .list ds, h => plainAll_lay ds (by simpa [PyData.canLay0] using h)
  | .tuple ds, h => plainAll_lay ds (by simpa [PyData.canLay0] using h)
  | .dict _, h => by simp [PyData.canLay0] at h
theorem plainAll_lay : ∀ ds : List D, PyData.canLayAll0 ds = true → plainAll ds = true
  | [], _ => rfl
  | d :: ds, h => by
    have h : d.canLay0 = true ∧ PyData.canLayAll0 ds = true := by simpa [PyData.canLayAll0] using h
    simp only [plainAll, plain_lay d h.1, plainAll_lay ds h.2, Bool.and_self]
end
theorem plain_e {α : Type} [En α] (a : α) : plain (e a) = true := plain_lay _ (En.lay a)
theorem plain_es {α : Type} [En α] (xs : List α) : plainAll (xs.map e) = true := plainAll_lay _ (lay_all xs)
@[simp] theorem old_e {α : Type} [En α] (n : Nat) (a : α) : old n (e a) = true := old_plain n _ (plain_e a)
@[simp] theorem old_es {α : Type} [En α] (n : Nat) (xs : List α) : oldAll n (xs.map e) = true := old_plainAll n _ (plain_es xs)
@[simp] theorem old_lst {α : Type} [En α] (n : Nat) (xs : List α) : old n (.list (xs.map e)) = true := old_plainAll n _ (plain_es xs)
@[simp] theorem old_tup {α : Type} [En α] (n : Nat) (xs : List α) : old n (.tuple (xs.map e)) = true := old_plainAll n _ (plain_es xs)
@[simp] theorem old_bool (n : Nat) (b : Bool) : old n (.bool b) = true := nrfl rfl
@[simp] theorem old_int (n : Nat) (b : Int) : old n (.int b) = true := nrfl rfl
@[simp] theorem old_none (n : Nat) : old n .none = true := nrfl rfl
@[simp] theorem old_str (n : Nat) (x : Str) : old n (.str x) = true := nrfl rfl
theorem leave_ok' (n : Nat) (d : D) : leave n (.ok (.ret d, env) S) = if old n d then .ok d (S.take n) else .bad := nrfl rfl
@[simp] theorem lv (n : Nat) (d : D) : leave n (.ok (.ret d, env) S) = if old n d then .ok d (S.take n) else .bad := nrfl rfl
@[simp] theorem old_tu (n : Nat) (ds : List D) : old n (.tuple ds) = oldAll n ds := nrfl rfl
@[simp] theorem old_li (n : Nat) (ds : List D) : old n (.list ds) = oldAll n ds := nrfl rfl
@[simp] theorem oldA_cons (n : Nat) (d : D) (ds : List D) : oldAll n (d :: ds) = (old n d && oldAll n ds) := nrfl rfl
@[simp] theorem oldA_nil (n : Nat) : oldAll n [] = true := nrfl rfl
theorem oldA_app (n : Nat) : ∀ ds es : List D, oldAll n (ds ++ es) = (oldAll n ds && oldAll n es)
  | [], _ => rfl
  | d :: ds, es => by simp [oldAll, oldA_app n ds es, Bool.and_assoc]
@[simp] theorem e_nat (k : Nat) : (e k : D) = .int (k : Int) := nrfl rfl
@[simp] theorem e_pair {α β : Type} [En α] [En β] (p : α × β) : e p = .tuple [e p.1, e p.2] := nrfl rfl
@[simp] theorem e_list {α : Type} [En α] (l : List α) : e l = .tuple (l.map e) := nrfl rfl
@[simp] theorem rd_e {α : Type} [En α] (a : α) : rd S (e a) = e a := by
  have h := plain_e a
  unfold rd
  split
  · rename_i l q
    rw [q] at h
    cases h
  · rename_i ds q
    rw [q] at h
    cases h
  · rfl
@[simp] theorem eqD_int (i j : Int) : eqD (.int i) (.int j) = some (decide (i = j)) := by
  show some (i == j) = _
  congr 1
@[simp] theorem eqD_bool (i j : Bool) : eqD (.bool i) (.bool j) = some (i == j) := nrfl rfl
@[simp] theorem eqD_none : eqD .none .none = some true := nrfl rfl
@[simp] theorem len_list (ds : List D) : primD .len [.list ds] = some (.int ds.length) := nrfl rfl
@[simp] theorem len_tuple (ds : List D) : primD .len [.tuple ds] = some (.int ds.length) := nrfl rfl
@[simp] theorem isi_ (ts : List Ty) (d : D) : primD (.isi ts) [d] = (tysD ts d).map .bool := nrfl rfl
@[simp] theorem tys_nil (d : D) : tysD [] d = some false := nrfl rfl
@[simp] theorem tys_cons (t : Ty) (ts : List Ty) (d : D) : tysD (t :: ts) d = (tyD t d).bind fun b => if b then some true else tysD ts d := nrfl rfl
@[simp] theorem ty_int (i : Int) : tyD .int (.int i) = some true := nrfl rfl
@[simp] theorem ty_int_b (i : Bool) : tyD .int (.bool i) = some true := nrfl rfl
@[simp] theorem ty_bool (i : Int) : tyD .bool (.int i) = some false := nrfl rfl
@[simp] theorem ty_bool_b (i : Bool) : tyD .bool (.bool i) = some true := nrfl rfl
@[simp] theorem ty_tuple (ds : List D) : tyD .tuple (.tuple ds) = some true := nrfl rfl
@[simp] theorem ty_list (ds : List D) : tyD .list (.list ds) = some true := nrfl rfl
@[simp] theorem ty_tuple_l (ds : List D) : tyD .tuple (.list ds) = some false := nrfl rfl
@[simp] theorem ty_list_t (ds : List D) : tyD .list (.tuple ds) = some false := nrfl rfl
@[simp] theorem ty_tuple_i (i : Int) : tyD .tuple (.int i) = some false := nrfl rfl
@[simp] theorem ty_list_i (i : Int) : tyD .list (.int i) = some false := nrfl rfl
@[simp] theorem ty_tuple_b (i : Bool) : tyD .tuple (.bool i) = some false := nrfl rfl
@[simp] theorem ty_list_b (i : Bool) : tyD .list (.bool i) = some false := nrfl rfl
@[simp] theorem ty_str_i (i : Int) : tyD .str (.int i) = some false := nrfl rfl
@[simp] theorem ty_str_b (i : Bool) : tyD .str (.bool i) = some false := nrfl rfl
@[simp] theorem ty_str_t (ds : List D) : tyD .str (.tuple ds) = some false := nrfl rfl
@[simp] theorem ty_str_l (ds : List D) : tyD .str (.list ds) = some false := nrfl rfl
@[simp] theorem min2_ (i j : Int) : primD .min2 [.int i, .int j] = some (.int (if j < i then j else i)) := nrfl rfl
@[simp] theorem max2_ (i j : Int) : primD .max2 [.int i, .int j] = some (.int (if j > i then j else i)) := nrfl rfl
@[simp] theorem giveD_f (p : Pr) (d : D) (h : p.mut = false) : giveD p.mut d S = .ok d S := by rw [h]; rfl
@[simp] theorem give_f (ds : List D) : give false ds S = .ok (.list ds) S := nrfl rfl
/-- a reference, kept closed -/
def ref (l : Nat) : D := oRef l
@[simp] theorem give_t (ds : List D) : give true ds S = .ok (ref S.length) (S ++ [.lst ds]) := nrfl rfl
@[simp] theorem old_ref (n l : Nat) : old n (ref l) = decide (l < n) := nrfl rfl
theorem rd_refP {l : Nat} {ds : List PyData} (h : S[l]? = some (.lst ds)) : rd S (ref l) = PyData.list ds := rd_ref' h
theorem itv_ref {l : Nat} {ds : List D} (h : S[l]? = some (.lst ds)) : itv (ref l) S = some (.obj l) := by
  show (match S[l]? with
    | some (.lst _) => some (Itv.obj l)
    | _ => none) = _
  rw [h]
@[simp] theorem itv_list (ds : List D) : itv (.list ds) S = some (.items ds) := nrfl rfl
@[simp] theorem itv_tuple (ds : List D) : itv (.tuple ds) S = some (.items ds) := nrfl rfl
@[simp] theorem ip_ref (o : Op) (l : Nat) (y : D) : ipD o (ref l) y S = (opt (extD o l y S) S).bind fun S2 _ => .ok (ref l) S2 := nrfl rfl
@[simp] theorem ip_int (o : Op) (i : Int) (y : D) : ipD o (.int i) y S = opt (augD o (.int i) (rd S y)) S := nrfl rfl
@[simp] theorem ip_str (o : Op) (x : Str) (y : D) : ipD o (.str x) y S = opt (augD o (.str x) (rd S y)) S := nrfl rfl
theorem ext_add {l : Nat} {ds es : List D} (h : S[l]? = some (.lst ds)) (hl : ds.length + es.length ≤ lim) (ho : oldAll l es = true) : extD .add l (.list es) S = some (S.set l (.lst (ds ++ es))) := by
  unfold extD
  rw [h]
  show (if (decide (ds.length + es.length ≤ lim) && oldAll l es) = true then some (S.set l (.lst (ds ++ es))) else none) = _
  rw [ho, decide_eq_true hl]
  rfl
theorem frz_ref {i l : Nat} {ds : List D} (h : env[i]? = some (some (ref l))) (h2 : S[l]? = some (.lst ds)) : evalE cal (.frz i) env S = .ok (.list ds) (S.set l .dead) := by
  rw [ev_frz, h]
  show (match S[l]? with
      | some (.lst ds) => R.ok (PyData.list ds) (S.set l .dead)
      | _ => .bad) = _
  rw [h2]
theorem meth_ref {l : Nat} {ds as : List D} (m : Me) (h : S[l]? = some (.lst ds)) : methD m (ref l) as S = methL m l ds as S := by
  show (match S[l]? with
    | some (.lst ds) => methL m l ds as S
    | _ => .bad) = _
  rw [h]
theorem app_ref {l : Nat} {ds : List D} {d : D} (h : S[l]? = some (.lst ds)) (hl : ds.length < lim) (ho : old l d = true) : methD .append (ref l) [d] S = .ok .none (S.set l (.lst (ds ++ [d]))) := by
  rw [meth_ref .append h]
  show (if (decide (ds.length < lim) && old l d) = true then R.ok PyData.none (S.set l (.lst (ds ++ [d]))) else .bad) = _
  rw [ho, decide_eq_true hl]
  rfl
theorem setD_ref {l k : Nat} {ds : List D} {v : D} (h : S[l]? = some (.lst ds)) (hk : k < ds.length) (ho : old l v = true) : setD (ref l) (.int (k : Int)) v S = some (S.set l (.lst (ds.set k v))) := by
  show (match S[l]? with
    | some (.lst ds) => if (decide (k < ds.length) && old l v) = true then some (S.set l (.lst (ds.set k v))) else none
    | _ => none) = _
  rw [h]
  show (if (decide (k < ds.length) && old l v) = true then some (S.set l (.lst (ds.set k v))) else none) = _
  rw [ho, decide_eq_true hk]
  rfl
theorem op_tt {xs ys : List PyData} (h : xs.length + ys.length ≤ 1000000) : opD .add (.tuple xs) (.tuple ys) = some (.tuple (xs ++ ys)) := if_pos (Nat.le_trans h (by decide))
theorem op_ll {xs ys : List PyData} (h : xs.length + ys.length ≤ 1000000) : opD .add (.list xs) (.list ys) = some (.list (xs ++ ys)) := if_pos (Nat.le_trans h (by decide))
@[simp] theorem op_ii (i k : Int) : opD .add (.int i) (.int k) = some (.int (i + k)) := nrfl rfl
@[simp] theorem op_si (i k : Int) : opD .sub (.int i) (.int k) = some (.int (i - k)) := nrfl rfl
@[simp] theorem isLst_l (ds : List D) : isLst (.list ds) = some () := nrfl rfl
theorem min_cast (a b : Nat) : (if b < a then (b : Int) else (a : Int)) = ((min a b : Nat) : Int) := by
  split <;> omega
theorem max_cast (a b : Nat) : (if a < b then (b : Int) else (a : Int)) = ((max a b : Nat) : Int) := by
  split <;> omega
/-! ### the draws' row -/
def scr (ns : List Int) : D := oScr ns
@[simp] theorem rd_scrP (ns : List Int) : rd S (scr ns) = scr ns := nrfl rfl
@[simp] theorem old_scr (n : Nat) (ns : List Int) : old n (scr ns) = true := nrfl rfl
@[simp] theorem len_scr (ns : List Int) : primD .len [scr ns] = some (.int ns.length) := by
  show some (PyData.int ((ns.map PyData.int).length : Nat)) = _
  rw [List.length_map]
theorem ix_scr (ns : List Int) (k : Nat) {c : Int} (h : ns[k]? = some c) : ixD (scr ns) (.int (k : Int)) = some (.int c) := by
  show (ns.map PyData.int)[k]? = _
  rw [List.getElem?_map, h]
  rfl
theorem get_set {l : Nat} {m m' : M} (h : S[l]? = some m) : (S.set l m')[l]? = some m' := by
  rw [List.getElem?_set_self (List.getElem?_eq_some_iff.mp h).1]
theorem rd_set {l : Nat} {m : M} {ds : List D} (h : S[l]? = some m) : rd (S.set l (.lst ds)) (ref l) = .list ds := rd_refP (get_set h)
theorem setD_lit {l : Nat} {ds : List D} {v : D} (k : Nat) (h : S[l]? = some (.lst ds)) : setD (ref l) (.int (k : Int)) v S = if decide (k < ds.length) && old l v then some (S.set l (.lst (ds.set k v))) else none := by
  show (match S[l]? with
    | some (.lst ds) => if (decide (k < ds.length) && old l v) = true then some (S.set l (.lst (ds.set k v))) else none
    | _ => none) = _
  rw [h]
theorem setD_1 {l : Nat} {ds : List D} {v : D} (h : S[l]? = some (.lst ds)) : setD (ref l) (.int 1) v S = if decide (1 < ds.length) && old l v then some (S.set l (.lst (ds.set 1 v))) else none := setD_lit 1 h
theorem setD_2 {l : Nat} {ds : List D} {v : D} (h : S[l]? = some (.lst ds)) : setD (ref l) (.int 2) v S = if decide (2 < ds.length) && old l v then some (S.set l (.lst (ds.set 2 v))) else none := setD_lit 2 h
theorem setD_3 {l : Nat} {ds : List D} {v : D} (h : S[l]? = some (.lst ds)) : setD (ref l) (.int 3) v S = if decide (3 < ds.length) && old l v then some (S.set l (.lst (ds.set 3 v))) else none := setD_lit 3 h
@[simp] theorem ixL0 (xs : List D) : ixD (.list xs) (.int 0) = xs[0]? := nrfl rfl
@[simp] theorem ixL1 (xs : List D) : ixD (.list xs) (.int 1) = xs[1]? := nrfl rfl
@[simp] theorem ixL2 (xs : List D) : ixD (.list xs) (.int 2) = xs[2]? := nrfl rfl
@[simp] theorem ixL3 (xs : List D) : ixD (.list xs) (.int 3) = xs[3]? := nrfl rfl
@[simp] theorem ixT0 (xs : List D) : ixD (.tuple xs) (.int 0) = xs[0]? := nrfl rfl
@[simp] theorem ixT1 (xs : List D) : ixD (.tuple xs) (.int 1) = xs[1]? := nrfl rfl
@[simp] theorem int1_ (i : Int) : primD .int1 [.int i] = some (.int i) := nrfl rfl
theorem op_mod (i k : Int) (h : 0 < k) : opD .mod (.int i) (.int k) = some (.int (i % k)) := if_pos h
theorem op_fdiv (i k : Int) (h : 0 < k) (h2 : k < 1073741824) : opD .fdiv (.int i) (.int k) = some (.int (i / k)) := if_pos (by rw [decide_eq_true h, decide_eq_true h2]; rfl)
theorem op_mul (i k : Int) (h : (small i || small k) = true) : opD .mul (.int i) (.int k) = some (.int (i * k)) := if_pos h
end
end Mp
set_option maxHeartbeats 200000
/-! Pl3: order of plain data, sorting. -/
namespace Mp
open PySem
open En (e)
theorem toks_nil_cons (x : D) (xs : List D) : PyProof.Rows.lexLt PyProof.Rows.itemOrd (PySem.W.keyToksAll []) (PySem.W.keyToksAll (x :: xs)) = true := rfl
theorem toks_cons_nil (x : D) (xs : List D) : PyProof.Rows.lexLt PyProof.Rows.itemOrd (PySem.W.keyToksAll (x :: xs)) (PySem.W.keyToksAll []) = false := rfl
theorem toks_nil_nil : PyProof.Rows.lexLt PyProof.Rows.itemOrd (PySem.W.keyToksAll []) (PySem.W.keyToksAll []) = false := rfl
/-- ordered data -/
class Ord' (α : Type) [En α] where
  dq : DecidableEq α
  lt : α → α → Bool
  irr : ∀ a : α, lt a a = false
  alk : ∀ a b : α, PySem.W.alike (e a) (e b) = true
  dl : ∀ a b : α, PySem.W.dataLt (e a) (e b) = lt a b
instance (priority := 10) {α : Type} [En α] [Ord' α] : DecidableEq α := Ord'.dq
instance : Ord' Nat where
  dq := inferInstance
  lt a b := decide (a < b)
  irr _ := by simp
  alk _ _ := rfl
  dl a b := (PySem.W.dataLt_int _ _).trans (by simp)
theorem toks_cons {α : Type} [En α] [Ord' α] (a b : α) (xs ys : List D) : PyProof.Rows.lexLt PyProof.Rows.itemOrd (PySem.W.keyToksAll (e a :: xs)) (PySem.W.keyToksAll (e b :: ys)) = (Ord'.lt a b || (decide (a = b) && PyProof.Rows.lexLt PyProof.Rows.itemOrd (PySem.W.keyToksAll xs) (PySem.W.keyToksAll ys))) := by
  have q := En.eqv a b
  by_cases h : a = b
  · rw [PySem.W.dataLt_all_yes (Ord'.alk a b) (q.mpr h)]
    subst h
    rw [Ord'.irr]
    simp
  · have h2 : PyData.eqv (e a) (e b) = false := by
      cases z : PyData.eqv (e a) (e b) with
      | false => rfl
      | true => exact absurd (q.mp z) h
    rw [PySem.W.dataLt_all_no (Ord'.alk a b) h2, Ord'.dl]
    simp [h]
instance {α β : Type} [En α] [En β] [Ord' α] [Ord' β] : Ord' (α × β) where
  dq := inferInstance
  lt p q := Ord'.lt p.1 q.1 || (decide (p.1 = q.1) && Ord'.lt p.2 q.2)
  irr p := by simp [Ord'.irr]
  alk p q := by simp [PySem.W.alike, PySem.W.alikeAll, Ord'.alk]
  dl p q := by
    show PySem.W.dataLt (.tuple [e p.1, e p.2]) (.tuple [e q.1, e q.2]) = _
    rw [PySem.W.dataLt_tuple, toks_cons, toks_cons, toks_nil_nil]
    simp
def lexB {α : Type} [En α] [Ord' α] : List α → List α → Bool
  | [], [] => false
  | [], _ :: _ => true
  | _ :: _, [] => false
  | x :: xs, y :: ys => Ord'.lt x y || (decide (x = y) && lexB xs ys)
theorem lexB_toks {α : Type} [En α] [Ord' α] : ∀ xs ys : List α, PyProof.Rows.lexLt PyProof.Rows.itemOrd (PySem.W.keyToksAll (xs.map e)) (PySem.W.keyToksAll (ys.map e)) = lexB xs ys
  | [], [] => rfl
  | [], y :: ys => rfl
  | x :: xs, [] => rfl
  | x :: xs, y :: ys => by
    rw [List.map_cons, List.map_cons, toks_cons, lexB_toks xs ys]
    rfl
theorem lexB_irr {α : Type} [En α] [Ord' α] : ∀ xs : List α, lexB xs xs = false
  | [] => rfl
  | x :: xs => by simp [lexB, Ord'.irr, lexB_irr xs]
theorem alk_all {α : Type} [En α] [Ord' α] : ∀ xs ys : List α, PySem.W.alikeAll (xs.map e) (ys.map e) = true
  | [], _ => by simp [PySem.W.alikeAll]
  | _ :: _, [] => by simp [PySem.W.alikeAll]
  | x :: xs, y :: ys => by simp [PySem.W.alikeAll, Ord'.alk, alk_all xs ys]
instance {α : Type} [En α] [Ord' α] : Ord' (List α) where
  dq := inferInstance
  lt := lexB
  irr := lexB_irr
  alk xs ys := by simp [PySem.W.alike, alk_all]
  dl xs ys := by
    show PySem.W.dataLt (.tuple (xs.map e)) (.tuple (ys.map e)) = _
    rw [PySem.W.dataLt_tuple, lexB_toks]
open Ord' (lt)
theorem ltD_pair {α β : Type} [En α] [En β] [Ord' α] [Ord' β] (p q : α × β) (h : En.dep (α × β) ≤ 64 := by decide) : ltD (.tuple [e p.1, e p.2]) (.tuple [e q.1, e q.2]) = some (lt p q) := by
  have h1 := shaped_e p h
  have h2 := shaped_e q h
  have h3 := Ord'.alk p q
  have h4 := Ord'.dl p q
  show (if (SeqAt.shaped (e p) && SeqAt.shaped (e q) && PySem.W.alike (e p) (e q)) = true then some (PySem.W.dataLt (e p) (e q)) else none) = _
  rw [h1, h2, h3, h4]
  rfl
theorem ltD_list {α : Type} [En α] [Ord' α] (p q : List α) (h : En.dep (List α) ≤ 64 := by decide) : ltD (.tuple (p.map e)) (.tuple (q.map e)) = some (lt p q) := by
  have h1 := shaped_e p h
  have h2 := shaped_e q h
  have h3 := Ord'.alk p q
  have h4 := Ord'.dl p q
  show (if (SeqAt.shaped (e p) && SeqAt.shaped (e q) && PySem.W.alike (e p) (e q)) = true then some (PySem.W.dataLt (e p) (e q)) else none) = _
  rw [h1, h2, h3, h4]
  rfl
/-! ### sorting -/
def insG {α : Type} (lt : α → α → Bool) (x : α) : List α → List α
  | [] => [x]
  | y :: r => if lt y x then y :: insG lt x r else x :: y :: r
def sortG {α : Type} (lt : α → α → Bool) : List α → List α
  | [] => []
  | x :: r => insG lt x (sortG lt r)
theorem ins_mp {α : Type} {l : D → D → Bool} {lt : α → α → Bool} {en : α → D} (h : ∀ a b, l (en a) (en b) = lt a b) (x : α) : ∀ xs : List α, ins l (en x) (xs.map en) = (insG lt x xs).map en
  | [] => rfl
  | y :: r => by
    simp only [List.map_cons, ins, insG, h]
    split
    · rw [ins_mp h x r]; rfl
    · rfl
theorem isort_mp {α : Type} {l : D → D → Bool} {lt : α → α → Bool} {en : α → D} (h : ∀ a b, l (en a) (en b) = lt a b) : ∀ xs : List α, isort l (xs.map en) = (sortG lt xs).map en
  | [] => rfl
  | x :: xs => by
    rw [List.map_cons, isort, isort_mp h xs, ins_mp h]
    rfl
theorem asInts_nat : ∀ xs : List Nat, asInts (xs.map e) = some (xs.map fun (k : Nat) => (k : Int))
  | [] => rfl
  | x :: xs => by
    show (asInts (xs.map e)).map _ = _
    rw [asInts_nat xs]
    rfl
theorem insI_nat (x : Nat) : ∀ xs : List Nat, insI (x : Int) (xs.map fun (k : Nat) => (k : Int)) = (insG (fun a b => decide (a < b)) x xs).map fun (k : Nat) => (k : Int)
  | [] => rfl
  | y :: r => by
    simp only [List.map_cons, insI, insG, decide_eq_true_eq]
    by_cases h : y < x
    · rw [if_pos (by omega), if_pos h, insI_nat x r]; rfl
    · rw [if_neg (by omega), if_neg h]; rfl
theorem sortI_nat : ∀ xs : List Nat, sortI (xs.map fun (k : Nat) => (k : Int)) = (sortG (fun a b => decide (a < b)) xs).map fun (k : Nat) => (k : Int)
  | [] => rfl
  | x :: xs => by
    rw [List.map_cons, sortI, sortI_nat xs, insI_nat]
    rfl
theorem sortD_nat (xs : List Nat) : sortD (xs.map e) = some ((sortG (fun a b => decide (a < b)) xs).map e) := by
  unfold sortD
  rw [asInts_nat]
  show some (((sortI _)).map PyData.int) = _
  rw [sortI_nat, List.map_map]
  rfl
theorem fullInts_pair (p : Nat × Nat) : fullInts (e p) = true := rfl
theorem asInts_pair (p : Nat × Nat) (xs : List (Nat × Nat)) : asInts ((p :: xs).map e) = none := rfl
theorem sortD_pair (xs : List (Nat × Nat)) : sortD (xs.map e) = some ((sortG lt xs).map e) := by
  cases xs with
  | nil => rfl
  | cons p xs =>
    unfold sortD
    rw [asInts_pair]
    have h : ((p :: xs).map e).all fullInts = true := by
      rw [List.all_map, List.all_eq_true]
      exact fun q _ => fullInts_pair q
    simp only [h, if_true]
    rw [isort_mp (l := tupleLt) (lt := lt) (fun a b => Ord'.dl a b)]
theorem fullInts_list {l : List Nat} (h : l ≠ []) : fullInts (e l) = true := by
  cases l with
  | nil => exact absurd rfl h
  | cons x xs =>
    show (asInts (xs.map e)).isSome = true
    rw [asInts_nat]
    rfl
/-- lists of lists of numbers, none empty -/
theorem sortD_list (xs : List (List Nat)) (h : ∀ l ∈ xs, l ≠ []) : sortD (xs.map e) = some ((sortG lt xs).map e) := by
  cases xs with
  | nil => rfl
  | cons p xs =>
    unfold sortD
    have h0 : asInts ((p :: xs).map e) = none := rfl
    rw [h0]
    have h : ((p :: xs).map e).all fullInts = true := by
      rw [List.all_map, List.all_eq_true]
      exact fun q hq => fullInts_list (h q hq)
    simp only [h, if_true]
    rw [isort_mp (l := tupleLt) (lt := lt) (fun a b => Ord'.dl a b)]
/-- by length, then itself -/
def lenB (l m : List Nat) : Bool := if l.length = m.length then lt l m else decide (l.length < m.length)
theorem lenLt_e (l m : List Nat) : lenLt (e l) (e m) = lenB l m := by
  show (if (l.map e).length = (m.map e).length then (if PyData.eqv (e l) (e m) = true then false else PySem.W.dataLt (e l) (e m)) else decide ((l.map e).length < (m.map e).length)) = _
  simp only [List.length_map, lenB]
  by_cases h : l.length = m.length
  · rw [if_pos h, if_pos h]
    by_cases k : l = m
    · subst k
      rw [if_pos ((En.eqv l l).mpr rfl)]
      exact (Ord'.irr l).symm
    · rw [if_neg (fun z => k ((En.eqv l m).mp z))]
      exact Ord'.dl l m
  · rw [if_neg h, if_neg h]
theorem tupInts_e (l : List Nat) : tupInts (e l) = true := by
  show (asInts (l.map e)).isSome = true
  rw [asInts_nat]
  rfl
theorem sortLenP (ls : List (List Nat)) : primD .sortLen [.list (ls.map e)] = some (.list ((sortG lenB ls).map e)) := by
  show (if (ls.map e).all tupInts = true then some (PyData.list (isort lenLt (ls.map e))) else none) = _
  have h : (ls.map e).all tupInts = true := by
    rw [List.all_map, List.all_eq_true]
    exact fun q _ => tupInts_e q
  rw [if_pos h, isort_mp lenLt_e]
theorem sorted_nat (xs : List Nat) (h : xs.length ≤ lim) : primD .sorted [.list (xs.map e)] = some (.list ((sortG (fun a b => decide (a < b)) xs).map e)) := by
  show (if (xs.map e).length ≤ lim then (sortD (xs.map e)).map PyData.list else none) = _
  rw [if_pos (by simpa using h), sortD_nat]
  rfl
theorem sorted_natT (xs : List Nat) (h : xs.length ≤ lim) : primD .sorted [.tuple (xs.map e)] = some (.list ((sortG (fun a b => decide (a < b)) xs).map e)) := by
  show (if (xs.map e).length ≤ lim then (sortD (xs.map e)).map PyData.list else none) = _
  rw [if_pos (by simpa using h), sortD_nat]
  rfl
theorem sorted_pair (xs : List (Nat × Nat)) (h : xs.length ≤ lim) : primD .sorted [.list (xs.map e)] = some (.list ((sortG lt xs).map e)) := by
  show (if (xs.map e).length ≤ lim then (sortD (xs.map e)).map PyData.list else none) = _
  rw [if_pos (by simpa using h), sortD_pair]
  rfl
theorem sorted_pairT (xs : List (Nat × Nat)) (h : xs.length ≤ lim) : primD .sorted [.tuple (xs.map e)] = some (.list ((sortG lt xs).map e)) := by
  show (if (xs.map e).length ≤ lim then (sortD (xs.map e)).map PyData.list else none) = _
  rw [if_pos (by simpa using h), sortD_pair]
  rfl
theorem sorted_list (xs : List (List Nat)) (h : xs.length ≤ lim) (h0 : ∀ l ∈ xs, l ≠ []) : primD .sorted [.list (xs.map e)] = some (.list ((sortG lt xs).map e)) := by
  show (if (xs.map e).length ≤ lim then (sortD (xs.map e)).map PyData.list else none) = _
  rw [if_pos (by simpa using h), sortD_list xs h0]
  rfl
/-! ### what sorting does -/
theorem insG_perm {α : Type} (lt : α → α → Bool) (x : α) : ∀ xs : List α, (insG lt x xs).Perm (x :: xs)
  | [] => List.Perm.refl _
  | y :: r => by
    simp only [insG]
    split
    · exact ((insG_perm lt x r).cons y).trans (List.Perm.swap x y r)
    · exact List.Perm.refl _
theorem sortG_perm {α : Type} (lt : α → α → Bool) : ∀ xs : List α, (sortG lt xs).Perm xs
  | [] => List.Perm.refl _
  | x :: xs => (insG_perm lt x _).trans ((sortG_perm lt xs).cons x)
/-- a strictly rising list is what sorting makes of any sequence of it -/
structure Lin {α : Type} (lt : α → α → Bool) : Prop where
  irr : ∀ a, lt a a = false
  tr : ∀ a b c, lt a b = true → lt b c = true → lt a c = true
  tot : ∀ a b, lt a b = true ∨ a = b ∨ lt b a = true
theorem insG_rise {α : Type} {lt : α → α → Bool} (L : Lin lt) (x : α) : ∀ xs : List α, xs.Pairwise (fun a b => lt b a = false) → (insG lt x xs).Pairwise (fun a b => lt b a = false)
  | [], _ => List.pairwise_singleton _ _
  | y :: r, h => by
    have h' := List.pairwise_cons.mp h
    simp only [insG]
    split
    · rename_i q
      refine List.pairwise_cons.mpr ⟨fun z hz => ?_, insG_rise L x r h'.2⟩
      rcases List.mem_cons.mp ((insG_perm lt x r).mem_iff.mp hz) with rfl | hz
      · cases k : lt z y with
        | false => rfl
        | true => exact absurd (L.tr _ _ _ q k) (by rw [L.irr]; exact Bool.false_ne_true)
      · exact h'.1 z hz
    · rename_i q
      have q : lt y x = false := by simpa using q
      refine List.pairwise_cons.mpr ⟨fun z hz => ?_, h⟩
      rcases List.mem_cons.mp hz with rfl | hz
      · exact q
      · have := h'.1 z hz
        cases k : lt z x with
        | false => rfl
        | true =>
          rcases L.tot x y with a | a | a
          · exact absurd (L.tr _ _ _ k a) (by rw [this]; exact Bool.false_ne_true)
          · subst a
            rw [this] at k
            exact absurd k Bool.false_ne_true
          · rw [q] at a
            exact absurd a Bool.false_ne_true
theorem sortG_rise {α : Type} {lt : α → α → Bool} (L : Lin lt) : ∀ xs : List α, (sortG lt xs).Pairwise (fun a b => lt b a = false)
  | [] => List.Pairwise.nil
  | x :: xs => insG_rise L x _ (sortG_rise L xs)
theorem rise_unique {α : Type} {lt : α → α → Bool} (L : Lin lt) : ∀ {xs ys : List α}, xs.Perm ys → xs.Pairwise (fun a b => lt b a = false) → ys.Pairwise (fun a b => lt b a = false) → xs = ys
  | [], ys, p, _, _ => p.nil_eq
  | x :: xs, [], p, _, _ => absurd p.length_eq (by simp)
  | x :: xs, y :: ys, p, h, k => by
    have h' := List.pairwise_cons.mp h
    have k' := List.pairwise_cons.mp k
    have e1 : x = y := by
      rcases List.mem_cons.mp (p.mem_iff.mp List.mem_cons_self) with rfl | m
      · rfl
      · rcases List.mem_cons.mp (p.mem_iff.mpr List.mem_cons_self) with rfl | m'
        · rfl
        · have a := k'.1 x m
          have b := h'.1 y m'
          rcases L.tot x y with c | c | c
          · rw [a] at c; cases c
          · exact c
          · rw [b] at c; cases c
    subst e1
    rw [rise_unique L (List.perm_cons x |>.mp p) h'.2 k'.2]
theorem sortG_eq {α : Type} {lt : α → α → Bool} (L : Lin lt) {xs ys : List α} (p : xs.Perm ys) (h : ys.Pairwise (fun a b => lt a b = true)) : sortG lt xs = ys :=
  rise_unique L ((sortG_perm lt xs).trans p) (sortG_rise L xs) (h.imp fun {a b} q => by
    cases k : lt b a with
    | false => rfl
    | true => exact absurd (L.tr _ _ _ q k) (by rw [L.irr]; exact Bool.false_ne_true))
theorem lin_nat : Lin (lt : Nat → Nat → Bool) where
  irr a := Ord'.irr a
  tr a b c h k := by
    have h : decide (a < b) = true := h
    have k : decide (b < c) = true := k
    show decide (a < c) = true
    simp at *
    omega
  tot a b := by
    show decide (a < b) = true ∨ a = b ∨ decide (b < a) = true
    simp
    omega
theorem lin_pair {α β : Type} [En α] [En β] [Ord' α] [Ord' β] (L : Lin (lt : α → α → Bool)) (M : Lin (lt : β → β → Bool)) : Lin (lt : α × β → α × β → Bool) where
  irr a := Ord'.irr a
  tr a b c h k := by
    have h : (lt a.1 b.1 || (decide (a.1 = b.1) && lt a.2 b.2)) = true := h
    have k : (lt b.1 c.1 || (decide (b.1 = c.1) && lt b.2 c.2)) = true := k
    show (lt a.1 c.1 || (decide (a.1 = c.1) && lt a.2 c.2)) = true
    simp only [Bool.or_eq_true, Bool.and_eq_true, decide_eq_true_eq] at *
    rcases h with h | ⟨h1, h2⟩ <;> rcases k with k | ⟨k1, k2⟩
    · exact .inl (L.tr _ _ _ h k)
    · exact .inl (k1 ▸ h)
    · exact .inl (h1 ▸ k)
    · exact .inr ⟨h1.trans k1, M.tr _ _ _ h2 k2⟩
  tot a b := by
    obtain ⟨a1, a2⟩ := a
    obtain ⟨b1, b2⟩ := b
    show (lt a1 b1 || (decide (a1 = b1) && lt a2 b2)) = true ∨ _ ∨ (lt b1 a1 || (decide (b1 = a1) && lt b2 a2)) = true
    rcases L.tot a1 b1 with h | h | h
    · exact .inl (by simp [h])
    · subst h
      rcases M.tot a2 b2 with h | h | h
      · exact .inl (by simp [h])
      · subst h; exact .inr (.inl rfl)
      · exact .inr (.inr (by simp [h]))
    · exact .inr (.inr (by simp [h]))
theorem lin_list {α : Type} [En α] [Ord' α] (L : Lin (lt : α → α → Bool)) : Lin (lt : List α → List α → Bool) where
  irr a := Ord'.irr a
  tr := by
    show ∀ a b c : List α, lexB a b = true → lexB b c = true → lexB a c = true
    intro a
    induction a with
    | nil =>
      intro b c h k
      cases b with
      | nil => cases h
      | cons y b =>
        cases c with
        | nil => cases k
        | cons z c => rfl
    | cons x a ih =>
      intro b c h k
      cases b with
      | nil => cases h
      | cons y b =>
        cases c with
        | nil => cases k
        | cons z c =>
          simp only [lexB, Bool.or_eq_true, Bool.and_eq_true, decide_eq_true_eq] at *
          rcases h with h | ⟨h1, h2⟩ <;> rcases k with k | ⟨k1, k2⟩
          · exact .inl (L.tr _ _ _ h k)
          · exact .inl (k1 ▸ h)
          · exact .inl (h1 ▸ k)
          · exact .inr ⟨h1.trans k1, ih _ _ h2 k2⟩
  tot := by
    show ∀ a b : List α, lexB a b = true ∨ a = b ∨ lexB b a = true
    intro a
    induction a with
    | nil =>
      intro b
      cases b with
      | nil => exact .inr (.inl rfl)
      | cons y b => exact .inl rfl
    | cons x a ih =>
      intro b
      cases b with
      | nil => exact .inr (.inr rfl)
      | cons y b =>
        simp only [lexB, Bool.or_eq_true, Bool.and_eq_true, decide_eq_true_eq]
        rcases L.tot x y with h | h | h
        · exact .inl (.inl h)
        · subst h
          rcases ih b with h | h | h
          · exact .inl (.inr ⟨rfl, h⟩)
          · exact .inr (.inl (by rw [h]))
          · exact .inr (.inr (.inr ⟨rfl, h⟩))
        · exact .inr (.inr (.inl h))
/-! ### neighbors in a list -/
theorem zip_drop {α : Type} {r : α → α → Bool} : ∀ {xs : List α}, xs.Pairwise (fun a b => r a b = true) → ((xs.zip (xs.drop 1)).all fun p => r p.1 p.2) = true
  | [], _ => rfl
  | [x], _ => rfl
  | x :: y :: xs, h => by
    have h' := List.pairwise_cons.mp h
    have ih := zip_drop h'.2
    simp only [List.drop_succ_cons, List.drop_zero, List.zip_cons_cons, List.all_cons, h'.1 y List.mem_cons_self, Bool.true_and] at ih ⊢
    exact ih
theorem zipD_map {α β : Type} [En α] [En β] : ∀ (xs : List α) (ys : List β), zipD (xs.map e) (ys.map e) = (xs.zip ys).map e
  | [], _ => by simp [zipD]
  | _ :: _, [] => by simp [zipD]
  | x :: xs, y :: ys => by
    simp [zipD, zipD_map xs ys]
end Mp
set_option maxHeartbeats 200000
/-! Pl4: loops over lists of plain things; the store. -/
namespace Mp
open PySem
open En (e)
open Ord' (lt)
section
variable {turn : D → EnvD → Store → R (Fl × EnvD)} {env : EnvD} {S : Store} {v : Itv}
theorem forB {α : Type} (xs : List α) (en : α → D) (I : List α → EnvD → Store → Prop) (O : Fl → EnvD → Store → Prop) (hs : ∀ pre env S, I pre env S → Src v (xs.map en) S) (h0 : I [] env S)
    (step : ∀ pre x post env S, xs = pre ++ x :: post → I pre env S → ∃ p S', turn (en x) env S = .ok p S' ∧ Out (I (pre ++ [x])) O p S') (done : ∀ env S, I xs env S → O .nx env S) : ∃ p S', forItv turn v env S = .ok p S' ∧ O p.1 p.2 S' := by
  refine forItv_out (xs.map en) (fun pre' env S => ∃ pre post, pre' = pre.map en ∧ xs = pre ++ post ∧ I pre env S) O (fun pre' env S ⟨pre, post, _, _, h⟩ => hs pre env S h) ⟨[], xs, rfl, rfl, h0⟩ (fun pre' d post' env S hd ⟨pre, post, e1, e2, h⟩ => ?_) (fun env S ⟨pre, post, e1, e2, h⟩ => done env S ?_)
  · subst e1
    rw [e2, List.map_append] at hd
    have hd := List.append_cancel_left hd
    cases post with
    | nil => cases hd
    | cons x post =>
      rw [List.map_cons] at hd
      obtain ⟨rfl, rfl⟩ := List.cons.inj hd
      obtain ⟨⟨fl, env'⟩, S', q, o⟩ := step pre x post env S e2 h
      refine ⟨_, S', q, ?_⟩
      cases fl with
      | nx => exact ⟨pre ++ [x], post, by simp, by simp [e2], o⟩
      | cont => exact ⟨pre ++ [x], post, by simp, by simp [e2], o⟩
      | brk => exact o
      | ret v => exact o
  · have hl := congrArg List.length e1
    rw [e2] at hl
    simp at hl
    subst hl
    rw [e2, List.append_nil]
    exact h
theorem forA {α : Type} (xs : List α) (en : α → D) (I : List α → EnvD → Store → Prop) (hs : ∀ pre env S, I pre env S → Src v (xs.map en) S) (h0 : I [] env S)
    (step : ∀ pre x post env S, xs = pre ++ x :: post → I pre env S → ∃ env' S', turn (en x) env S = .ok (.nx, env') S' ∧ I (pre ++ [x]) env' S') : ∃ env' S', forItv turn v env S = .ok (.nx, env') S' ∧ I xs env' S' := by
  obtain ⟨⟨fl, env'⟩, S', q, o⟩ := forB xs en I (fun fl env S => fl = .nx ∧ I xs env S) hs h0 (fun pre x post env S e1 h => by
    obtain ⟨env', S', q, o⟩ := step pre x post env S e1 h
    exact ⟨_, S', q, o⟩) (fun env S h => ⟨rfl, h⟩)
  obtain ⟨o1, o2⟩ := o
  have o1 : fl = .nx := o1
  subst o1
  exact ⟨env', S', q, o2⟩
end
/-- a run of statements that ends well -/
def Ends (r : R (Fl × EnvD)) (Q : Fl → EnvD → Store → Prop) : Prop := ∃ p S', r = .ok p S' ∧ Q p.1 p.2 S'
@[simp] theorem ends_ok (fl : Fl) (env : EnvD) (S : Store) (Q : Fl → EnvD → Store → Prop) : Ends (.ok (fl, env) S) Q ↔ Q fl env S :=
  ⟨fun ⟨p, S', h, q⟩ => by cases h; exact q, fun h => ⟨(fl, env), S, rfl, h⟩⟩
theorem st_app {cal : CallF} {lf : Nat} {env : EnvD} {S : Store} {i l : Nat} {ds : List D} {d : D} {x : E} (h1 : env[i]? = some (some (ref l))) (h2 : S[l]? = some (.lst ds)) (hx : evalE cal x env S = .ok d S) (hl : ds.length < 4000000) (ho : old l d = true) :
    evalS cal lf (.expr (.meth .append (.var i) (.cons x .nil))) env S = .ok (.nx, env) (S.set l (.lst (ds ++ [d]))) := by
  rw [st_expr, ev_meth, ev_var, h1]
  simp only [bind_ok, rd_refP h2, isLst_l, opt_some, ev_cons, hx, ev_nil, app_ref h2 (Nat.lt_of_lt_of_le hl (by decide)) ho]
theorem hide {r : R (Fl × EnvD)} {Q : Fl → EnvD → Store → Prop} (h : ∀ Q', Q' = Q → Ends r Q') : Ends r Q := h Q rfl
theorem Ends.bind {r : R (Fl × EnvD)} {k : Fl × EnvD → Store → R (Fl × EnvD)} {Q Q' : Fl → EnvD → Store → Prop} (h : Ends r Q') (next : ∀ fl env S, Q' fl env S → Ends (k (fl, env) S) Q) : Ends (r.bind k) Q := by
  obtain ⟨⟨fl, env⟩, S', rfl, q⟩ := h
  exact next fl env S' q
theorem Ends.mono {r : R (Fl × EnvD)} {Q Q' : Fl → EnvD → Store → Prop} (h : Ends r Q') (next : ∀ fl env S, Q' fl env S → Q fl env S) : Ends r Q := by
  obtain ⟨⟨fl, env⟩, S', rfl, q⟩ := h
  exact ⟨_, _, rfl, next fl env S' q⟩
theorem leave_of {n : Nat} {r : R (Fl × EnvD)} {X : R D} (h : Ends r fun fl env S' => leave n (.ok (fl, env) S') = X) : leave n r = X := by
  obtain ⟨⟨fl, env⟩, S', rfl, q⟩ := h
  exact q
theorem Ends.forB {turn : D → EnvD → Store → R (Fl × EnvD)} {env : EnvD} {S : Store} {v : Itv} {k : Fl × EnvD → Store → R (Fl × EnvD)} {Q : Fl → EnvD → Store → Prop} {α : Type} (xs : List α) (en : α → D) (I : List α → EnvD → Store → Prop) (O : Fl → EnvD → Store → Prop)
    (hs : ∀ pre env S, I pre env S → Src v (xs.map en) S) (h0 : I [] env S) (step : ∀ pre x post env S, xs = pre ++ x :: post → I pre env S → Ends (turn (en x) env S) fun fl env S' => Out (I (pre ++ [x])) O (fl, env) S')
    (done : ∀ env S, I xs env S → O .nx env S) (next : ∀ fl env S, O fl env S → Ends (k (fl, env) S) Q) : Ends ((forItv turn v env S).bind k) Q :=
  Ends.bind (Mp.forB xs en I O hs h0 step done) next
/-- a for loop that runs to its end -/
theorem Ends.for {turn : D → EnvD → Store → R (Fl × EnvD)} {env : EnvD} {S : Store} {v : Itv} {k : Fl × EnvD → Store → R (Fl × EnvD)} {Q : Fl → EnvD → Store → Prop} {α : Type} (xs : List α) (en : α → D) (I : List α → EnvD → Store → Prop)
    (hs : ∀ pre env S, I pre env S → Src v (xs.map en) S) (h0 : I [] env S) (step : ∀ pre x post env S, xs = pre ++ x :: post → I pre env S → Ends (turn (en x) env S) fun fl env S' => fl = .nx ∧ I (pre ++ [x]) env S')
    (next : ∀ env S, I xs env S → Ends (k (.nx, env) S) Q) : Ends ((forItv turn v env S).bind k) Q :=
  Ends.forB xs en I (fun fl env S => fl = .nx ∧ I xs env S) hs h0 (fun pre x post env S e1 h => (step pre x post env S e1 h).mono fun fl env S ⟨e2, h2⟩ => by subst e2; exact h2) (fun env S h => ⟨rfl, h⟩) fun fl env S ⟨e2, h2⟩ => by subst e2; exact next env S h2
theorem flatMap_le {α β : Type} (f : α → List β) (k : Nat) : ∀ xs : List α, (∀ x ∈ xs, (f x).length ≤ k) → (xs.flatMap f).length ≤ k * xs.length
  | [], _ => by simp
  | x :: xs, h => by
    have h1 := h x List.mem_cons_self
    have h2 := flatMap_le f k xs fun y hy => h y (List.mem_cons_of_mem _ hy)
    simp only [List.flatMap_cons, List.length_append, List.length_cons, Nat.mul_add]
    omega
/-- a loop that appends -/
theorem Ends.forApp {turn : D → EnvD → Store → R (Fl × EnvD)} {env : EnvD} {S : Store} {v : Itv} {k : Fl × EnvD → Store → R (Fl × EnvD)} {Q : Fl → EnvD → Store → Prop} {α β : Type} (xs : List α) (en : α → D) (C : EnvD → Prop) (g : α → List β) (b : Nat) (acc : List β) (Sf : List β → Store)
    (hs : ∀ acc, Src v (xs.map en) (Sf acc)) (h0 : C env) (hS : S = Sf acc) (hb : ∀ x ∈ xs, (g x).length ≤ b)
    (step : ∀ x ∈ xs, ∀ env acc', C env → acc'.length ≤ acc.length + b * xs.length → Ends (turn (en x) env (Sf acc')) fun fl env' S' => fl = .nx ∧ C env' ∧ S' = Sf (acc' ++ g x))
    (next : ∀ env, C env → Ends (k (.nx, env) (Sf (acc ++ xs.flatMap g))) Q) : Ends ((forItv turn v env S).bind k) Q := by
  refine Ends.for xs en (fun pre env S' => C env ∧ S' = Sf (acc ++ pre.flatMap g)) (fun pre env S' ⟨_, h⟩ => h ▸ hs _) ⟨h0, by simpa using hS⟩ (fun pre x post env S' e1 ⟨h1, h2⟩ => ?_) (fun env S' ⟨h1, h2⟩ => h2 ▸ next env h1)
  subst h2
  have l1 := flatMap_le g b pre fun y hy => hb y (by rw [e1]; exact List.mem_append_left _ hy)
  have l2 : pre.length ≤ xs.length := by rw [e1]; simp
  have l3 : b * pre.length ≤ b * xs.length := Nat.mul_le_mul_left b l2
  refine (step x (by rw [e1]; simp) env _ h1 (by rw [List.length_append]; omega)).mono fun fl env' S' ⟨a, b, c⟩ => ⟨a, b, ?_⟩
  rw [c, List.flatMap_append, List.append_assoc]
  simp
theorem Ends.while {test : EnvD → Store → R Bool} {body : EnvD → Store → R (Fl × EnvD)} {f : Nat} {env : EnvD} {S : Store} {k : Fl × EnvD → Store → R (Fl × EnvD)} {Q : Fl → EnvD → Store → Prop} (I : EnvD → Store → Prop) (mu : EnvD → Store → Nat) (O : Fl → EnvD → Store → Prop)
    (h0 : I env S) (hm : mu env S < f)
    (step : ∀ env S, I env S → (test env S = .ok false S ∧ O .nx env S) ∨ (test env S = .ok true S ∧ Ends (body env S) fun fl env' S' => Out (fun env' S' => I env' S' ∧ mu env' S' < mu env S) O (fl, env') S'))
    (next : ∀ fl env S, O fl env S → Ends (k (fl, env) S) Q) : Ends ((whileF test body f env S).bind k) Q :=
  Ends.bind (while_out I mu O (fun env S h => (step env S h).imp id fun ⟨a, b⟩ => ⟨a, b⟩) f env S h0 hm) next
def enumL {α : Type} : Nat → List α → List (Nat × α)
  | _, [] => []
  | k, x :: xs => (k, x) :: enumL (k + 1) xs
theorem pairs_map {α : Type} [En α] : ∀ (k : Nat) (xs : List α), pairs k (xs.map e) = (enumL k xs).map e
  | _, [] => rfl
  | k, x :: xs => by
    simp only [List.map_cons, pairs, enumL, pairs_map (k + 1) xs]
    rfl
theorem enumL_split {α : Type} : ∀ (xs : List α) (k : Nat) {pre post : List (Nat × α)} {p : Nat × α}, enumL k xs = pre ++ p :: post → p.1 = k + pre.length ∧ xs = pre.map (·.2) ++ p.2 :: post.map (·.2)
  | [], _, pre, _, _, h => by simp [enumL] at h
  | x :: xs, k, [], post, p, h => by
    simp only [enumL, List.nil_append, List.cons.injEq] at h
    obtain ⟨rfl, rfl⟩ := h
    have : ∀ (xs : List α) k, (enumL k xs).map (·.2) = xs := fun xs => by
      induction xs with
      | nil => intro k; rfl
      | cons y ys ih => intro k; simp [enumL, ih]
    simp [this]
  | x :: xs, k, q :: pre, post, p, h => by
    simp only [enumL, List.cons_append, List.cons.injEq] at h
    obtain ⟨rfl, h⟩ := h
    obtain ⟨h1, h2⟩ := enumL_split xs (k + 1) h
    refine ⟨by simp [h1]; omega, by simp [h2]⟩
theorem rngL_nat (a b : Nat) : rngL (a : Int) (b : Int) = ((List.range (b - a)).map (a + ·)).map e := by
  unfold rngL
  have : ((b : Int) - (a : Int)).toNat = b - a := by omega
  rw [this, List.map_map]
  apply List.map_congr_left
  intro k _
  simp
theorem rngL_zero (b : Nat) : rngL 0 (b : Int) = (List.range b).map e := by
  have := rngL_nat 0 b
  simpa using this
theorem cut_from {α : Type} (xs : List α) (k : Nat) : cutL xs (some (k : Int)) none = xs.drop k := by
  unfold cutL
  rw [HT.sIx_nat]
  show (xs.drop (min k xs.length)).take (xs.length - min k xs.length) = _
  by_cases h : k ≤ xs.length
  · rw [Nat.min_eq_left h, List.take_of_length_le (by simp)]
  · rw [Nat.min_eq_right (by omega), List.drop_length, List.drop_eq_nil_of_le (by omega)]
    simp
theorem cut_to {α : Type} (xs : List α) (k : Nat) : cutL xs none (some (k : Int)) = xs.take k := by
  unfold cutL
  rw [HT.sIx_nat]
  show (xs.drop 0).take (min k xs.length - 0) = _
  rw [List.drop_zero, Nat.sub_zero]
  by_cases h : k ≤ xs.length
  · rw [Nat.min_eq_left h]
  · rw [Nat.min_eq_right (by omega), List.take_length, List.take_of_length_le (by omega)]
theorem lim_of {n : Nat} (h : n ≤ 1000000) : n ≤ lim := Nat.le_trans h (by decide)
@[simp] theorem dec_cast (a b : Nat) : decide ((a : Int) = (b : Int)) = decide (a = b) := by
  by_cases h : a = b
  · simp [h]
  · have : ¬ (a : Int) = (b : Int) := by omega
    simp [h, this]
theorem rng_ok (n : Nat) (h : n ≤ 1000000) : inRng (n : Int) = true := by
  unfold inRng
  have h1 : (-(2 ^ 62) : Int) ≤ n := by omega
  have h2 : (n : Int) < 2 ^ 62 := by omega
  rw [decide_eq_true h1, decide_eq_true h2]
  rfl
theorem asInt_int (i : Int) : asInt (.int i) = some i := rfl
theorem it_rng {cal : CallF} {S S1 : Store} {env : EnvD} {a : E} {n : Nat} (ha : evalE cal a env S = .ok (.int (n : Int)) S1) (h : n ≤ 1000000) : evalIt cal (.r1 a) env S = .ok (.items ((List.range n).map e)) S1 := by
  rw [it_r1, ha, bind_ok]
  have : ((asInt (.int (n : Int))).bind fun i => if inRng i = true then some (Itv.items (rngL 0 i)) else none) = some (.items ((List.range n).map e)) := by
    rw [asInt_int, Option.bind_some, if_pos (rng_ok n h), rngL_zero]
  rw [this, opt_some]
theorem it_rng2 {cal : CallF} {S S1 S2 : Store} {env : EnvD} {a b : E} {m n : Nat} (ha : evalE cal a env S = .ok (.int (m : Int)) S1) (hb : evalE cal b env S1 = .ok (.int (n : Int)) S2) (hm : m ≤ 1000000) (h : n ≤ 1000000) : evalIt cal (.r2 a b) env S = .ok (.items (((List.range (n - m)).map (m + ·)).map e)) S2 := by
  rw [it_r2, ha, bind_ok, hb, bind_ok]
  have : ((asInt (.int (m : Int))).bind fun i => (asInt (.int (n : Int))).bind fun j => if (inRng i && inRng j) = true then some (Itv.items (rngL i j)) else none) = some (.items (((List.range (n - m)).map (m + ·)).map e)) := by
    rw [asInt_int, asInt_int, Option.bind_some, Option.bind_some, if_pos (by rw [rng_ok m hm, rng_ok n h]; rfl), rngL_nat]
  rw [this, opt_some]
theorem it_pairs {α : Type} [En α] {cal : CallF} {S : Store} {env : EnvD} {i : Nat} (xs : List α) (h : env[i]? = some (some (.tuple (xs.map e)))) : evalIt cal (.zp (.var i) (.slL (.var i) (.con (.int 1)))) env S = .ok (.items ((xs.zip (xs.drop 1)).map e)) S := by
  have c1 : cutL (xs.map e) (some 1) none = (xs.drop 1).map e := (cut_from (xs.map e) 1).trans List.map_drop.symm
  simp only [it_zp, ev_var, h, ev_slL, ev_con, bind_ok, rd_tuple', cutD, asInt, Option.bind_some, c1, opt_some, zipO, zipD_map, Option.map_some]
theorem min1_nat (x : Nat) (r : List Nat) : primD .min1 [.list ((x :: r).map e)] = some (e (r.foldl min x)) := by
  show (((asInts ((x :: r).map e)).bind minI).map PyData.int) = _
  rw [asInts_nat]
  have : ∀ (r : List Nat) (x : Nat), (r.map fun (k : Nat) => (k : Int)).foldl (fun a b => if b < a then b else a) (x : Int) = ((r.foldl min x : Nat) : Int) := by
    intro r
    induction r with
    | nil => intro x; rfl
    | cons y r ih =>
      intro x
      rw [List.map_cons, List.foldl_cons, List.foldl_cons, ← ih]
      congr 1
      by_cases h : y < x
      · rw [if_pos (by omega), Nat.min_eq_right (by omega)]
      · rw [if_neg (by omega), Nat.min_eq_left (by omega)]
  exact congrArg (fun z => some (PyData.int z)) (this r x)
theorem max1_nat (x : Nat) (r : List Nat) : primD .max1 [.list ((x :: r).map e)] = some (e (r.foldl max x)) := by
  show (((asInts ((x :: r).map e)).bind maxI).map PyData.int) = _
  rw [asInts_nat]
  have : ∀ (r : List Nat) (x : Nat), (r.map fun (k : Nat) => (k : Int)).foldl (fun a b => if b > a then b else a) (x : Int) = ((r.foldl max x : Nat) : Int) := by
    intro r
    induction r with
    | nil => intro x; rfl
    | cons y r ih =>
      intro x
      rw [List.map_cons, List.foldl_cons, List.foldl_cons, ← ih]
      congr 1
      by_cases h : x < y
      · rw [if_pos (by omega), Nat.max_eq_right (by omega)]
      · rw [if_neg (by omega), Nat.max_eq_left (by omega)]
  exact congrArg (fun z => some (PyData.int z)) (this r x)
theorem ix_last {α : Type} [En α] (xs : List α) (d : α) (h : xs ≠ []) : ixD (.list (xs.map e)) (.int (-1)) = some (e (xs.getLast?.getD d)) := by
  show (if 0 < (xs.map e).length then (xs.map e)[(xs.map e).length - 1 - 0]? else none) = _
  have hl : 0 < xs.length := List.length_pos_iff.mpr h
  rw [if_pos (by simpa using hl), List.getElem?_map, List.getLast?_eq_getElem?, List.length_map, Nat.sub_zero]
  cases q : xs[xs.length - 1]? with
  | none => rw [List.getElem?_eq_none_iff] at q; omega
  | some x => rfl
theorem ix_at {α : Type} [En α] (xs : List α) (k : Nat) {x : α} (h : xs[k]? = some x) : ixD (.list (xs.map e)) (.int (k : Int)) = some (e x) := by
  show (xs.map e)[k]? = _
  rw [List.getElem?_map, h]
  rfl
theorem ix_atT {α : Type} [En α] (xs : List α) (k : Nat) {x : α} (h : xs[k]? = some x) : ixD (.tuple (xs.map e)) (.int (k : Int)) = some (e x) := by
  show (xs.map e)[k]? = _
  rw [List.getElem?_map, h]
  rfl
theorem tup_list (ds : List D) : primD .tuple [.list ds] = some (.tuple ds) := nrfl rfl
theorem tup_tup (ds : List D) : primD .tuple [.tuple ds] = some (.tuple ds) := nrfl rfl
theorem ltD_nn (p q : Nat × Nat) : ltD (.tuple [.int (p.1 : Int), .int (p.2 : Int)]) (.tuple [.int (q.1 : Int), .int (q.2 : Int)]) = some (lt p q) := ltD_pair p q
/-! ### the store -/
section
variable {S T : Store}
@[simp] theorem get_new (m : M) : (S ++ [m])[S.length]? = some m := by simp
theorem take_set {n l : Nat} (m : M) (h : n ≤ l) : (S.set l m).take n = S.take n := by
  rw [List.take_set]
  exact List.set_eq_of_length_le (by rw [List.length_take]; omega)
@[simp] theorem take_new : (S ++ T).take S.length = S := by simp
theorem take_new_set {k : Nat} (m : M) : ((S ++ T).set (S.length + k) m).take S.length = S := by rw [take_set m (by omega), take_new]
theorem set_new (m m' : M) : (S ++ [m]).set S.length m' = S ++ [m'] := by simp
end
theorem rd_new {S T : Store} {k : Nat} {ds : List D} (h : T[k]? = some (.lst ds)) : rd (S ++ T) (oRef (S.length + k)) = .list ds := by
  refine rd_ref' ?_
  rw [List.getElem?_append_right (by omega)]
  simpa using h
theorem get_at {S T : Store} {k : Nat} : (S ++ T)[S.length + k]? = T[k]? := by
  rw [List.getElem?_append_right (by omega)]
  simp
theorem get_at2 {S T U : Store} {k : Nat} {m : M} (h : T[k]? = some m) : (S ++ (T ++ U))[S.length + k]? = some m := by
  rw [get_at, List.getElem?_append_left (List.getElem?_eq_some_iff.mp h).1]
  exact h
theorem get_at3 {S T : Store} {m : M} : (S ++ (T ++ [m]))[S.length + T.length]? = some m := by rw [get_at, get_new]
theorem set_at3 {S T : Store} {m m' : M} : (S ++ (T ++ [m])).set (S.length + T.length) m' = S ++ (T ++ [m']) := by
  rw [List.set_append_right _ _ (by omega)]
  simp
theorem set_at {S T : Store} {k : Nat} (m : M) : (S ++ T).set (S.length + k) m = S ++ T.set k m := by
  rw [List.set_append_right _ _ (by omega)]
  simp
theorem get_row {S T : Store} {l : Nat} {m : M} (h : l < S.length) : (S.set l m ++ T)[l]? = some m := by
  rw [List.getElem?_append_left (by simpa using h), List.getElem?_set_self h]
theorem set_row {S T : Store} {l : Nat} {m m' : M} (h : l < S.length) : (S.set l m ++ T).set l m' = S.set l m' ++ T := by
  rw [List.set_append_left _ _ (by simpa using h), List.set_set]
theorem get_newR {S : Store} {l : Nat} {m m' : M} : (S.set l m ++ [m'])[S.length]? = some m' := by
  have := get_new (S := S.set l m) m'
  rwa [List.length_set] at this
theorem set_newR {S : Store} {l : Nat} {m m' m2 : M} : (S.set l m ++ [m']).set S.length m2 = S.set l m ++ [m2] := by
  have := set_new (S := S.set l m) m' m2
  rwa [List.length_set] at this
theorem take_newR {S T : Store} {l : Nat} {m : M} : (S.set l m ++ T).take S.length = S.set l m := by
  have := take_new (S := S.set l m) (T := T)
  rwa [List.length_set] at this
theorem set_self' {S : Store} {l : Nat} {m : M} (h : S[l]? = some m) : S.set l m = S := by
  obtain ⟨h1, rfl⟩ := List.getElem?_eq_some_iff.mp h
  exact List.set_getElem_self h1
end Mp
set_option maxHeartbeats 0
namespace Mp.K08
open PySem PySem.Spec PyProof.Rows L2 C8
abbrev top (i : Nat) : Stmt := PySem.Challenge.pw_maskpaint_k08_wits_refused.main.body.getD i (.Pass ⟨0, 0, 0, 0⟩)
abbrev mth_2_0 : Stmt := (clsBody (top 2)).getD 0 (.Pass ⟨0, 0, 0, 0⟩)
abbrev mth_8_0 : Stmt := (clsBody (top 8)).getD 0 (.Pass ⟨0, 0, 0, 0⟩)
def wk__law_refusal : Wfn := ⟨"_law_refusal", ["_law_work", "e", "_law_some", "_law_words"], 1, (.drop .none), "PaintError",
    [.ifr (.ex (.isx "BadMap")) (.tup (.cons (.con (.str "map")) (.cons (.xfl "part") .nil))), .ifr (.ex (.isx "BadWit")) (.tup (.cons (.con (.str "wit")) (.cons (.xfl "index") .nil))), .set 2 (.lst (.cons (.isx "BadHouse") (.cons (.isx "BadLot") (.cons (.isx "BadComing") (.cons (.isx "BadNumber") .nil))))), .set 2 (.add (.var 2) (.lst (.cons (.isx "BadTree") (.cons (.isx "BadStep") .nil)))), .set 3 (.lst (.cons (.con (.str "house")) (.cons (.con (.str "lot")) (.cons (.con (.str "coming")) (.cons (.con (.str "number")) (.cons (.con (.str "tree")) (.cons (.con (.str "step")) .nil))))))), .ret (.ite (.eq (.bcnt (.var 2) (.con (.bool true))) (.con (.int 1))) (.ix (.var 3) (.bidx (.var 2) (.con (.bool true)))) (.con (.str "other")))]⟩
def xs : Xt := ⟨["PaintError", "BadMap", "BadHouse", "BadLot", "BadComing", "BadNumber", "BadTree", "BadWit", "BadStep"], ["PaintError", "BadHouse", "BadLot", "BadComing", "BadNumber", "BadTree", "BadStep"], [("_law_refusal", top 43)], [("BadMap", mth_2_0, "part"), ("BadWit", mth_8_0, "index")]⟩
abbrev i_is_number : Nat := 0
abbrev i_is_pair : Nat := 1
abbrev i_need_map : Nat := 2
abbrev i_are_near : Nat := 3
abbrev i_lots_of : Nat := 4
abbrev i_heaps_of : Nat := 5
abbrev i_need_of : Nat := 6
abbrev i_is_coming : Nat := 7
abbrev i_need_coming : Nat := 8
abbrev i_least_paint : Nat := 9
abbrev i_painted : Nat := 10
abbrev i_paints : Nat := 11
abbrev i_wasted_by : Nat := 12
abbrev i_wasted : Nat := 13
abbrev i_comings_of : Nat := 14
abbrev i_links_of : Nat := 15
abbrev i_is_links : Nat := 16
abbrev i_is_view : Nat := 17
abbrev i_is_row : Nat := 18
abbrev i_need_wit : Nat := 19
abbrev i_followed : Nat := 20
abbrev i_follow : Nat := 21
abbrev i_needs_of : Nat := 22
abbrev i_fooled : Nat := 23
abbrev i_fool : Nat := 24
abbrev i_shows_fool : Nat := 25
abbrev i_waste_of : Nat := 26
abbrev i__law_taken : Nat := 27
abbrev i__law_pick : Nat := 28
abbrev i_law : Nat := 29
def fnsL0 : List Str := ["is_number", "is_pair", "need_map", "are_near", "lots_of", "heaps_of", "need_of", "is_coming", "need_coming", "least_paint", "painted", "paints", "wasted_by", "wasted", "comings_of", "links_of"]
def fnsL1 : List Str := ["is_links", "is_view", "is_row", "need_wit", "followed", "follow", "needs_of", "fooled", "fool", "shows_fool", "waste_of", "_law_taken", "_law_pick", "law"]
def fnsL : List Str := fnsL0 ++ fnsL1
def d_is_number : Mdf := ⟨"is_number", top 12, ⟨"is_number", 3, ["value", "low", "high"],
    (.cons (.ret (.and (.prim (.isi [.int]) (.cons (.var 0) .nil)) (.and (.not (.prim (.isi [.bool]) (.cons (.var 0) .nil))) (.chain .le .le (.var 1) (.var 0) (.var 2)))))
    .nil)⟩, 0⟩
def d_is_pair : Mdf := ⟨"is_pair", top 13, ⟨"is_pair", 2, ["houses", "value", "house"],
    (.cons (.ite (.or (.not (.prim (.isi [.tuple]) (.cons (.var 1) .nil))) (.cmp .ne (.prim .len (.cons (.var 1) .nil)) (.con (.int 2)))) (.cons (.ret (.con (.bool false)))
    .nil) .nil)
    (.cons (.ret (.and (.gen true [2] (.nm 2) (.e (.var 1)) false (.con .none) (.call i_is_number (.cons (.var 2) (.cons (.con (.int 0)) (.cons (.bin .sub (.var 0) (.con (.int 1))) .nil))))) (.cmp .lt (.ix (.var 1) (.con (.int 0))) (.ix (.var 1) (.con (.int 1))))))
    .nil))⟩, 1⟩
def d_need_map : Mdf := ⟨"need_map", top 14, ⟨"need_map", 1, ["value", "houses", "pairs", "one", "other", "pair"],
    (.cons (.ite (.or (.not (.prim (.isi [.tuple]) (.cons (.var 0) .nil))) (.cmp .ne (.prim .len (.cons (.var 0) .nil)) (.con (.int 2)))) (.cons (.rais "BadMap" (some ("part", (.con (.str "map")))))
    .nil) .nil)
    (.cons (.asg (.t2 (.nm 1) (.nm 2)) (.var 0))
    (.cons (.ite (.not (.call i_is_number (.cons (.var 1) (.cons (.con (.int 1)) (.cons (.glo "MOST_HOUSES" (.int 7)) .nil))))) (.cons (.rais "BadMap" (some ("part", (.con (.str "houses")))))
    .nil) .nil)
    (.cons (.ite (.or (.not (.prim (.isi [.tuple]) (.cons (.var 2) .nil))) (.not (.gen true [5] (.nm 5) (.e (.var 2)) false (.con .none) (.call i_is_pair (.cons (.var 1) (.cons (.var 5) .nil)))))) (.cons (.rais "BadMap" (some ("part", (.con (.str "pairs")))))
    .nil) .nil)
    (.cons (.ite (.not (.gen true [3, 4] (.t2 (.nm 3) (.nm 4)) (.zp (.var 2) (.slL (.var 2) (.con (.int 1)))) false (.con .none) (.cmp .lt (.var 3) (.var 4)))) (.cons (.rais "BadMap" (some ("part", (.con (.str "pairs")))))
    .nil) .nil)
    .nil)))))⟩, 1⟩
def d_are_near : Mdf := ⟨"are_near", top 15, ⟨"are_near", 3, ["town", "one", "other"],
    (.cons (.ret (.cmp .inn (.tup (.cons (.prim .min2 (.cons (.var 1) (.cons (.var 2) .nil))) (.cons (.prim .max2 (.cons (.var 1) (.cons (.var 2) .nil))) .nil))) (.ix (.var 0) (.con (.int 1)))))
    .nil)⟩, 0⟩
def d_lots_of : Mdf := ⟨"lots_of", top 16, ⟨"lots_of", 1, ["many", "found", "one", "lot"],
    (.cons (.asg (.nm 1) (.lst true (.cons (.tup .nil) .nil)))
    (.cons (.for (.nm 2) (.r1 (.var 0)) (.cons (.aug 1 .add (.comp false [3] (.nm 3) (.e (.var 1)) false (.con .none) (.bin .add (.var 3) (.tup (.cons (.var 2) .nil)))))
    .nil))
    (.cons (.ret (.prim .sortLen (.cons (.var 1) .nil)))
    .nil)))⟩, 3⟩
def d_heaps_of : Mdf := ⟨"heaps_of", top 17, ⟨"heaps_of", 2, ["town", "lot", "found", "house", "longer", "heaps", "at", "heap", "other"],
    (.cons (.asg (.nm 2) (.lst true (.cons (.tup .nil) .nil)))
    (.cons (.for (.nm 3) (.e (.var 1)) (.cons (.asg (.nm 4) (.lst true .nil))
    (.cons (.for (.nm 5) (.e (.var 2)) (.cons (.for (.t2 (.nm 6) (.nm 7)) (.en (.var 5)) (.cons (.ite (.not (.gen false [8] (.nm 8) (.e (.var 7)) false (.con .none) (.call i_are_near (.cons (.var 0) (.cons (.var 3) (.cons (.var 8) .nil)))))) (.cons (.expr (.meth .append (.var 4) (.cons (.bin .add (.bin .add (.slH (.var 5) (.var 6)) (.tup (.cons (.bin .add (.var 7) (.tup (.cons (.var 3) .nil))) .nil))) (.slL (.var 5) (.bin .add (.var 6) (.con (.int 1))))) .nil)))
    .nil) .nil)
    .nil))
    (.cons (.expr (.meth .append (.var 4) (.cons (.bin .add (.var 5) (.tup (.cons (.tup (.cons (.var 3) .nil)) .nil))) .nil)))
    .nil)))
    (.cons (.asg (.nm 2) (.var 4))
    .nil))))
    (.cons (.ret (.frz 2))
    .nil)))⟩, 1⟩
def d_need_of : Mdf := ⟨"need_of", top 18, ⟨"need_of", 2, ["town", "lot", "heaps"],
    (.cons (.ret (.prim .min1 (.cons (.comp false [2] (.nm 2) (.e (.call i_heaps_of (.cons (.var 0) (.cons (.var 1) .nil)))) false (.con .none) (.prim .len (.cons (.var 2) .nil))) .nil)))
    .nil)⟩, 0⟩
def d_is_coming : Mdf := ⟨"is_coming", top 20, ⟨"is_coming", 2, ["town", "value", "house"],
    (.cons (.ite (.or (.not (.prim (.isi [.tuple]) (.cons (.var 1) .nil))) (.not (.gen true [2] (.nm 2) (.e (.var 1)) false (.con .none) (.call i_is_number (.cons (.var 2) (.cons (.con (.int 0)) (.cons (.bin .sub (.ix (.var 0) (.con (.int 0))) (.con (.int 1))) .nil))))))) (.cons (.ret (.con (.bool false)))
    .nil) .nil)
    (.cons (.ret (.cmp .eq (.prim .lenSet (.cons (.var 1) .nil)) (.prim .len (.cons (.var 1) .nil))))
    .nil))⟩, 1⟩
def d_need_coming : Mdf := ⟨"need_coming", top 21, ⟨"need_coming", 2, ["town", "value"],
    (.cons (.ite (.not (.call i_is_coming (.cons (.var 0) (.cons (.var 1) .nil)))) (.cons (.rais "BadComing" none)
    .nil) .nil)
    .nil)⟩, 0⟩
def d_least_paint : Mdf := ⟨"least_paint", top 22, ⟨"least_paint", 1, ["barred", "paint"],
    (.cons (.asg (.nm 1) (.con (.int 1)))
    (.cons (.while (.cmp .inn (.var 1) (.var 0)) (.cons (.aug 1 .add (.con (.int 1)))
    .nil))
    (.cons (.ret (.var 1))
    .nil)))⟩, 0⟩
def d_painted : Mdf := ⟨"painted", top 23, ⟨"painted", 2, ["town", "coming", "found", "at", "house", "place"],
    (.cons (.asg (.nm 2) (.lst true .nil))
    (.cons (.for (.t2 (.nm 3) (.nm 4)) (.en (.var 1)) (.cons (.expr (.meth .append (.var 2) (.cons (.call i_least_paint (.cons (.comp false [5] (.nm 5) (.r1 (.var 3)) true (.call i_are_near (.cons (.var 0) (.cons (.var 4) (.cons (.ix (.var 1) (.var 5)) .nil)))) (.ix (.var 2) (.var 5))) .nil)) .nil)))
    .nil))
    (.cons (.ret (.prim .tuple (.cons (.var 2) .nil)))
    .nil)))⟩, 0⟩
def d_paints : Mdf := ⟨"paints", top 24, ⟨"paints", 2, ["town", "coming"],
    (.cons (.expr (.call i_need_map (.cons (.var 0) .nil)))
    (.cons (.expr (.call i_need_coming (.cons (.var 0) (.cons (.var 1) .nil))))
    (.cons (.ret (.call i_painted (.cons (.var 0) (.cons (.var 1) .nil))))
    .nil)))⟩, 0⟩
def d_wasted_by : Mdf := ⟨"wasted_by", top 25, ⟨"wasted_by", 3, ["town", "coming", "found"],
    (.cons (.ret (.bin .sub (.prim .lenSet (.cons (.var 2) .nil)) (.call i_need_of (.cons (.var 0) (.cons (.prim .tuple (.cons (.prim .sorted (.cons (.var 1) .nil)) .nil)) .nil)))))
    .nil)⟩, 0⟩
def d_wasted : Mdf := ⟨"wasted", top 26, ⟨"wasted", 2, ["town", "coming"],
    (.cons (.expr (.call i_need_map (.cons (.var 0) .nil)))
    (.cons (.expr (.call i_need_coming (.cons (.var 0) (.cons (.var 1) .nil))))
    (.cons (.ret (.call i_wasted_by (.cons (.var 0) (.cons (.var 1) (.cons (.call i_painted (.cons (.var 0) (.cons (.var 1) .nil))) .nil)))))
    .nil)))⟩, 0⟩
def d_comings_of : Mdf := ⟨"comings_of", top 27, ⟨"comings_of", 1, ["town", "found", "layer", "coming", "house"],
    (.cons (.par [1, 2] (.cons (.lst true (.cons (.tup .nil) .nil)) (.cons (.lst false (.cons (.tup .nil) .nil)) .nil)))
    (.cons (.while (.var 2) (.cons (.asg (.nm 2) (.comp2 false [3, 4] (.nm 3) (.e (.var 2)) false (.con .none) (.nm 4) (.r1 (.ix (.var 0) (.con (.int 0)))) true (.cmp .nin (.var 4) (.var 3)) (.bin .add (.var 3) (.tup (.cons (.var 4) .nil)))))
    (.cons (.aug 1 .add (.var 2))
    .nil)))
    (.cons (.ret (.frz 1))
    .nil)))⟩, 0⟩
def d_links_of : Mdf := ⟨"links_of", top 30, ⟨"links_of", 2, ["town", "coming", "found", "at", "house", "place"],
    (.cons (.asg (.nm 2) (.lst true .nil))
    (.cons (.for (.t2 (.nm 3) (.nm 4)) (.en (.var 1)) (.cons (.expr (.meth .append (.var 2) (.cons (.prim .tuple (.cons (.comp false [5] (.nm 5) (.r1 (.var 3)) true (.call i_are_near (.cons (.var 0) (.cons (.var 4) (.cons (.ix (.var 1) (.var 5)) .nil)))) (.var 5)) .nil)) .nil)))
    .nil))
    (.cons (.ret (.prim .tuple (.cons (.var 2) .nil)))
    .nil)))⟩, 0⟩
def d_is_links : Mdf := ⟨"is_links", top 31, ⟨"is_links", 1, ["value", "at", "places", "one", "other", "place"],
    (.cons (.ite (.or (.not (.prim (.isi [.tuple]) (.cons (.var 0) .nil))) (.not (.chain .le .le (.con (.int 1)) (.prim .len (.cons (.var 0) .nil)) (.glo "MOST_HOUSES" (.int 7))))) (.cons (.ret (.con (.bool false)))
    .nil) .nil)
    (.cons (.for (.t2 (.nm 1) (.nm 2)) (.en (.var 0)) (.cons (.ite (.or (.not (.prim (.isi [.tuple]) (.cons (.var 2) .nil))) (.not (.gen true [5] (.nm 5) (.e (.var 2)) false (.con .none) (.call i_is_number (.cons (.var 5) (.cons (.con (.int 0)) (.cons (.bin .sub (.var 1) (.con (.int 1))) .nil))))))) (.cons (.ret (.con (.bool false)))
    .nil) .nil)
    (.cons (.ite (.not (.gen true [3, 4] (.t2 (.nm 3) (.nm 4)) (.zp (.var 2) (.slL (.var 2) (.con (.int 1)))) false (.con .none) (.cmp .lt (.var 3) (.var 4)))) (.cons (.ret (.con (.bool false)))
    .nil) .nil)
    .nil)))
    (.cons (.ret (.con (.bool true)))
    .nil)))⟩, 1⟩
def d_is_view : Mdf := ⟨"is_view", top 32, ⟨"is_view", 1, ["value", "links", "told", "at", "places", "place", "paint"],
    (.cons (.ite (.or (.not (.prim (.isi [.tuple]) (.cons (.var 0) .nil))) (.or (.cmp .ne (.prim .len (.cons (.var 0) .nil)) (.con (.int 2))) (.not (.call i_is_links (.cons (.ix (.var 0) (.con (.int 0))) .nil))))) (.cons (.ret (.con (.bool false)))
    .nil) .nil)
    (.cons (.asg (.t2 (.nm 1) (.nm 2)) (.var 0))
    (.cons (.ite (.or (.not (.prim (.isi [.tuple]) (.cons (.var 2) .nil))) (.cmp .ne (.prim .len (.cons (.var 2) .nil)) (.bin .sub (.prim .len (.cons (.var 1) .nil)) (.con (.int 1))))) (.cons (.ret (.con (.bool false)))
    .nil) .nil)
    (.cons (.ite (.not (.gen true [6] (.nm 6) (.e (.var 2)) false (.con .none) (.call i_is_number (.cons (.var 6) (.cons (.con (.int 1)) (.cons (.glo "MOST_HOUSES" (.int 7)) .nil)))))) (.cons (.ret (.con (.bool false)))
    .nil) .nil)
    (.cons (.ret (.gen2 true [3, 4, 5] (.t2 (.nm 3) (.nm 4)) (.en (.slH (.var 1) (.neg (.con (.int 1))))) false (.con .none) (.nm 5) (.e (.var 4)) false (.con .none) (.cmp .ne (.ix (.var 2) (.var 3)) (.ix (.var 2) (.var 5)))))
    .nil)))))⟩, 1⟩
def d_is_row : Mdf := ⟨"is_row", top 33, ⟨"is_row", 1, ["value", "links", "told", "place"],
    (.cons (.ite (.or (.not (.prim (.isi [.tuple]) (.cons (.var 0) .nil))) (.or (.cmp .ne (.prim .len (.cons (.var 0) .nil)) (.con (.int 2))) (.not (.call i_is_view (.cons (.ix (.var 0) (.con (.int 0))) .nil))))) (.cons (.ret (.con (.bool false)))
    .nil) .nil)
    (.cons (.asg (.t2 (.nm 1) (.nm 2)) (.ix (.var 0) (.con (.int 0))))
    (.cons (.ret (.and (.call i_is_number (.cons (.ix (.var 0) (.con (.int 1))) (.cons (.con (.int 1)) (.cons (.glo "MOST_HOUSES" (.int 7)) .nil)))) (.cmp .nin (.ix (.var 0) (.con (.int 1))) (.comp false [3] (.nm 3) (.e (.ix (.var 1) (.neg (.con (.int 1))))) false (.con .none) (.ix (.var 2) (.var 3))))))
    .nil)))⟩, 0⟩
def d_need_wit : Mdf := ⟨"need_wit", top 34, ⟨"need_wit", 1, ["value", "index", "row"],
    (.cons (.ite (.or (.not (.prim (.isi [.tuple]) (.cons (.var 0) .nil))) (.cmp .gt (.prim .len (.cons (.var 0) .nil)) (.glo "MOST_ROWS" (.int 300)))) (.cons (.rais "BadWit" (some ("index", (.con .none))))
    .nil) .nil)
    (.cons (.for (.t2 (.nm 1) (.nm 2)) (.en (.var 0)) (.cons (.ite (.or (.not (.call i_is_row (.cons (.var 2) .nil))) (.and (.cmp .gt (.var 1) (.con (.int 0))) (.not (.cmp .lt (.ix (.ix (.var 0) (.bin .sub (.var 1) (.con (.int 1)))) (.con (.int 0))) (.ix (.var 2) (.con (.int 0))))))) (.cons (.rais "BadWit" (some ("index", (.var 1))))
    .nil) .nil)
    .nil))
    .nil))⟩, 0⟩
def d_followed : Mdf := ⟨"followed", top 35, ⟨"followed", 3, ["town", "wit", "coming", "table", "links", "found", "at", "view", "place"],
    (.cons (.asg (.t3 (.nm 3) (.nm 4) (.nm 5)) (.tup (.cons (.dpairs (.var 1)) (.cons (.call i_links_of (.cons (.var 0) (.cons (.var 2) .nil))) (.cons (.lst true .nil) .nil)))))
    (.cons (.for (.nm 6) (.r1 (.prim .len (.cons (.var 2) .nil))) (.cons (.asg (.nm 7) (.tup (.cons (.slH (.var 4) (.bin .add (.var 6) (.con (.int 1)))) (.cons (.prim .tuple (.cons (.var 5) .nil)) .nil))))
    (.cons (.expr (.meth .append (.var 5) (.cons (.dgetD (.var 3) (.var 7) (.call i_least_paint (.cons (.comp false [8] (.nm 8) (.e (.ix (.var 4) (.var 6))) false (.con .none) (.ix (.var 5) (.var 8))) .nil))) .nil)))
    .nil)))
    (.cons (.ret (.prim .tuple (.cons (.var 5) .nil)))
    .nil)))⟩, 0⟩
def d_follow : Mdf := ⟨"follow", top 36, ⟨"follow", 3, ["town", "wit", "coming"],
    (.cons (.expr (.call i_need_map (.cons (.var 0) .nil)))
    (.cons (.expr (.call i_need_wit (.cons (.var 1) .nil)))
    (.cons (.expr (.call i_need_coming (.cons (.var 0) (.cons (.var 2) .nil))))
    (.cons (.ret (.call i_followed (.cons (.var 0) (.cons (.var 1) (.cons (.var 2) .nil)))))
    .nil))))⟩, 0⟩
def d_needs_of : Mdf := ⟨"needs_of", top 37, ⟨"needs_of", 1, ["town", "lot"],
    (.cons (.ret (.dcomp [1] (.nm 1) (.e (.call i_lots_of (.cons (.ix (.var 0) (.con (.int 0))) .nil))) (.var 1) (.call i_need_of (.cons (.var 0) (.cons (.var 1) .nil)))))
    .nil)⟩, 0⟩
def d_fooled : Mdf := ⟨"fooled", top 38, ⟨"fooled", 2, ["town", "wit", "needs", "coming"],
    (.cons (.asg (.nm 2) (.call i_needs_of (.cons (.var 0) .nil)))
    (.cons (.for (.nm 3) (.e (.call i_comings_of (.cons (.var 0) .nil))) (.cons (.ite (.cmp .gt (.prim .lenSet (.cons (.call i_followed (.cons (.var 0) (.cons (.var 1) (.cons (.var 3) .nil)))) .nil)) (.dix (.var 2) (.prim .tuple (.cons (.prim .sorted (.cons (.var 3) .nil)) .nil)))) (.cons (.ret (.var 3))
    .nil) .nil)
    .nil))
    (.cons (.ret (.con .none))
    .nil)))⟩, 0⟩
def d_fool : Mdf := ⟨"fool", top 39, ⟨"fool", 2, ["town", "wit"],
    (.cons (.expr (.call i_need_map (.cons (.var 0) .nil)))
    (.cons (.expr (.call i_need_wit (.cons (.var 1) .nil)))
    (.cons (.ret (.call i_fooled (.cons (.var 0) (.cons (.var 1) .nil))))
    .nil)))⟩, 0⟩
def d_shows_fool : Mdf := ⟨"shows_fool", top 40, ⟨"shows_fool", 3, ["town", "wit", "value", "due"],
    (.cons (.expr (.call i_need_map (.cons (.var 0) .nil)))
    (.cons (.expr (.call i_need_wit (.cons (.var 1) .nil)))
    (.cons (.asg (.nm 3) (.call i_fooled (.cons (.var 0) (.cons (.var 1) .nil))))
    (.cons (.ite (.or (.cmp .isN (.var 3) (.con .none)) (.cmp .isN (.var 2) (.con .none))) (.cons (.ret (.and (.cmp .isN (.var 3) (.con .none)) (.cmp .isN (.var 2) (.con .none))))
    .nil) .nil)
    (.cons (.ite (.or (.not (.call i_is_coming (.cons (.var 0) (.cons (.var 2) .nil)))) (.cmp .ne (.prim .len (.cons (.var 2) .nil)) (.prim .len (.cons (.var 3) .nil)))) (.cons (.ret (.con (.bool false)))
    .nil) .nil)
    (.cons (.ret (.cmp .gt (.prim .lenSet (.cons (.call i_followed (.cons (.var 0) (.cons (.var 1) (.cons (.var 2) .nil)))) .nil)) (.call i_need_of (.cons (.var 0) (.cons (.prim .tuple (.cons (.prim .sorted (.cons (.var 2) .nil)) .nil)) .nil)))))
    .nil))))))⟩, 0⟩
def d_waste_of : Mdf := ⟨"waste_of", top 41, ⟨"waste_of", 2, ["town", "wit", "needs", "found", "coming"],
    (.cons (.expr (.call i_need_map (.cons (.var 0) .nil)))
    (.cons (.expr (.call i_need_wit (.cons (.var 1) .nil)))
    (.cons (.asg (.nm 2) (.call i_needs_of (.cons (.var 0) .nil)))
    (.cons (.asg (.nm 3) (.comp false [4] (.nm 4) (.e (.call i_comings_of (.cons (.var 0) .nil))) false (.con .none) (.bin .sub (.prim .lenSet (.cons (.call i_followed (.cons (.var 0) (.cons (.var 1) (.cons (.var 4) .nil)))) .nil)) (.dix (.var 2) (.prim .tuple (.cons (.prim .sorted (.cons (.var 4) .nil)) .nil))))))
    (.cons (.ret (.prim .max1 (.cons (.var 3) .nil)))
    .nil)))))⟩, 0⟩
def d__law_taken : Mdf := ⟨"_law_taken", top 44, ⟨"_law_taken", 2, ["_law_row", "_law_many", "_law_found", "_law_cell"],
    (.cons (.ite (.cmp .gt (.ix (.var 0) (.con (.int 3))) (.con (.int 0))) (.cons (.asg (.nm 2) (.bin .mod (.prim .int1 (.cons (.ix (.var 0) (.con (.int 3))) .nil)) (.var 1)))
    (.cons (.setix (.var 0) (.con (.int 3)) (.bin .fdiv (.ix (.var 0) (.con (.int 3))) (.var 1)))
    (.cons (.ret (.var 2))
    .nil))) .nil)
    (.cons (.setix (.var 0) (.con (.int 1)) (.bin .add (.ix (.var 0) (.con (.int 1))) (.con (.int 1))))
    (.cons (.ite (.cmp .gt (.ix (.var 0) (.con (.int 1))) (.prim .len (.cons (.ix (.var 0) (.con (.int 0))) .nil))) (.cons (.setix (.var 0) (.con (.int 2)) (.bin .mod (.prim .int1 (.cons (.bin .add (.bin .mul (.ix (.var 0) (.con (.int 2))) (.con (.int 48271))) (.con (.int 11))) .nil)) (.con (.int 2147483647))))
    (.cons (.ret (.bin .mod (.prim .int1 (.cons (.bin .fdiv (.ix (.var 0) (.con (.int 2))) (.con (.int 7))) .nil)) (.var 1)))
    .nil)) .nil)
    (.cons (.asg (.nm 3) (.ix (.ix (.var 0) (.con (.int 0))) (.bin .sub (.ix (.var 0) (.con (.int 1))) (.con (.int 1)))))
    (.cons (.setix (.var 0) (.con (.int 2)) (.bin .mod (.prim .int1 (.cons (.bin .add (.bin .add (.bin .mul (.ix (.var 0) (.con (.int 2))) (.con (.int 48271))) (.var 3)) (.con (.int 11))) .nil)) (.con (.int 2147483647))))
    (.cons (.ite (.cmp .ge (.var 3) (.bin .pow (.con (.int 10)) (.con (.int 18)))) (.cons (.setix (.var 0) (.con (.int 3)) (.bin .fdiv (.var 3) (.var 1)))
    .nil) .nil)
    (.cons (.ret (.bin .mod (.prim .int1 (.cons (.var 3) .nil)) (.var 1)))
    .nil)))))))⟩, 0⟩
def d__law_pick : Mdf := ⟨"_law_pick", top 45, ⟨"_law_pick", 2, ["_law_row", "_law_things"],
    (.cons (.ret (.ix (.var 1) (.call i__law_taken (.cons (.var 0) (.cons (.prim .len (.cons (.var 1) .nil)) .nil)))))
    .nil)⟩, 0⟩
def d_law : Mdf := ⟨"law", top 46, ⟨"law", 1, ["_law_script", "_law_row", "_law_town", "_law_value", "_law_ask", "_law_first", "_law_later", "_law_near", "_law_bad", "_law_turn", "_law_index", "_law_good"],
    (.cons (.asg (.nm 1) (.lst true (.cons (.var 0) (.cons (.con (.int 0)) (.cons (.con (.int 1670)) (.cons (.con (.int 0)) .nil))))))
    (.cons (.asg (.nm 2) (.tup (.cons (.con (.int 3)) (.cons (.tup (.cons (.tup (.cons (.con (.int 0)) (.cons (.con (.int 1)) .nil))) .nil)) .nil))))
    (.cons (.for (.nm 3) (.e (.lst false (.cons (.con .none) (.cons (.lst false (.cons (.con (.int 0)) .nil)) (.cons (.tup (.cons (.con (.int 3)) .nil)) (.cons (.tup (.cons (.neg (.con (.int 1))) .nil)) (.cons (.tup (.cons (.con (.int 0)) (.cons (.con (.int 0)) .nil))) (.cons (.tup (.cons (.con (.bool true)) .nil)) (.cons (.con (.str "0")) (.cons (.con (.int 0)) (.cons (.tup (.cons (.con (.int 0)) (.cons (.con (.int 1)) (.cons (.con (.int 2)) (.cons (.con (.int 0)) .nil))))) .nil))))))))))) (.cons (.for (.nm 4) (.e (.lst false (.cons (.glo "paints" (oFn "paints")) (.cons (.glo "wasted" (oFn "wasted")) .nil)))) (.cons (.ite (.cmp .ne (.lamc wk__law_refusal xs.xs (.callv fnsL 4 (.cons (.var 2) (.cons (.var 3) .nil)))) (.con (.str "coming"))) (.cons (.ret (.con (.bool false)))
    .nil) .nil)
    .nil))
    (.cons (.ite (.cmp .ne (.lamc wk__law_refusal xs.xs (.call i_follow (.cons (.var 2) (.cons (.ktup .nil) (.cons (.var 3) .nil))))) (.con (.str "coming"))) (.cons (.ret (.con (.bool false)))
    .nil) .nil)
    .nil)))
    (.cons (.asg (.t2 (.nm 5) (.nm 6)) (.tup (.cons (.tup (.cons (.tup (.cons (.tup (.cons (.tup .nil) .nil)) (.cons (.tup .nil) .nil))) (.cons (.con (.int 2)) .nil))) (.cons (.tup (.cons (.tup (.cons (.tup (.cons (.tup .nil) (.cons (.tup .nil) .nil))) (.cons (.tup (.cons (.con (.int 1)) .nil)) .nil))) (.cons (.con (.int 3)) .nil))) .nil))))
    (.cons (.asg (.nm 7) (.tup (.cons (.tup (.cons (.tup (.cons (.tup .nil) (.cons (.tup (.cons (.con (.int 0)) .nil)) .nil))) (.cons (.tup (.cons (.con (.int 2)) .nil)) .nil))) (.cons (.con (.int 1)) .nil))))
    (.cons (.asg (.nm 8) (.lst false (.cons (.tup (.cons (.con .none) (.cons (.con .none) .nil))) (.cons (.tup (.cons (.lst false .nil) (.cons (.con .none) .nil))) (.cons (.tup (.cons (.bin .mul (.tup (.cons (.var 5) .nil)) (.con (.int 301))) (.cons (.con .none) .nil))) (.cons (.tup (.cons .edict (.cons (.con .none) .nil))) (.cons (.tup (.cons (.tup (.cons (.con .none) .nil)) (.cons (.con (.int 0)) .nil))) (.cons (.tup (.cons (.tup (.cons (.var 5) (.cons (.var 5) .nil))) (.cons (.con (.int 1)) .nil))) (.cons (.tup (.cons (.tup (.cons (.var 6) (.cons (.var 5) .nil))) (.cons (.con (.int 1)) .nil))) .nil)))))))))
    (.cons (.asg (.nm 8) (.bin .add (.var 8) (.lst false (.cons (.tup (.cons (.tup (.cons (.var 5) (.cons (.var 6) (.cons (.var 7) (.cons (.var 7) .nil))))) (.cons (.con (.int 3)) .nil))) (.cons (.tup (.cons (.tup (.cons (.tup (.cons (.tup (.cons (.tup .nil) .nil)) (.cons (.tup .nil) .nil))) .nil)) (.cons (.con (.int 0)) .nil))) (.cons (.tup (.cons (.tup (.cons (.tup (.cons (.tup (.cons (.tup (.cons (.tup .nil) .nil)) (.cons (.tup .nil) .nil))) (.cons (.con (.int 0)) .nil))) .nil)) (.cons (.con (.int 0)) .nil))) (.cons (.tup (.cons (.tup (.cons (.tup (.cons (.tup (.cons (.tup (.cons (.tup .nil) .nil)) (.cons (.tup .nil) .nil))) (.cons (.con (.int 8)) .nil))) .nil)) (.cons (.con (.int 0)) .nil))) .nil)))))))
    (.cons (.asg (.nm 8) (.bin .add (.var 8) (.lst false (.cons (.tup (.cons (.tup (.cons (.tup (.cons (.tup (.cons (.tup (.cons (.tup .nil) .nil)) (.cons (.tup .nil) .nil))) (.cons (.con (.bool true)) .nil))) .nil)) (.cons (.con (.int 0)) .nil))) (.cons (.tup (.cons (.tup (.cons (.tup (.cons (.tup (.cons (.tup (.cons (.tup .nil) (.cons (.tup (.cons (.con (.int 0)) .nil)) .nil))) (.cons (.tup (.cons (.con (.int 2)) .nil)) .nil))) (.cons (.con (.int 2)) .nil))) .nil)) (.cons (.con (.int 0)) .nil))) (.cons (.tup (.cons (.tup (.cons (.tup (.cons (.tup (.cons (.tup (.cons (.tup .nil) (.cons (.tup (.cons (.con (.int 1)) .nil)) .nil))) (.cons (.tup (.cons (.con (.int 2)) .nil)) .nil))) (.cons (.con (.int 1)) .nil))) .nil)) (.cons (.con (.int 0)) .nil))) .nil))))))
    (.cons (.asg (.nm 8) (.bin .add (.var 8) (.lst false (.cons (.tup (.cons (.tup (.cons (.tup (.cons (.tup (.cons (.tup (.cons (.tup .nil) (.cons (.tup (.cons (.con (.int 0)) .nil)) .nil))) (.cons (.tup .nil) .nil))) (.cons (.con (.int 1)) .nil))) .nil)) (.cons (.con (.int 0)) .nil))) (.cons (.tup (.cons (.tup (.cons (.tup (.cons (.tup (.cons (.tup (.cons (.tup .nil) (.cons (.tup (.cons (.con (.int 0)) .nil)) (.cons (.tup (.cons (.con (.int 0)) .nil)) .nil)))) (.cons (.tup (.cons (.con (.int 1)) (.cons (.con (.int 1)) .nil))) .nil))) (.cons (.con (.int 2)) .nil))) .nil)) (.cons (.con (.int 0)) .nil))) (.cons (.tup (.cons (.tup (.cons (.tup (.cons (.tup (.cons (.bin .mul (.tup (.cons (.tup .nil) .nil)) (.con (.int 8))) (.cons (.bin .mul (.tup (.cons (.con (.int 1)) .nil)) (.con (.int 7))) .nil))) (.cons (.con (.int 1)) .nil))) .nil)) (.cons (.con (.int 0)) .nil))) .nil))))))
    (.cons (.asg (.nm 8) (.bin .add (.var 8) (.lst false (.cons (.tup (.cons (.tup (.cons (.tup (.cons (.tup (.cons (.tup (.cons (.tup .nil) (.cons (.tup (.cons (.con (.int 0)) (.cons (.con (.int 0)) .nil))) .nil))) (.cons (.tup (.cons (.con (.int 2)) .nil)) .nil))) (.cons (.con (.int 1)) .nil))) .nil)) (.cons (.con (.int 0)) .nil))) (.cons (.tup (.cons (.tup (.cons (.tup (.cons (.tup (.cons (.tup .nil) (.cons (.tup .nil) .nil))) (.cons (.con (.int 1)) .nil))) .nil)) (.cons (.con (.int 0)) .nil))) (.cons (.tup (.cons (.tup (.cons (.tup (.cons (.tup (.cons (.tup (.cons (.lst false .nil) .nil)) (.cons (.tup .nil) .nil))) (.cons (.con (.int 1)) .nil))) .nil)) (.cons (.con (.int 0)) .nil))) (.cons (.tup (.cons (.tup (.cons (.tup (.cons (.tup (.cons (.tup (.cons (.tup .nil) .nil)) (.cons (.tup (.cons (.con (.int 1)) .nil)) .nil))) (.cons (.con (.int 1)) .nil))) .nil)) (.cons (.con (.int 0)) .nil))) .nil)))))))
    (.cons (.for (.nm 9) (.r1 (.con (.int 4))) (.cons (.asg (.t2 (.nm 3) (.nm 10)) (.call i__law_pick (.cons (.var 1) (.cons (.var 8) .nil))))
    (.cons (.for (.nm 4) (.e (.lst false (.cons (.glo "fool" (oFn "fool")) (.cons (.glo "waste_of" (oFn "waste_of")) .nil)))) (.cons (.ite (.cmp .ne (.lamc wk__law_refusal xs.xs (.callv fnsL 4 (.cons (.var 2) (.cons (.var 3) .nil)))) (.tup (.cons (.con (.str "wit")) (.cons (.var 10) .nil)))) (.cons (.ret (.con (.bool false)))
    .nil) .nil)
    .nil))
    (.cons (.for (.nm 4) (.e (.lst false (.cons (.glo "follow" (oFn "follow")) (.cons (.glo "shows_fool" (oFn "shows_fool")) .nil)))) (.cons (.ite (.cmp .ne (.lamc wk__law_refusal xs.xs (.callv fnsL 4 (.cons (.var 2) (.cons (.var 3) (.cons (.con .none) .nil))))) (.tup (.cons (.con (.str "wit")) (.cons (.var 10) .nil)))) (.cons (.ret (.con (.bool false)))
    .nil) .nil)
    .nil))
    .nil))))
    (.cons (.asg (.nm 11) (.ktup (.cons (.var 5) (.cons (.var 6) (.cons (.var 7) .nil)))))
    (.cons (.ite (.cmp .ntN (.lamc wk__law_refusal xs.xs (.call i_waste_of (.cons (.var 2) (.cons (.var 11) .nil)))) (.con .none)) (.cons (.ret (.con (.bool false)))
    .nil) .nil)
    (.cons (.ret (.and (.cmp .eq (.call i_follow (.cons (.var 2) (.cons (.var 11) (.cons (.tup (.cons (.con (.int 0)) (.cons (.con (.int 1)) (.cons (.con (.int 2)) .nil)))) .nil)))) (.tup (.cons (.con (.int 2)) (.cons (.con (.int 1)) (.cons (.con (.int 1)) .nil))))) (.cmp .eq (.call i_follow (.cons (.var 2) (.cons (.ktup (.cons (.var 6) .nil)) (.cons (.tup (.cons (.con (.int 0)) (.cons (.con (.int 2)) .nil))) .nil)))) (.tup (.cons (.con (.int 1)) (.cons (.con (.int 3)) .nil))))))
    .nil))))))))))))))⟩, 3⟩
def defs : List Mdf := [d_is_number, d_is_pair, d_need_map, d_are_near, d_lots_of, d_heaps_of, d_need_of, d_is_coming, d_need_coming, d_least_paint, d_painted, d_paints, d_wasted_by, d_wasted, d_comings_of, d_links_of, d_is_links, d_is_view, d_is_row, d_need_wit, d_followed, d_follow, d_needs_of, d_fooled, d_fool, d_shows_fool, d_waste_of, d__law_taken, d__law_pick, d_law]
def con : List (Str × D) := [("MOST_HOUSES", (.int 7)), ("MOST_ROWS", (.int 300))]
theorem c_is_number : chkF (defs.map (·.x)) con xs d_is_number = true := by decide +kernel
theorem c_is_pair : chkF (defs.map (·.x)) con xs d_is_pair = true := by decide +kernel
theorem c_need_map : chkF (defs.map (·.x)) con xs d_need_map = true := by decide +kernel
theorem c_are_near : chkF (defs.map (·.x)) con xs d_are_near = true := by decide +kernel
theorem c_lots_of : chkF (defs.map (·.x)) con xs d_lots_of = true := by decide +kernel
theorem c_heaps_of : chkF (defs.map (·.x)) con xs d_heaps_of = true := by decide +kernel
theorem c_need_of : chkF (defs.map (·.x)) con xs d_need_of = true := by decide +kernel
theorem c_is_coming : chkF (defs.map (·.x)) con xs d_is_coming = true := by decide +kernel
theorem c_need_coming : chkF (defs.map (·.x)) con xs d_need_coming = true := by decide +kernel
theorem c_least_paint : chkF (defs.map (·.x)) con xs d_least_paint = true := by decide +kernel
theorem c_painted : chkF (defs.map (·.x)) con xs d_painted = true := by decide +kernel
theorem c_paints : chkF (defs.map (·.x)) con xs d_paints = true := by decide +kernel
theorem c_wasted_by : chkF (defs.map (·.x)) con xs d_wasted_by = true := by decide +kernel
theorem c_wasted : chkF (defs.map (·.x)) con xs d_wasted = true := by decide +kernel
theorem c_comings_of : chkF (defs.map (·.x)) con xs d_comings_of = true := by decide +kernel
theorem c_links_of : chkF (defs.map (·.x)) con xs d_links_of = true := by decide +kernel
theorem c_is_links : chkF (defs.map (·.x)) con xs d_is_links = true := by decide +kernel
theorem c_is_view : chkF (defs.map (·.x)) con xs d_is_view = true := by decide +kernel
theorem c_is_row : chkF (defs.map (·.x)) con xs d_is_row = true := by decide +kernel
theorem c_need_wit : chkF (defs.map (·.x)) con xs d_need_wit = true := by decide +kernel
theorem c_followed : chkF (defs.map (·.x)) con xs d_followed = true := by decide +kernel
theorem c_follow : chkF (defs.map (·.x)) con xs d_follow = true := by decide +kernel
theorem c_needs_of : chkF (defs.map (·.x)) con xs d_needs_of = true := by decide +kernel
theorem c_fooled : chkF (defs.map (·.x)) con xs d_fooled = true := by decide +kernel
theorem c_fool : chkF (defs.map (·.x)) con xs d_fool = true := by decide +kernel
theorem c_shows_fool : chkF (defs.map (·.x)) con xs d_shows_fool = true := by decide +kernel
theorem c_waste_of : chkF (defs.map (·.x)) con xs d_waste_of = true := by decide +kernel
theorem c__law_taken : chkF (defs.map (·.x)) con xs d__law_taken = true := by decide +kernel
theorem c__law_pick : chkF (defs.map (·.x)) con xs d__law_pick = true := by decide +kernel
theorem c_law : chkF (defs.map (·.x)) con xs d_law = true := by decide +kernel
end Mp.K08
set_option maxHeartbeats 2000000
namespace Mp.K08
open PySem
open En (e)
open Ord' (lt)
abbrev G : List Fd := defs.map (·.fd)
abbrev LF : Nat := 100000
abbrev Town := Nat × List (Nat × Nat)

/-- a map's datum, kept closed -/
def tw (t : Town) : D := e t
@[simp] theorem rd_tw (S : Store) (t : Town) : rd S (tw t) = tw t := rd_e t
@[simp] theorem old_tw (n : Nat) (t : Town) : old n (tw t) = true := old_e n t
@[simp] theorem ix0_tw (t : Town) : ixD (tw t) (.int 0) = some (.int (t.1 : Int)) := nrfl rfl
@[simp] theorem ix1_tw (t : Town) : ixD (tw t) (.int 1) = some (.tuple (t.2.map e)) := nrfl rfl
section
variable {j : Nat} {S : Store}
theorem r_is_number (v lo hi : Int) : callN G LF (j + 1) i_is_number [.int v, .int lo, .int hi] S = .ok (.bool (decide (lo ≤ v) && decide (v ≤ hi))) S := by
  refine (callN_at (fd := d_is_number.fd) rfl rfl).trans ?_
  simp [d_is_number, primD, isiD, tysD, tyD, Pr.mut, giveD, cmpD, leD]
theorem r_is_pair (h a b : Nat) : callN G LF (j + 2) i_is_pair [e h, e (a, b)] S = .ok (.bool (decide (a < h) && decide (b < h) && decide (a < b))) S := by
  refine (callN_at (fd := d_is_pair.fd) rfl rfl).trans ?_
  simp [d_is_pair, test_eq, Pr.mut, giveD, cmpD, ltD]
  rw [gen_eq (all := true) [a, b] e (fun x => [some (e h), some (e (a, b)), some (e x)]) (fun _ => true) (fun x => decide (x < h)) (S1 := S) (v := .items [e a, e b]) rfl rfl (fun x hx => rfl) (fun x hx => rfl)
    (fun x hx _ => ?_)]
  · simp [ixD, atD, cmpD, ltD]
  · simp [opD, r_is_number]
    omega
theorem r_are_near (t : Town) (a b : Nat) : callN G LF (j + 1) i_are_near [tw t, e a, e b] S = .ok (.bool (decide ((min a b, max a b) ∈ t.2))) S := by
  refine (callN_at (fd := d_are_near.fd) rfl rfl).trans ?_
  have := inD_tup (min a b, max a b) t.2
  simp at this
  simp [d_are_near, test_eq, Pr.mut, giveD, cmpD, ltD, min_cast, max_cast, this]
theorem r_are_near' (t : Town) (a b : Nat) : callN G LF (j + 1) i_are_near [tw t, .int (a : Int), .int (b : Int)] S = .ok (.bool (decide ((min a b, max a b) ∈ t.2))) S := r_are_near t a b
/-- a map -/
structure TOk (t : Town) : Prop where
  lo : 1 ≤ t.1
  hi : t.1 ≤ 7
  mem : ∀ p ∈ t.2, p.1 < p.2 ∧ p.2 < t.1
  asc : t.2.Pairwise fun p q => lt p q = true
def nr (t : Town) (a b : Nat) : Bool := decide ((min a b, max a b) ∈ t.2)
def nearL (t : Town) (h : Nat) : List Nat := (List.range t.1).filter fun o => decide (o ≠ h) && nr t h o
theorem r_need_map (t : Town) (h : TOk t) : callN G LF (j + 3) i_need_map [tw t] S = .ok .none S := by
  refine (callN_at (fd := d_need_map.fd) rfl rfl).trans ?_
  have h1 : (1 : Int) ≤ t.1 := by have := h.lo; omega
  have h2 : (t.1 : Int) ≤ 7 := by have := h.hi; omega
  simp [d_need_map, tw,  test_eq, Pr.mut, giveD, cmpD, asg, r_is_number, h1, h2]
  rw [genall_eq t.2 e (fun x => [some (e t), some (e t.1), some (e t.2), none, none, some (e x)]) (fun x => true) (S1 := S) (v := .items (t.2.map e)) rfl rfl (fun x hx => rfl) (fun x hx => ?_)]
  · simp [test_eq]
    rw [genall_eq (t.2.zip (t.2.drop 1)) e (fun x => [some (e t), some (e t.1), some (e t.2), some (e x.1), some (e x.2), none]) (fun x => lt x.1 x.2) (S1 := S) (v := .items ((t.2.zip (t.2.drop 1)).map e)) (it_pairs _ rfl) rfl (fun x hx => rfl) (fun x hx => ?_)]
    · rw [zip_drop h.asc]
      simp
    · simp [cmpD, ltD_nn]
  · have q := h.mem x hx
    have e1 := r_is_pair (j := j) (S := S) t.1 x.1 x.2
    have q1 : x.1 < t.1 := by omega
    simp [q, q1] at e1
    simp [e1]
/-- a lot -/
structure LOk (n : Nat) (l : List Nat) : Prop where
  mem : ∀ k ∈ l, k < n
  asc : l.Pairwise fun p q => lt p q = true
/-! ### lots -/
def lotsF (ks : List Nat) : List (List Nat) := ks.foldl (fun f k => f ++ f.map (· ++ [k])) [[]]
theorem lotsF_add (ks : List Nat) (k : Nat) : lotsF (ks ++ [k]) = lotsF ks ++ (lotsF ks).map (· ++ [k]) := by simp [lotsF, List.foldl_append]
theorem lotsF_ln (ks : List Nat) : (lotsF ks).length = 2 ^ ks.length := by
  induction ks using snocRec with
  | nil => rfl
  | app ks k ih => simp [lotsF_add, ih, Nat.pow_succ]; omega
theorem lotsF_mem (ks : List Nat) : ∀ l ∈ lotsF ks, l.Sublist ks := by
  induction ks using snocRec with
  | nil => intro l h; simp [lotsF] at h; subst h; exact List.Sublist.refl _
  | app ks k ih =>
    intro l h
    rw [lotsF_add, List.mem_append, List.mem_map] at h
    rcases h with h | ⟨m, h, rfl⟩
    · exact (ih l h).trans (List.sublist_append_left _ _)
    · exact (ih m h).append (List.Sublist.refl _)
def lotsL (n : Nat) : List (List Nat) := sortG lenB (lotsF (List.range n))
theorem pow_le7 {k : Nat} (h : k ≤ 7) : 2 ^ k ≤ 128 := Nat.le_trans (Nat.pow_le_pow_right (by decide) h) (by decide)
theorem r_lots_of (n : Nat) (hn : n ≤ 7) : callN G LF (j + 1) i_lots_of [e n] S = .ok (.list ((lotsL n).map e)) S := by
  refine (callN_at (fd := d_lots_of.fd) rfl rfl).trans ?_
  simp [d_lots_of, test_eq, asg]
  rw [it_rng (n := n) rfl (by omega), bind_ok]
  refine leave_of (Ends.for (List.range n) e (fun pre env S' => (∃ a b, env = [some (.int n), some (ref S.length), a, b]) ∧ S' = S ++ [.lst ((lotsF pre).map e)]) (fun _ _ _ _ => rfl) ⟨⟨none, none, rfl⟩, rfl⟩
    (fun pre x post env S' e1 ⟨⟨a, b, e2⟩, e3⟩ => ?_) (fun env S' ⟨⟨a, b, e2⟩, e3⟩ => ?_))
  · subst e2 e3
    have hp : pre.length ≤ 7 := by
      have := congrArg List.length e1
      simp at this
      omega
    have hl := lotsF_ln pre
    have hl2 := pow_le7 hp
    simp [turnP_eq, asg]
    rw [map_eq (lotsF pre) e (fun l => [some (.int n), some (ref S.length), some (e x), some (e l)]) (fun l => e (l ++ [x])) (v := .obj S.length) (S1 := S ++ [M.lst ((lotsF pre).map e)]) (by simp [itv_ref (get_new _)]) (get_new _) (fun _ _ => rfl) (fun l hm => ?_) (lim_of (by omega))]
    · have em : (lotsF pre).map (fun l => e (l ++ [x])) = ((lotsF pre).map (· ++ [x])).map e := by rw [List.map_map]; rfl
      rw [em, give_f, bind_ok, ext_add (get_new _) (lim_of (by simp; omega)) (old_es _ _), opt_some, bind_ok, bind_ok, bind_ok, thn_nx, ss_nil, ends_ok, set_new, ← List.map_append, ← lotsF_add]
      exact ⟨rfl, ⟨_, _, rfl⟩, rfl⟩
    · have := (lotsF_mem pre l hm).length_le
      simp
      rw [op_tt (by simp; omega)]
      simp
  · subst e2 e3
    have e1 : rd (S ++ [M.lst ((lotsF (List.range n)).map e)]) (ref S.length) = _ := rd_refP (get_new _)
    simp [e1, sortLenP, giveD, Pr.mut]
    rfl
/-! ### heaps -/
abbrev Heaps := List (List Nat)
def extL (t : Town) (h : Nat) (p : Heaps) (ix : List (Nat × List Nat)) : List Heaps := ix.flatMap fun z => if z.2.any (nr t h) then [] else [(p.take z.1 ++ [z.2 ++ [h]]) ++ p.drop (z.1 + 1)]
def stepP (t : Town) (h : Nat) (p : Heaps) : List Heaps := extL t h p (enumL 0 p) ++ [p ++ [[h]]]
def heapsL (t : Town) (lot : List Nat) : List Heaps := lot.foldl (fun f h => f.flatMap (stepP t h)) [[]]
theorem heapsL_add (t : Town) (l : List Nat) (k : Nat) : heapsL t (l ++ [k]) = (heapsL t l).flatMap (stepP t k) := by simp [heapsL, List.foldl_append]
theorem enumL_length {α : Type} : ∀ (k : Nat) (xs : List α), (enumL k xs).length = xs.length
  | _, [] => rfl
  | k, x :: xs => by simp [enumL, enumL_length (k + 1) xs]
theorem extL_length (t : Town) (h : Nat) (p : Heaps) : ∀ ix : List (Nat × List Nat), (extL t h p ix).length ≤ ix.length
  | [] => Nat.le_refl _
  | z :: ix => by
    have h1 := extL_length t h p ix
    have h2 : (extL t h p (z :: ix)).length = (if z.2.any (nr t h) then [] else [(p.take z.1 ++ [z.2 ++ [h]]) ++ p.drop (z.1 + 1)]).length + (extL t h p ix).length := by
      simp only [extL, List.flatMap_cons, List.length_append]
    have h3 : (if z.2.any (nr t h) then ([] : List Heaps) else [(p.take z.1 ++ [z.2 ++ [h]]) ++ p.drop (z.1 + 1)]).length ≤ 1 := by
      split <;> simp
    rw [List.length_cons]
    omega
theorem stepP_length (t : Town) (h : Nat) (p : Heaps) : (stepP t h p).length ≤ p.length + 1 := by
  have := extL_length t h p (enumL 0 p)
  rw [enumL_length] at this
  simp [stepP]
  omega
theorem enumL_fst {α : Type} : ∀ (xs : List α) (k : Nat), ∀ z ∈ enumL k xs, z.1 < k + xs.length ∧ z.2 ∈ xs
  | [], _, _, h => by simp [enumL] at h
  | x :: xs, k, z, h => by
    rcases List.mem_cons.mp h with rfl | h
    · simp
    · have := enumL_fst xs (k + 1) z h
      simp only [List.length_cons, List.mem_cons]
      exact ⟨by omega, .inr this.2⟩
theorem stepP_ln (t : Town) (h : Nat) (p q : Heaps) (hq : q ∈ stepP t h p) : q.length ≤ p.length + 1 ∧ ∀ x ∈ q, x.length ≤ 1 ∨ ∃ y ∈ p, x.length ≤ y.length + 1 := by
  rw [stepP, List.mem_append] at hq
  rcases hq with hq | hq
  · obtain ⟨z, hz, hq⟩ := List.mem_flatMap.mp hq
    have h1 := enumL_fst p 0 z hz
    split at hq
    · cases hq
    · rw [List.mem_singleton] at hq
      subst hq
      constructor
      · simp
        omega
      · intro x hx
        rw [List.mem_append, List.mem_append, List.mem_singleton] at hx
        rcases hx with (hx | hx) | hx
        · exact .inr ⟨x, List.mem_of_mem_take hx, by omega⟩
        · exact .inr ⟨z.2, h1.2, by simp [hx]⟩
        · exact .inr ⟨x, List.mem_of_mem_drop hx, by omega⟩
  · rw [List.mem_singleton] at hq
    subst hq
    refine ⟨by simp, fun x hx => ?_⟩
    rw [List.mem_append, List.mem_singleton] at hx
    rcases hx with hx | hx
    · exact .inr ⟨x, hx, by omega⟩
    · exact .inl (by simp [hx])
theorem heapsL_ln (t : Town) (l : List Nat) : ∀ p ∈ heapsL t l, p.length ≤ l.length ∧ ∀ x ∈ p, x.length ≤ l.length := by
  induction l using snocRec with
  | nil => intro p h; simp [heapsL] at h; subst h; simp
  | app l k ih =>
    intro p h
    rw [heapsL_add] at h
    obtain ⟨q, hq, h⟩ := List.mem_flatMap.mp h
    have a := ih q hq
    have b := stepP_ln t k q p h
    refine ⟨by simp; omega, fun x hx => ?_⟩
    have c := b.2 x hx
    rcases c with c | ⟨y, hy, c⟩
    · simp; omega
    · have := a.2 y hy
      simp; omega
theorem flatMap_ln {α β : Type} (f : α → List β) (k : Nat) : ∀ xs : List α, (∀ x ∈ xs, (f x).length ≤ k) → (xs.flatMap f).length ≤ k * xs.length
  | [], _ => by simp
  | x :: xs, h => by
    have h1 := h x List.mem_cons_self
    have h2 := flatMap_ln f k xs fun y hy => h y (List.mem_cons_of_mem _ hy)
    simp only [List.flatMap_cons, List.length_append, List.length_cons, Nat.mul_add]
    omega
theorem heapsL_count (t : Town) (l : List Nat) (hl : l.length ≤ 7) : (heapsL t l).length ≤ 8 ^ l.length := by
  induction l using snocRec with
  | nil => simp [heapsL]
  | app l k ih =>
    simp at hl
    have h1 := ih (by omega)
    have h2 := flatMap_ln (stepP t k) 8 (heapsL t l) fun p hp => by
      have := stepP_length t k p
      have := (heapsL_ln t l p hp).1
      omega
    rw [heapsL_add, List.length_append, List.length_singleton, Nat.pow_succ]
    omega
theorem pow8 {k : Nat} (h : k ≤ 6) : 8 ^ k ≤ 262144 := Nat.le_trans (Nat.pow_le_pow_right (by decide) h) (by decide)
theorem lt_lim {n : Nat} (h : n < 4000000) : n < lim := Nat.lt_of_lt_of_le h (by decide)
theorem ev_any_near (t : Town) (h : Nat) (q : List Nat) (a1 a2 a4 a5 a6 a8 : Option D) : evalE (callN G LF (j + 1)) (.gen false [8] (.nm 8) (.e (.var 7)) false (.con .none) (.call i_are_near (.cons (.var 0) (.cons (.var 3) (.cons (.var 8) .nil))))) [some (tw t), a1, a2, some (.int (h : Int)), a4, a5, a6, some (.tuple (q.map e)), a8] S = .ok (.bool (q.any (nr t h))) S := by
  rw [genany_eq q e (fun x => [some (tw t), a1, a2, some (e h), a4, a5, a6, some (e q), some (e x)]) (nr t h) (S1 := S) (v := .items (q.map e)) rfl rfl (fun x hx => rfl) (fun x hx => ?_)]
  simp [r_are_near', nr]
theorem r_heaps_of (t : Town) (lot : List Nat) (hl : lot.length ≤ 7) : callN G LF (j + 2) i_heaps_of [tw t, e lot] S = .ok (.list ((heapsL t lot).map e)) S := by
  refine (callN_at (fd := d_heaps_of.fd) rfl rfl).trans ?_
  simp [d_heaps_of, test_eq, asg]
  refine leave_of (Ends.for lot e (fun pre env S' => ∃ T k a3 a4 a5 a6 a7 a8, env = [some (tw t), some (e lot), some (ref (S.length + k)), a3, a4, a5, a6, a7, a8] ∧ S' = S ++ T ∧ T[k]? = some (.lst ((heapsL t pre).map e))) (fun _ _ _ _ => rfl) ⟨[.lst [e ([] : List Nat)]], 0, none, none, none, none, none, none, rfl, rfl, rfl⟩
    (fun pre h post env S' e1 ⟨T, k, a3, a4, a5, a6, a7, a8, e2, e3, hT⟩ => ?_) (fun env S' ⟨T, k, a3, a4, a5, a6, a7, a8, e2, e3, hT⟩ => ?_))
  · subst e2 e3
    have hp : pre.length ≤ 6 := by
      have := congrArg List.length e1
      simp at this
      omega
    have hc := heapsL_count t pre (by omega)
    have h8 := pow8 hp
    refine hide fun Q0 hQ0 => ?_
    simp [turnP_eq, asg, itv_ref (get_at2 hT)]
    subst hQ0
    refine Ends.for (heapsL t pre) e (fun pre2 env S'' => ∃ b5 b6 b7 b8, env = [some (tw t), some (e lot), some (ref (S.length + k)), some (e h), some (ref (S.length + T.length)), b5, b6, b7, b8] ∧ S'' = S ++ (T ++ [.lst ((pre2.flatMap (stepP t h)).map e)])) (fun pre2 env S'' ⟨b5, b6, b7, b8, _, e5⟩ => ?_) ?_
      (fun pre2 p post2 env S'' e4 ⟨b5, b6, b7, b8, e5, e6⟩ => ?_) (fun env S'' ⟨b5, b6, b7, b8, e5, e6⟩ => ?_)
    · subst e5
      exact get_at2 hT
    · exact ⟨_, _, _, _, rfl, by simp⟩
    · subst e5 e6
      have hpm : p ∈ heapsL t pre := by rw [e4]; simp
      have hpl := heapsL_ln t pre p hpm
      have hq : pre2.length < (heapsL t pre).length := by rw [e4]; simp
      have hacc := flatMap_ln (stepP t h) 8 pre2 fun q hq => by
        have h1 := stepP_length t h q
        have h2 := (heapsL_ln t pre q (by rw [e4]; exact List.mem_append_left _ hq)).1
        omega
      refine hide fun Q0 hQ0 => ?_
      simp [turnP_eq, asg, itemsOf, pairs_map]
      subst hQ0
      refine Ends.for (enumL 0 p) e (fun pre3 env Sa => ∃ c6 c7 c8, env = [some (tw t), some (e lot), some (ref (S.length + k)), some (e h), some (ref (S.length + T.length)), some (e p), c6, c7, c8] ∧ Sa = S ++ (T ++ [.lst ((pre2.flatMap (stepP t h) ++ extL t h p pre3).map e)])) (fun _ _ _ _ => rfl) ⟨_, _, _, rfl, by simp [extL]⟩
        (fun pre3 z post3 env Sa e7 ⟨c6, c7, c8, e8, e9⟩ => ?_) (fun env Sa ⟨c6, c7, c8, e8, e9⟩ => ?_)
      · subst e8 e9
        obtain ⟨z1, z2⟩ := z
        have hz := enumL_fst p 0 (z1, z2) (by rw [e7]; simp)
        have hx := extL_length t h p pre3
        have hp3 : pre3.length < p.length := by
          have := congrArg List.length e7
          rw [enumL_length] at this
          simp at this
          omega
        have hel : extL t h p (pre3 ++ [(z1, z2)]) = extL t h p pre3 ++ (if z2.any (nr t h) then [] else [(p.take z1 ++ [z2 ++ [h]]) ++ p.drop (z1 + 1)]) := by simp [extL]
        refine hide fun Q hQ => ?_
        simp [turnP_eq, asg, test_eq, ev_any_near, -st_expr, -List.map_append]
        by_cases hb : z2.any (nr t h) = true
        · rw [hb, Bool.not_true, fork_f]
          simp [-List.map_append]
          subst hQ
          exact ⟨rfl, _, _, _, rfl, by rw [hel, if_pos hb, List.append_nil]⟩
        · have hb : z2.any (nr t h) = false := by simpa using hb
          have c1 : cutL (p.map e) none (some (z1 : Int)) = (p.take z1).map e := (cut_to _ _).trans List.map_take.symm
          have c2 : cutL (p.map e) (some ((z1 : Int) + 1)) none = (p.drop (z1 + 1)).map e := (cut_from _ _).trans List.map_drop.symm
          have l1 := (hpl.2 z2 hz.2)
          have l2 := hpl.1
          rw [hb, Bool.not_false, fork_t, st_app (d := e ((p.take z1 ++ [z2 ++ [h]]) ++ p.drop (z1 + 1))) rfl get_at3 ?_ (by rw [List.length_map, List.length_append]; omega) (old_e _ _), bind_ok, thn_nx, ss_nil, bind_ok, thn_nx, ss_nil, ends_ok, set_at3]
          · subst hQ
            exact ⟨rfl, _, _, _, rfl, by rw [hel, hb]; simp⟩
          · simp [cutD, asInt, c1, c2]
            rw [op_tt (by simp; omega)]
            simp
            rw [op_tt (by simp; omega), opt_some, bind_ok, rd_tuple', op_tt (by simp; omega)]
            simp
      · subst e8 e9
        refine hide fun Q hQ => ?_
        have hx := stepP_length t h p
        rw [stepP, List.length_append, List.length_singleton] at hx
        have l2 := hpl.1
        rw [thn_nx, ss_cons', st_app (d := e (p ++ [[h]])) rfl get_at3 ?_ (by rw [List.length_map, List.length_append]; omega) (old_e _ _), bind_ok, thn_nx, ss_nil, ends_ok, set_at3]
        · subst hQ
          exact ⟨rfl, _, _, _, _, rfl, by simp [stepP]⟩
        · simp
          rw [op_tt (by simp; omega)]
          simp
    · subst e5 e6
      refine hide fun Q hQ => ?_
      simp [asg]
      subst hQ
      exact ⟨rfl, _, T.length, _, _, _, _, _, _, rfl, rfl, by simp [heapsL_add]⟩
  · subst e2 e3
    rw [thn_nx, ss_cons', st_ret, frz_ref (l := S.length + k) rfl (by rw [get_at]; exact hT)]
    simp [take_new_set]
/-! ### needs -/
def needL (t : Town) (lot : List Nat) : Nat := match (heapsL t lot).map List.length with
  | [] => 0
  | x :: r => r.foldl min x
theorem stepP_ne (t : Town) (h : Nat) (p : Heaps) : p ++ [[h]] ∈ stepP t h p := by simp [stepP]
theorem heapsL_ne (t : Town) (l : List Nat) : heapsL t l ≠ [] := by
  induction l using snocRec with
  | nil => simp [heapsL]
  | app l k ih =>
    rw [heapsL_add]
    obtain ⟨p, hp⟩ := List.exists_mem_of_ne_nil _ ih
    intro h
    have := List.mem_flatMap.mpr ⟨p, hp, stepP_ne t k p⟩
    rw [h] at this
    cases this
theorem heapsL_small (t : Town) (l : List Nat) (hl : l.length ≤ 7) : (heapsL t l).length ≤ 2097152 := Nat.le_trans (heapsL_count t l hl) (Nat.le_trans (Nat.pow_le_pow_right (by decide) hl) (by decide))
theorem r_need_of (t : Town) (lot : List Nat) (hl : lot.length ≤ 7) : callN G LF (j + 3) i_need_of [tw t, e lot] S = .ok (e (needL t lot)) S := by
  refine (callN_at (fd := d_need_of.fd) rfl rfl).trans ?_
  have h1 := r_heaps_of (j := j) (S := S) t lot hl
  rw [e_list] at h1
  simp [d_need_of, test_eq, asg]
  rw [map_eq (heapsL t lot) e (fun p => [some (tw t), some (e lot), some (e p)]) (fun p => e p.length) (v := .items ((heapsL t lot).map e)) (S1 := S) (by simp [h1]) rfl (fun _ _ => rfl) (fun p hp => by simp [Pr.mut, giveD]) (Nat.le_trans (heapsL_small t lot hl) (by decide))]
  have e1 : (heapsL t lot).map (fun p => e p.length) = ((heapsL t lot).map List.length).map e := by rw [List.map_map]; rfl
  rw [e1]
  have h2 := heapsL_ne t lot
  cases h3 : (heapsL t lot).map List.length with
  | nil => simp at h3; exact absurd h3 h2
  | cons x r =>
    have h4 := min1_nat x r
    have h5 : needL t lot = r.foldl min x := by rw [needL, h3]
    simp at h4
    simp [h4, giveD, Pr.mut, h5]
/-! ### paintings counted -/
def falls (k m : Nat) : Nat := (List.range m).foldl (fun w a => w * (k - a)) 1
def countL (t : Town) (k : Nat) : Nat := (heapsL t (List.range t.1)).foldl (fun s p => s + falls k p.length) 0
theorem tupRng (n : Nat) (h : n ≤ 7) : primD .tupRng1 [.int (n : Int)] = some (e (List.range n)) := by
  show (if (inRng (n : Int) && decide ((n : Int) ≤ 100000)) = true then some (PyData.tuple (rngL 0 (n : Int))) else none) = _
  rw [rng_ok n (by omega), if_pos (by simp; omega), rngL_zero]
  rfl
theorem max0 (k a : Nat) : (if a < k then (k : Int) - (a : Int) else 0) = ((k - a : Nat) : Int) := by
  split <;> omega
theorem aug_mul (w x : Nat) (h : x < 1000000) : augD .mul (.int (w : Int)) (.int (x : Int)) = some (.int ((w * x : Nat) : Int)) := by
  have h1 : small (x : Int) = true := by
    unfold small
    rw [decide_eq_true (show (-(2 ^ 64) : Int) < x by omega), decide_eq_true (show (x : Int) < 2 ^ 64 by omega)]
    rfl
  show (if (small (w : Int) || small (x : Int)) = true then some (PyData.int ((w : Int) * (x : Int))) else none) = _
  rw [h1, Bool.or_true, if_pos rfl]
  simp
theorem aug_add (w x : Nat) : augD .add (.int (w : Int)) (.int (x : Int)) = some (.int ((w + x : Nat) : Int)) := by
  show some (PyData.int ((w : Int) + (x : Int))) = _
  simp
/-! ### greatest lots of neighbors -/
def mutB (t : Town) (l : List Nat) : Bool := l.all fun a => l.all fun b => !decide (a < b) || nr t a b
def goodsOf (good : List (List Nat)) : List (List Nat) := good.filter fun l => decide (l.length = (good.getLast?.getD []).length)
def mutualL (t : Town) : List (List Nat) := goodsOf ((lotsL t.1).filter (mutB t))
theorem lotsL_count (n : Nat) (h : n ≤ 7) : (lotsL n).length ≤ 128 := by
  rw [lotsL, (sortG_perm _ _).length_eq, lotsF_ln]
  exact pow_le7 (by rw [List.length_range]; exact h)
theorem lotsL_mem (n : Nat) : ∀ l ∈ lotsL n, l.Sublist (List.range n) := fun l h => lotsF_mem _ l ((sortG_perm _ _).mem_iff.mp h)
/-! ### bare rows -/
def rowB (t : Town) (a b c d : Nat) : Bool := decide ((dedupI [(a : Int), b, c, d]).length = 4) && (decide (a < d) && !(nr t a c || (nr t b d || nr t a d)))
def rows4 (t : Town) (a b c : Nat) : List (List Nat) := (nearL t c).flatMap fun d => if rowB t a b c d then [[a, b, c, d]] else []
def rows3 (t : Town) (a b : Nat) : List (List Nat) := (nearL t b).flatMap (rows4 t a b)
def rows2 (t : Town) (a : Nat) : List (List Nat) := (nearL t a).flatMap (rows3 t a)
def rowsL (t : Town) : List (List Nat) := (List.range t.1).flatMap (rows2 t)
theorem nearL_ln (t : Town) (h : t.1 ≤ 7) (k : Nat) : (nearL t k).length ≤ 7 := by
  refine Nat.le_trans (List.length_filter_le _ _) ?_
  rw [List.length_range]
  exact h
theorem rows4_ln (t : Town) (h : t.1 ≤ 7) (a b c : Nat) : (rows4 t a b c).length ≤ 7 := by
  have := flatMap_le (fun d => if rowB t a b c d then [[a, b, c, d]] else []) 1 (nearL t c) (fun d _ => by split <;> simp)
  have := nearL_ln t h c
  rw [rows4]
  omega
theorem rows3_ln (t : Town) (h : t.1 ≤ 7) (a b : Nat) : (rows3 t a b).length ≤ 49 := by
  have := flatMap_le (rows4 t a b) 7 (nearL t b) (fun c _ => rows4_ln t h a b c)
  have := nearL_ln t h b
  rw [rows3]
  omega
theorem rows2_ln (t : Town) (h : t.1 ≤ 7) (a : Nat) : (rows2 t a).length ≤ 343 := by
  have := flatMap_le (rows3 t a) 49 (nearL t a) (fun c _ => rows3_ln t h a c)
  have := nearL_ln t h a
  rw [rows2]
  omega
theorem rowsL_ln (t : Town) (h : t.1 ≤ 7) : (rowsL t).length ≤ 2401 := by
  have := flatMap_le (rows2 t) 343 (List.range t.1) (fun c _ => rows2_ln t h c)
  rw [List.length_range] at this
  rw [rowsL]
  omega
/-! ### lots left out -/
def hitB (rows : List (List Nat)) (l : List Nat) : Bool := rows.all fun r => r.any fun h => decide (h ∈ l)
def leftGo (good : List Nat → Bool) : List (List Nat) → List (List Nat) → List (List Nat)
  | found, [] => found
  | found, l :: ls => if !found.isEmpty && decide (l.length > (found.head?.getD []).length) then found else leftGo good (if good l then found ++ [l] else found) ls
def leftL (t : Town) : List (List Nat) := leftGo (hitB (rowsL t)) [] (lotsL t.1)
theorem ev_hit (rows : List (List Nat)) (l : List Nat) (a0 a2 a4 a5 : Option D) : evalE (callN G LF j) (.gen true [4] (.nm 4) (.e (.var 1)) false (.con .none) (.gen false [5] (.nm 5) (.e (.var 4)) false (.con .none) (.cmp .inn (.var 5) (.var 3)))) [a0, some (.list (rows.map e)), a2, some (.tuple (l.map e)), a4, a5] S = .ok (.bool (hitB rows l)) S := by
  rw [genall_eq rows e (fun r => [a0, some (.list (rows.map e)), a2, some (.tuple (l.map e)), some (e r), a5]) (fun r => r.any fun h => decide (h ∈ l)) (S1 := S) (v := .items (rows.map e)) rfl rfl (fun x hx => rfl) (fun r hr => ?_)]
  · rfl
  · rw [genany_eq r e (fun h => [a0, some (.list (rows.map e)), a2, some (.tuple (l.map e)), some (e r), some (e h)]) (fun h => decide (h ∈ l)) (S1 := S) (v := .items (r.map e)) rfl rfl (fun x hx => rfl) (fun h hh => ?_)]
    have := inD_tup h l
    simp at this
    simp [cmpD, this]
end

/-! ### draws -/
def RowOk (ns : List Int) (m : M) : Prop := ∃ (i : Nat) (s c : Int), m = .lst [scr ns, .int i, .int s, .int c]
section
variable {j : Nat} {S : Store} {ns : List Int} {l : Nat} {m : M}
theorem mod_nat (c : Int) (k : Nat) (h : 0 < k) : ∃ r : Nat, r < k ∧ c % (k : Int) = (r : Int) := by
  have h1 := Int.emod_nonneg c (show (k : Int) ≠ 0 by omega)
  have h2 := Int.emod_lt_of_pos c (show (0 : Int) < k by omega)
  exact ⟨(c % (k : Int)).toNat, by omega, by omega⟩
theorem mul48 (i : Int) : opD .mul (.int i) (.int 48271) = some (.int (i * 48271)) := op_mul i 48271 (by rw [show small 48271 = true from by decide, Bool.or_true])
theorem r_taken (many : Nat) (hm : 0 < many) (hm2 : many < 1000000) (hS : S[l]? = some m) (hr : RowOk ns m) : ∃ k m', k < many ∧ RowOk ns m' ∧ callN G LF (j + 1) i__law_taken [ref l, .int (many : Int)] S = .ok (.int (k : Int)) (S.set l m') := by
  obtain ⟨i, s, c, rfl⟩ := hr
  have hl : l < S.length := (List.getElem?_eq_some_iff.mp hS).1
  have hmi : (0 : Int) < many := by omega
  have hmi2 : (many : Int) < 1073741824 := by omega
  have e0 : rd S (ref l) = _ := rd_refP hS
  have tk : ∀ m' : M, (S.set l m').take S.length = S.set l m' := fun m' => List.take_of_length_le (by simp)
  have hx : callN G LF (j + 1) i__law_taken [ref l, .int (many : Int)] S = _ := callN_at (fd := d__law_taken.fd) rfl rfl
  simp [d__law_taken, test_eq, e0, cmpD, gtD] at hx
  by_cases h1 : 0 < c
  · obtain ⟨k, hk, ek⟩ := mod_nat c many hm
    rw [decide_eq_true h1] at hx
    simp [e0, giveD, Pr.mut, op_mod _ _ hmi, op_fdiv _ _ hmi hmi2, asg, setD_3 hS, tk, ek] at hx
    exact ⟨k, _, hk, ⟨i, s, c / many, rfl⟩, hx⟩
  · rw [decide_eq_false h1] at hx
    simp [e0, giveD, Pr.mut, asg, setD_1 hS, rd_set hS, test_eq, cmpD, gtD] at hx
    by_cases h2 : (ns.length : Int) < i + 1
    · obtain ⟨k, hk, ek⟩ := mod_nat (((s * 48271 + 11) % 2147483647) / 7) many hm
      rw [decide_eq_true h2] at hx
      simp [rd_set hS, giveD, Pr.mut, mul48, op_mod _ _ hmi, op_mod _ 2147483647 (by decide), op_fdiv _ 7 (by decide) (by decide), asg, setD_2 (get_set hS), tk, ek, test_eq, cmpD, gtD] at hx
      refine ⟨k, _, hk, ?_, hx⟩
      exact ⟨i + 1, _, _, rfl⟩
    · have h3 : i < ns.length := by omega
      have h4 : ns[i]? = some ns[i] := List.getElem?_eq_getElem h3
      have e3 := ix_scr ns i h4
      obtain ⟨k, hk, ek⟩ := mod_nat ns[i] many hm
      rw [decide_eq_false h2] at hx
      have e5 : opD .pow (.int 10) (.int 18) = some (.int 1000000000000000000) := by simp [opD]
      simp [rd_set hS, giveD, Pr.mut, e3, mul48, op_mod _ _ hmi, op_mod _ 2147483647 (by decide), asg, setD_2 (get_set hS), e5, leD, test_eq, cmpD, gtD] at hx
      by_cases h5 : (1000000000000000000 : Int) ≤ ns[i]
      · rw [decide_eq_true h5] at hx
        simp [rd_set hS, giveD, Pr.mut, op_mod _ _ hmi, op_fdiv _ _ hmi hmi2, setD_3 (get_set hS), tk, ek] at hx
        refine ⟨k, _, hk, ?_, hx⟩
        exact ⟨i + 1, _, _, rfl⟩
      · rw [decide_eq_false h5] at hx
        simp [giveD, Pr.mut, op_mod _ _ hmi, tk, ek] at hx
        refine ⟨k, _, hk, ?_, hx⟩
        exact ⟨i + 1, _, _, rfl⟩
/-! ### maps drawn -/
structure PsOk (n a b : Nat) (ps : List (Nat × Nat)) : Prop where
  mem : ∀ p ∈ ps, p.1 < p.2 ∧ p.2 < n ∧ (p.1 < a ∨ p.1 = a ∧ p.2 < b)
  asc : ps.Pairwise fun p q => lt p q = true
  len : ps.length ≤ 7 * a + b
theorem PsOk.up {n a b b' : Nat} {ps : List (Nat × Nat)} (h : PsOk n a b ps) (hb : b ≤ b') : PsOk n a b' ps := ⟨fun p hp => by have := h.mem p hp; omega, h.asc, by have := h.len; omega⟩
theorem PsOk.next {n a b b' : Nat} {ps : List (Nat × Nat)} (h : PsOk n a b ps) (hb : b ≤ 7) : PsOk n (a + 1) 0 ps := ⟨fun p hp => by have := h.mem p hp; omega, h.asc, by have := h.len; omega⟩
theorem PsOk.add {n a b : Nat} {ps : List (Nat × Nat)} (h : PsOk n a b ps) (hab : a < b) (hb : b < n) : PsOk n a (b + 1) (ps ++ [(a, b)]) where
  mem p hp := by
    rcases List.mem_append.mp hp with hp | hp
    · have := h.mem p hp
      omega
    · rw [List.mem_singleton] at hp
      subst hp
      exact ⟨hab, hb, .inr ⟨rfl, Nat.lt_succ_self _⟩⟩
  asc := List.pairwise_append.mpr ⟨h.asc, List.pairwise_singleton _ _, fun p hp q hq => by
    rw [List.mem_singleton] at hq
    subst hq
    have := (h.mem p hp).2.2
    show (decide (p.1 < a) || (decide (p.1 = a) && decide (p.2 < b))) = true
    simp
    omega⟩
  len := by have := h.len; simp; omega
theorem PsOk.ok {n : Nat} {ps : List (Nat × Nat)} (h : PsOk n n 0 ps) (h1 : 1 ≤ n) (h2 : n ≤ 7) : TOk (n, ps) := ⟨h1, h2, fun p hp => by have := h.mem p hp; exact ⟨this.1, this.2.1⟩, h.asc⟩
def pairsL (n : Nat) : List (Nat × Nat) := (List.range n).flatMap fun a => ((List.range (n - (a + 1))).map (a + 1 + ·)).map fun b => (a, b)
def compL (t : Town) : List (Nat × Nat) := (List.range t.1).flatMap fun a => (((List.range (t.1 - (a + 1))).map (a + 1 + ·)).filter fun b => !decide ((a, b) ∈ t.2)).map fun b => (a, b)
theorem range_lt (n : Nat) : (List.range n).Pairwise fun a b => a < b := List.pairwise_lt_range
theorem compL_ok (t : Town) (h : TOk t) : TOk (t.1, compL t) where
  lo := h.lo
  hi := h.hi
  mem p hp := by
    obtain ⟨a, ha, hp⟩ := List.mem_flatMap.mp hp
    obtain ⟨b, hb, rfl⟩ := List.mem_map.mp hp
    have hb := (List.mem_filter.mp hb).1
    obtain ⟨c, hc, rfl⟩ := List.mem_map.mp hb
    have := List.mem_range.mp hc
    show a < a + 1 + c ∧ a + 1 + c < t.1
    omega
  asc := by
    show List.Pairwise _ (List.flatMap _ _)
    rw [List.pairwise_flatMap]
    constructor
    · intro a _
      rw [List.pairwise_map]
      refine List.Pairwise.filter _ ?_
      rw [List.pairwise_map]
      refine (range_lt _).imp fun {x y} hxy => ?_
      show (decide (a < a) || (decide (a = a) && decide (a + 1 + x < a + 1 + y))) = true
      simp
      exact hxy
    · refine (range_lt _).imp fun {a b} hab p hp q hq => ?_
      obtain ⟨_, _, rfl⟩ := List.mem_map.mp hp
      obtain ⟨_, _, rfl⟩ := List.mem_map.mp hq
      show (decide (a < b) || _) = true
      simp [hab]
theorem comp_ln (t : Town) (h : t.1 ≤ 7) (a : Nat) : ((((List.range (t.1 - (a + 1))).map (a + 1 + ·)).filter fun b => !decide ((a, b) ∈ t.2)).map fun b => (a, b)).length ≤ 7 := by
  rw [List.length_map]
  refine Nat.le_trans (List.length_filter_le _ _) ?_
  simp
  omega
theorem r_pick {α : Type} [En α] (xs : List α) (h0 : xs ≠ []) (h1 : xs.length < 1000000) (hS : S[l]? = some m) (hr : RowOk ns m) : ∃ x m', x ∈ xs ∧ RowOk ns m' ∧ callN G LF (j + 2) i__law_pick [ref l, .list (xs.map e)] S = .ok (e x) (S.set l m') := by
  obtain ⟨k, m', hk, hr', ek⟩ := r_taken (j := j) xs.length (List.length_pos_iff.mpr h0) h1 hS hr
  have tk : (S.set l m').take S.length = S.set l m' := List.take_of_length_le (by simp)
  refine ⟨xs[k], m', List.getElem_mem hk, hr', (callN_at (fd := d__law_pick.fd) rfl rfl).trans ?_⟩
  have e1 := ix_at xs k (List.getElem?_eq_getElem hk)
  simp [d__law_pick, giveD, Pr.mut, ek, e1, tk]
/-! ### alike -/
end

end Mp.K08
set_option maxHeartbeats 200000
/-! Pk: runs over closed data, by the kernel. -/
namespace Mp
open PySem
open En (e)
def upto : Nat → Ss → Ss
  | n + 1, .cons s ss => .cons s (upto n ss)
  | _, _ => .nil
def behind : Nat → Ss → Ss
  | n + 1, .cons _ ss => behind n ss
  | _, ss => ss
section
variable {cal : CallF} {lf : Nat} {env : EnvD} {S : Store}
theorem bind_thn_nil (r : R (Fl × EnvD)) : r.bind (thn cal lf .nil) = r := by
  cases r with
  | ok p S =>
    obtain ⟨fl, env⟩ := p
    cases fl <;> rfl
  | exc x S => rfl
  | bad => rfl
theorem ss_split : ∀ (n : Nat) (ss : Ss) (env : EnvD) (S : Store), evalSs cal lf ss env S = (evalSs cal lf (upto n ss) env S).bind (thn cal lf (behind n ss))
  | 0, ss, env, S => by
    cases ss <;> simp [upto, behind]
  | n + 1, .nil, env, S => by simp [upto, behind]
  | n + 1, .cons s ss, env, S => by
    show evalSs cal lf (.cons s ss) env S = (evalSs cal lf (.cons s (upto n ss)) env S).bind (thn cal lf (behind n ss))
    rw [ss_cons', ss_cons']
    cases evalS cal lf s env S with
    | ok p S1 =>
      obtain ⟨fl, env1⟩ := p
      cases fl with
      | nx => simp only [bind_ok, thn_nx]; exact ss_split n ss env1 S1
      | brk => simp
      | cont => simp
      | ret d => simp
    | exc x S1 => rfl
    | bad => rfl
theorem ss_then {n : Nat} {ss : Ss} {env env1 : EnvD} {S S1 : Store} (h : evalSs cal lf (upto n ss) env S = .ok (.nx, env1) S1) : evalSs cal lf ss env S = evalSs cal lf (behind n ss) env1 S1 := by
  rw [ss_split n, h, bind_ok, thn_nx]
end
end Mp
set_option maxHeartbeats 0
namespace Mp.K08
open PySem
open En (e)
def townD : D := (.tuple [(.int 3), (.tuple [(.tuple [(.int 0), (.int 1)])])])
def firstD : D := (.tuple [(.tuple [(.tuple [(.tuple [])]), (.tuple [])]), (.int 2)])
def laterD : D := (.tuple [(.tuple [(.tuple [(.tuple []), (.tuple [])]), (.tuple [(.int 1)])]), (.int 3)])
def nearD : D := (.tuple [(.tuple [(.tuple [(.tuple []), (.tuple [(.int 0)])]), (.tuple [(.int 2)])]), (.int 1)])
def v0 : D := .none
def i0 : D := .none
def v1 : D := (.list [])
def i1 : D := .none
def v2 : D := (.tuple (List.replicate 301 (.tuple [(.tuple [(.tuple [(.tuple [])]), (.tuple [])]), (.int 2)])))
def i2 : D := .none
def v3 : D := (.dict [])
def i3 : D := .none
def v4 : D := (.tuple [.none])
def i4 : D := (.int 0)
def v5 : D := (.tuple [(.tuple [(.tuple [(.tuple [(.tuple [])]), (.tuple [])]), (.int 2)]), (.tuple [(.tuple [(.tuple [(.tuple [])]), (.tuple [])]), (.int 2)])])
def i5 : D := (.int 1)
def v6 : D := (.tuple [(.tuple [(.tuple [(.tuple [(.tuple []), (.tuple [])]), (.tuple [(.int 1)])]), (.int 3)]), (.tuple [(.tuple [(.tuple [(.tuple [])]), (.tuple [])]), (.int 2)])])
def i6 : D := (.int 1)
def v7 : D := (.tuple [(.tuple [(.tuple [(.tuple [(.tuple [])]), (.tuple [])]), (.int 2)]), (.tuple [(.tuple [(.tuple [(.tuple []), (.tuple [])]), (.tuple [(.int 1)])]), (.int 3)]), (.tuple [(.tuple [(.tuple [(.tuple []), (.tuple [(.int 0)])]), (.tuple [(.int 2)])]), (.int 1)]), (.tuple [(.tuple [(.tuple [(.tuple []), (.tuple [(.int 0)])]), (.tuple [(.int 2)])]), (.int 1)])])
def i7 : D := (.int 3)
def v8 : D := (.tuple [(.tuple [(.tuple [(.tuple [])]), (.tuple [])])])
def i8 : D := (.int 0)
def v9 : D := (.tuple [(.tuple [(.tuple [(.tuple [(.tuple [])]), (.tuple [])]), (.int 0)])])
def i9 : D := (.int 0)
def v10 : D := (.tuple [(.tuple [(.tuple [(.tuple [(.tuple [])]), (.tuple [])]), (.int 8)])])
def i10 : D := (.int 0)
def v11 : D := (.tuple [(.tuple [(.tuple [(.tuple [(.tuple [])]), (.tuple [])]), (.bool true)])])
def i11 : D := (.int 0)
def v12 : D := (.tuple [(.tuple [(.tuple [(.tuple [(.tuple []), (.tuple [(.int 0)])]), (.tuple [(.int 2)])]), (.int 2)])])
def i12 : D := (.int 0)
def v13 : D := (.tuple [(.tuple [(.tuple [(.tuple [(.tuple []), (.tuple [(.int 1)])]), (.tuple [(.int 2)])]), (.int 1)])])
def i13 : D := (.int 0)
def v14 : D := (.tuple [(.tuple [(.tuple [(.tuple [(.tuple []), (.tuple [(.int 0)])]), (.tuple [])]), (.int 1)])])
def i14 : D := (.int 0)
def v15 : D := (.tuple [(.tuple [(.tuple [(.tuple [(.tuple []), (.tuple [(.int 0)]), (.tuple [(.int 0)])]), (.tuple [(.int 1), (.int 1)])]), (.int 2)])])
def i15 : D := (.int 0)
def v16 : D := (.tuple [(.tuple [(.tuple [(.tuple [(.tuple []), (.tuple []), (.tuple []), (.tuple []), (.tuple []), (.tuple []), (.tuple []), (.tuple [])]), (.tuple [(.int 1), (.int 1), (.int 1), (.int 1), (.int 1), (.int 1), (.int 1)])]), (.int 1)])])
def i16 : D := (.int 0)
def v17 : D := (.tuple [(.tuple [(.tuple [(.tuple [(.tuple []), (.tuple [(.int 0), (.int 0)])]), (.tuple [(.int 2)])]), (.int 1)])])
def i17 : D := (.int 0)
def v18 : D := (.tuple [(.tuple [(.tuple [(.tuple []), (.tuple [])]), (.int 1)])])
def i18 : D := (.int 0)
def v19 : D := (.tuple [(.tuple [(.tuple [(.tuple [(.list [])]), (.tuple [])]), (.int 1)])])
def i19 : D := (.int 0)
def v20 : D := (.tuple [(.tuple [(.tuple [(.tuple [(.tuple [])]), (.tuple [(.int 1)])]), (.int 1)])])
def i20 : D := (.int 0)
def badL : List D := [.tuple [v0, i0], .tuple [v1, i1], .tuple [v2, i2], .tuple [v3, i3], .tuple [v4, i4], .tuple [v5, i5], .tuple [v6, i6], .tuple [v7, i7], .tuple [v8, i8], .tuple [v9, i9], .tuple [v10, i10], .tuple [v11, i11], .tuple [v12, i12], .tuple [v13, i13], .tuple [v14, i14], .tuple [v15, i15], .tuple [v16, i16], .tuple [v17, i17], .tuple [v18, i18], .tuple [v19, i19], .tuple [v20, i20]]
def NB : Nat := 21
def st (ns : List Int) (a b c : Int) : Store := [.lst [oScr ns, .int a, .int b, .int c]]
def en (ns : List Int) (a3 a4 a9 a10 a11 : Option D) : EnvD := [some (oScr ns), some (oRef 0), some townD, a3, a4, some firstD, some laterD, some nearD, some (.list badL), a9, a10, a11]
abbrev cal : CallF := callN G LF 9
def body : Ss := d_law.fd.body
/-- the loop's own suite; behind the draw -/
def suite : Ss := match behind 10 body with
  | .cons (.for _ _ b) _ => b
  | _ => .nil
def rest : Ss := behind 1 suite
def tail : Ss := behind 11 body
theorem pre (ns : List Int) : evalSs cal LF (upto 10 body) (some (oScr ns) :: List.replicate 11 none) [] = .ok (.nx, en ns (some (.tuple [.int 0, .int 1, .int 2, .int 0])) (some (oFn "wasted")) none none none) (st ns 0 1670 0) := by kernel_rfl
theorem t0 (ns : List Int) (a b c : Int) (a4 : Option D) (tn : D) : evalSs cal LF rest (en ns (some v0) a4 (some tn) (some i0) none) (st ns a b c) = .ok (.nx, en ns (some v0) (some (oFn "shows_fool")) (some tn) (some i0) none) (st ns a b c) := by kernel_rfl
theorem t1 (ns : List Int) (a b c : Int) (a4 : Option D) (tn : D) : evalSs cal LF rest (en ns (some v1) a4 (some tn) (some i1) none) (st ns a b c) = .ok (.nx, en ns (some v1) (some (oFn "shows_fool")) (some tn) (some i1) none) (st ns a b c) := by kernel_rfl
theorem t2 (ns : List Int) (a b c : Int) (a4 : Option D) (tn : D) : evalSs cal LF rest (en ns (some v2) a4 (some tn) (some i2) none) (st ns a b c) = .ok (.nx, en ns (some v2) (some (oFn "shows_fool")) (some tn) (some i2) none) (st ns a b c) := by kernel_rfl
theorem t3 (ns : List Int) (a b c : Int) (a4 : Option D) (tn : D) : evalSs cal LF rest (en ns (some v3) a4 (some tn) (some i3) none) (st ns a b c) = .ok (.nx, en ns (some v3) (some (oFn "shows_fool")) (some tn) (some i3) none) (st ns a b c) := by kernel_rfl
theorem t4 (ns : List Int) (a b c : Int) (a4 : Option D) (tn : D) : evalSs cal LF rest (en ns (some v4) a4 (some tn) (some i4) none) (st ns a b c) = .ok (.nx, en ns (some v4) (some (oFn "shows_fool")) (some tn) (some i4) none) (st ns a b c) := by kernel_rfl
theorem t5 (ns : List Int) (a b c : Int) (a4 : Option D) (tn : D) : evalSs cal LF rest (en ns (some v5) a4 (some tn) (some i5) none) (st ns a b c) = .ok (.nx, en ns (some v5) (some (oFn "shows_fool")) (some tn) (some i5) none) (st ns a b c) := by kernel_rfl
theorem t6 (ns : List Int) (a b c : Int) (a4 : Option D) (tn : D) : evalSs cal LF rest (en ns (some v6) a4 (some tn) (some i6) none) (st ns a b c) = .ok (.nx, en ns (some v6) (some (oFn "shows_fool")) (some tn) (some i6) none) (st ns a b c) := by kernel_rfl
theorem t7 (ns : List Int) (a b c : Int) (a4 : Option D) (tn : D) : evalSs cal LF rest (en ns (some v7) a4 (some tn) (some i7) none) (st ns a b c) = .ok (.nx, en ns (some v7) (some (oFn "shows_fool")) (some tn) (some i7) none) (st ns a b c) := by kernel_rfl
theorem t8 (ns : List Int) (a b c : Int) (a4 : Option D) (tn : D) : evalSs cal LF rest (en ns (some v8) a4 (some tn) (some i8) none) (st ns a b c) = .ok (.nx, en ns (some v8) (some (oFn "shows_fool")) (some tn) (some i8) none) (st ns a b c) := by kernel_rfl
theorem t9 (ns : List Int) (a b c : Int) (a4 : Option D) (tn : D) : evalSs cal LF rest (en ns (some v9) a4 (some tn) (some i9) none) (st ns a b c) = .ok (.nx, en ns (some v9) (some (oFn "shows_fool")) (some tn) (some i9) none) (st ns a b c) := by kernel_rfl
theorem t10 (ns : List Int) (a b c : Int) (a4 : Option D) (tn : D) : evalSs cal LF rest (en ns (some v10) a4 (some tn) (some i10) none) (st ns a b c) = .ok (.nx, en ns (some v10) (some (oFn "shows_fool")) (some tn) (some i10) none) (st ns a b c) := by kernel_rfl
theorem t11 (ns : List Int) (a b c : Int) (a4 : Option D) (tn : D) : evalSs cal LF rest (en ns (some v11) a4 (some tn) (some i11) none) (st ns a b c) = .ok (.nx, en ns (some v11) (some (oFn "shows_fool")) (some tn) (some i11) none) (st ns a b c) := by kernel_rfl
theorem t12 (ns : List Int) (a b c : Int) (a4 : Option D) (tn : D) : evalSs cal LF rest (en ns (some v12) a4 (some tn) (some i12) none) (st ns a b c) = .ok (.nx, en ns (some v12) (some (oFn "shows_fool")) (some tn) (some i12) none) (st ns a b c) := by kernel_rfl
theorem t13 (ns : List Int) (a b c : Int) (a4 : Option D) (tn : D) : evalSs cal LF rest (en ns (some v13) a4 (some tn) (some i13) none) (st ns a b c) = .ok (.nx, en ns (some v13) (some (oFn "shows_fool")) (some tn) (some i13) none) (st ns a b c) := by kernel_rfl
theorem t14 (ns : List Int) (a b c : Int) (a4 : Option D) (tn : D) : evalSs cal LF rest (en ns (some v14) a4 (some tn) (some i14) none) (st ns a b c) = .ok (.nx, en ns (some v14) (some (oFn "shows_fool")) (some tn) (some i14) none) (st ns a b c) := by kernel_rfl
theorem t15 (ns : List Int) (a b c : Int) (a4 : Option D) (tn : D) : evalSs cal LF rest (en ns (some v15) a4 (some tn) (some i15) none) (st ns a b c) = .ok (.nx, en ns (some v15) (some (oFn "shows_fool")) (some tn) (some i15) none) (st ns a b c) := by kernel_rfl
theorem t16 (ns : List Int) (a b c : Int) (a4 : Option D) (tn : D) : evalSs cal LF rest (en ns (some v16) a4 (some tn) (some i16) none) (st ns a b c) = .ok (.nx, en ns (some v16) (some (oFn "shows_fool")) (some tn) (some i16) none) (st ns a b c) := by kernel_rfl
theorem t17 (ns : List Int) (a b c : Int) (a4 : Option D) (tn : D) : evalSs cal LF rest (en ns (some v17) a4 (some tn) (some i17) none) (st ns a b c) = .ok (.nx, en ns (some v17) (some (oFn "shows_fool")) (some tn) (some i17) none) (st ns a b c) := by kernel_rfl
theorem t18 (ns : List Int) (a b c : Int) (a4 : Option D) (tn : D) : evalSs cal LF rest (en ns (some v18) a4 (some tn) (some i18) none) (st ns a b c) = .ok (.nx, en ns (some v18) (some (oFn "shows_fool")) (some tn) (some i18) none) (st ns a b c) := by kernel_rfl
theorem t19 (ns : List Int) (a b c : Int) (a4 : Option D) (tn : D) : evalSs cal LF rest (en ns (some v19) a4 (some tn) (some i19) none) (st ns a b c) = .ok (.nx, en ns (some v19) (some (oFn "shows_fool")) (some tn) (some i19) none) (st ns a b c) := by kernel_rfl
theorem t20 (ns : List Int) (a b c : Int) (a4 : Option D) (tn : D) : evalSs cal LF rest (en ns (some v20) a4 (some tn) (some i20) none) (st ns a b c) = .ok (.nx, en ns (some v20) (some (oFn "shows_fool")) (some tn) (some i20) none) (st ns a b c) := by kernel_rfl
theorem turns (ns : List Int) (a b c : Int) (a4 : Option D) (tn : D) (k : Nat) (hk : k < badL.length) : ∃ v i, badL[k] = .tuple [v, i] ∧ evalSs cal LF rest (en ns (some v) a4 (some tn) (some i) none) (st ns a b c) = .ok (.nx, en ns (some v) (some (oFn "shows_fool")) (some tn) (some i) none) (st ns a b c) := by
  have hk : k < NB := hk
  match k, hk with
  | 0, _ => exact ⟨v0, i0, rfl, t0 ns a b c a4 tn⟩
  | 1, _ => exact ⟨v1, i1, rfl, t1 ns a b c a4 tn⟩
  | 2, _ => exact ⟨v2, i2, rfl, t2 ns a b c a4 tn⟩
  | 3, _ => exact ⟨v3, i3, rfl, t3 ns a b c a4 tn⟩
  | 4, _ => exact ⟨v4, i4, rfl, t4 ns a b c a4 tn⟩
  | 5, _ => exact ⟨v5, i5, rfl, t5 ns a b c a4 tn⟩
  | 6, _ => exact ⟨v6, i6, rfl, t6 ns a b c a4 tn⟩
  | 7, _ => exact ⟨v7, i7, rfl, t7 ns a b c a4 tn⟩
  | 8, _ => exact ⟨v8, i8, rfl, t8 ns a b c a4 tn⟩
  | 9, _ => exact ⟨v9, i9, rfl, t9 ns a b c a4 tn⟩
  | 10, _ => exact ⟨v10, i10, rfl, t10 ns a b c a4 tn⟩
  | 11, _ => exact ⟨v11, i11, rfl, t11 ns a b c a4 tn⟩
  | 12, _ => exact ⟨v12, i12, rfl, t12 ns a b c a4 tn⟩
  | 13, _ => exact ⟨v13, i13, rfl, t13 ns a b c a4 tn⟩
  | 14, _ => exact ⟨v14, i14, rfl, t14 ns a b c a4 tn⟩
  | 15, _ => exact ⟨v15, i15, rfl, t15 ns a b c a4 tn⟩
  | 16, _ => exact ⟨v16, i16, rfl, t16 ns a b c a4 tn⟩
  | 17, _ => exact ⟨v17, i17, rfl, t17 ns a b c a4 tn⟩
  | 18, _ => exact ⟨v18, i18, rfl, t18 ns a b c a4 tn⟩
  | 19, _ => exact ⟨v19, i19, rfl, t19 ns a b c a4 tn⟩
  | 20, _ => exact ⟨v20, i20, rfl, t20 ns a b c a4 tn⟩
  | k + 21, h => exact absurd h (by unfold NB; omega)
def goodD : D := oTup [firstD, laterD, nearD]
theorem tl (ns : List Int) (a b c : Int) (a3 a4 a9 a10 : Option D) : evalSs cal LF tail (en ns a3 a4 a9 a10 none) (st ns a b c) = .ok (.ret (.bool true), en ns a3 a4 a9 a10 (some goodD)) (st ns a b c) := by kernel_rfl
theorem bad_old : ∀ k (h : k < badL.length), old 1 badL[k] = true := by
  intro k hk
  have h : badL.all (old 1) = true := by decide +kernel
  exact List.all_eq_true.mp h _ (List.getElem_mem hk)
theorem r_pickD {j l : Nat} {S : Store} {ns : List Int} {m : M} (ds : List D) (h0 : ds ≠ []) (h1 : ds.length < 1000000) (ho : ∀ k (h : k < ds.length), old S.length ds[k] = true) (hS : S[l]? = some m) (hr : RowOk ns m) : ∃ k m', ∃ h : k < ds.length, RowOk ns m' ∧ callN G LF (j + 2) i__law_pick [ref l, .list ds] S = .ok ds[k] (S.set l m') := by
  obtain ⟨k, m', hk, hr', ek⟩ := r_taken (j := j) ds.length (List.length_pos_iff.mpr h0) h1 hS hr
  have tk : (S.set l m').take S.length = S.set l m' := List.take_of_length_le (by simp)
  refine ⟨k, m', hk, hr', (callN_at (fd := d__law_pick.fd) rfl rfl).trans ?_⟩
  have e1 : ixD (.list ds) (.int (k : Int)) = some ds[k] := by
    show ds[k]? = _
    exact List.getElem?_eq_getElem hk
  simp [d__law_pick, giveD, Pr.mut, ek, e1, tk, ho k hk]
theorem r_law (ns : List Int) : callN G LF 10 i_law [oScr ns] [] = .ok (.bool true) [] := by
  refine (callN_at (fd := d_law.fd) rfl rfl).trans ?_
  show leave 0 (evalSs cal LF body (some (oScr ns) :: List.replicate 11 none) []) = _
  rw [ss_then (pre ns)]
  have eb : behind 10 body = .cons (.for (.nm 9) (.r1 (.con (.int 4))) suite) tail := rfl
  rw [eb, ss_cons', st_for]
  refine leave_of (n := 0) ?_
  rw [it_rng (n := 4) (S1 := st ns 0 1670 0) (by simp) (by omega), bind_ok]
  refine Ends.for (List.range 4) e (fun pre env S => ∃ (a : Nat) (b c : Int) (a3 a4 a9 a10 : Option D), env = en ns a3 a4 a9 a10 none ∧ S = st ns a b c) (fun _ _ _ _ => rfl) ⟨0, _, _, _, _, _, _, rfl, rfl⟩ (fun pre x post env S e1 h => ?_) (fun env S h => ?_)
  · obtain ⟨a, b, c, a3, a4, a9, a10, rfl, rfl⟩ := h
    have es : suite = .cons (.asg (.t2 (.nm 3) (.nm 10)) (.call i__law_pick (.cons (.var 1) (.cons (.var 8) .nil)))) rest := rfl
    have hb : badL.length = NB := rfl
    have hS : (st ns a b c)[0]? = some (.lst [scr ns, .int a, .int b, .int c]) := rfl
    obtain ⟨k, m', hk, hr', ek⟩ := r_pickD (j := 7) (l := 0) (S := st ns a b c) (ns := ns) badL (by intro z; cases z) (by rw [hb]; unfold NB; omega) bad_old hS ⟨a, b, c, rfl⟩
    obtain ⟨a', b', c', rfl⟩ := hr'
    obtain ⟨v, i, hv, ht⟩ := turns ns a' b' c' a4 (e x) k hk
    have e2 : (st ns a b c).set 0 (.lst [scr ns, .int a', .int b', .int c']) = st ns a' b' c' := rfl
    have ea : asg (.nm 9) (e x) (en ns a3 a4 a9 a10 none) = some (en ns a3 a4 (some (e x)) a10 none) := rfl
    have eargs : evalEs cal (.cons (.var 1) (.cons (.var 8) .nil)) (en ns a3 a4 (some (e x)) a10 none) (st ns a b c) = .ok [ref 0, .list badL] (st ns a b c) := rfl
    have e3 : asg (.t2 (.nm 3) (.nm 10)) (.tuple [v, i]) (en ns a3 a4 (some (e x)) a10 none) = some (en ns (some v) a4 (some (e x)) (some i) none) := rfl
    have ek : cal i__law_pick [ref 0, .list badL] (st ns a b c) = .ok badL[k] ((st ns a b c).set 0 (.lst [scr ns, .int a', .int b', .int c'])) := ek
    refine hide fun Q hQ => ?_
    rw [turnP_eq, ea, opt_some, bind_ok, es, ss_cons', st_asg, ev_call, eargs, bind_ok, ek, bind_ok, hv, e2, e3, opt_some, bind_ok, bind_ok, thn_nx, ht, ends_ok]
    subst hQ
    exact ⟨rfl, a', b', c', _, _, _, _, rfl, rfl⟩
  · obtain ⟨a, b, c, a3, a4, a9, a10, rfl, rfl⟩ := h
    rw [thn_nx, tl, ends_ok]
    rfl
end Mp.K08
set_option maxHeartbeats 0
namespace Mp.K08
open PySem PySem.Spec PyProof.Rows L2
abbrev Rw : PySem.W.OpenRow := PySem.W.OpenLaw.row PySem.Challenge.rw_maskpaint_k08_wits_refused
abbrev hk : PySem.W.Hook := He.hookX 5 (faOf defs con xs) (dOf defs xs) [] (tfOf defs) (exOf defs con xs)
def ob (s : PySem.W.SharedT) : He.AlX := He.obsX 5 (faOf defs con xs) (dOf defs xs) [] (tfOf defs) (exOf defs con xs) (HandSHeadRun.getT s)
theorem ob_eq (s : PySem.W.SharedT) : ob s = hk.obs s.abs := He.obsX_eq (HandSHeadRun.getT_eq s)
def loose0 : List Str := ["PaintError", "BadMap", "BadHouse", "BadLot", "BadComing", "BadNumber", "BadTree", "BadWit", "BadStep", "MOST_HOUSES", "is_number", "is_pair", "need_map", "are_near", "lots_of", "heaps_of", "need_of", "is_coming", "need_coming", "least_paint"]
def loose1 : List Str := ["painted", "paints", "wasted_by", "wasted", "comings_of", "MOST_ROWS", "links_of", "is_links", "is_view", "is_row", "need_wit", "followed", "follow", "needs_of", "fooled", "fool", "shows_fool", "waste_of", "_law_refusal", "_law_taken"]
def loose2 : List Str := ["_law_pick"]
def loose : List Str := loose0 ++ loose1 ++ loose2
theorem run (w : World) : HandSHeadRun.RunEq Rw (PySem.W.view Rw.prog [46]) hk ob 4000 loose w := by
  intro os
  kernel_rfl
end Mp.K08
set_option maxHeartbeats 0
open PySem PySem.W PySem.Calls PyProof.Rows
theorem PySem.Challenge.cw_maskpaint_k08_wits_refused_holds : PySem.Challenge.rw_maskpaint_k08_wits_refused.Holds := by
  w_on; o_law
  refine HandSHeadRun.head_any (r := OpenLaw.row PySem.Challenge.rw_maskpaint_k08_wits_refused) (q := view (OpenLaw.row PySem.Challenge.rw_maskpaint_k08_wits_refused).prog [46]) (H := Mp.K08.hk) (ob := Mp.K08.ob) (M := 4000) (loose := Mp.K08.loose) (d := HandSHeadRun.topDef (OpenLaw.row PySem.Challenge.rw_maskpaint_k08_wits_refused).prog 46) (kwd := []) Mp.K08.ob_eq
    (by kernel_rfl) (fun s => by kernel_rfl) Mp.K08.run (by kernel_rfl) (by kernel_rfl) (by kernel_rfl) (by rfl) (by first | assumption | decide +kernel) (by decide +kernel) ⟨rfl, rfl, rfl, rfl, rfl, by decide +kernel⟩ ?hw ?hc
  case hw => w_witness2
  case hc =>
    refine LamX.walk_ofTsE (l := PySem.Challenge.rw_maskpaint_k08_wits_refused) (n := 63) (k := 8 * (9 + 1)) (x := "_law_script") (CX := fun w => L2.CX (PySem.Challenge.rw_maskpaint_k08_wits_refused).prog w) rfl (by decide) (by kernel_rfl) ⟨rfl, by decide, by decide⟩ ?F ?G
    · intro w mg fa h Y G hmg0
      obtain ⟨K, KX, c⟩ := Y
      have e : (HandSHeadRun.topDef (OpenLaw.row PySem.Challenge.rw_maskpaint_k08_wits_refused).prog 46).name = ("law" : PySem.Str) := by kernel_rfl
      rw [e] at hmg0
      refine ⟨K, KX, Mp.law_at (f := 29) (j := 9) (lf := Mp.K08.LF) (m := Mp.K08.d_law) c KX G hmg0 ?_ ?_ ?_ rfl rfl fun ns _ _ => Mp.K08.r_law ns⟩
      · decide +kernel
      · decide
      · decide
    · intro w H s e s' hx
      obtain ⟨_, _, _, _, _, _, _, _, _, _, _, _, h⟩ := hx
      exact h
