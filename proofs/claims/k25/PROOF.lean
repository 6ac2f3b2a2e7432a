import PyProof.Rows.All
import Wide.All
import OpenK.AllK
import Wide.FinOn
import PySem.Challenge.RW_poststead_k25_whole_check_digits
import PySem.Syntax
import PySem.Builtin.Int.W1All
import HandS.ForMost
import HandS.ForExc
import HandS.Nested
import HandS.Walk
import HandS.Zip
import HandS.Rev
import HandS.Lambda
import HandS.Flow
import HandS.ExcInit
import HandS.ExcSuper
import HandS.WordsExc
import KE.KExcInit
import HandS.TryMany
import HandS.ExcField
import HandS.ClsMeth
import HandS.TupAny
import HandS.TupMul
import HandS.Text
import PyProof.Rows.StrMul
import HandS.TupLe
import HandS.IsInst
import HandS.List
import PyProof.SumWalkG
import PyProof.Rows.SumAny
import PyProof.WalksMore
import HandS.TupLen
import HandS.RaiseMore
import HandS.SetFor
import PyProof.Rows.SetFrom
import KE.SortData
import HandS.Strs
import HandS.More
import HandS.Dict
import PyProof.Rows.TmSorted
import KE.DataMinMax
import KE.DataEq
import HandS.SortKw
import HandS.CallLocal
import HandS.StrMore
import KE.GoesEnum
import KE.GoesZip
import HandS.RevTup
import HandS.NoneIn
import HandS.HeadHook4
import HandS.HeadWalk
import HandS.Head2
import HandS.EndTab
import HandS.HeadEnd
import HandS.HeadNt
set_option Elab.async false
set_option linter.all false
namespace Y
open PySem (Operator CmpOp)
inductive D where
  | non | bl (b : Bool) | int (i : Int) | str (s : List Nat) | tup (ds : List D) | ref (a : Nat) | fn (k : Nat) | clo (k : Nat) (cs : List D) | frz (ds : List D)
  deriving Inhabited
inductive HV where
  | lst (ds : List D)
  | dic (kvs : List (D × D))
  | st (ks : List D)
  | ins (c : Nat) (fs : List (Nat × D))
  deriving Inhabited
abbrev Heap := List HV
abbrev Env := List (Option D)
inductive Res (α : Type) where
  | ok (a : α) (h : Heap)
  | exc (c : Nat) (ds : List D) (h : Heap)
  | err
def Res.bind {α β : Type} (r : Res α) (f : α → Heap → Res β) : Res β :=
  match r with
  | .ok a h => f a h
  | .exc c ds h => .exc c ds h
  | .err => .err
inductive SRes where
  | nx (env : Env) (h : Heap)
  | ret (d : D) (h : Heap)
  | brk (env : Env) (h : Heap)
  | cnt (env : Env) (h : Heap)
  | exc (c : Nat) (ds : List D) (h : Heap)
  | err
inductive Ty where
  | int | bool | str | list | tuple
  deriving DecidableEq
inductive Tg where
  | nm (i : Nat)
  | tp (ts : List Tg)
/-- built-in functions -/
inductive Bi where
  | len | all | any | sum | tuple | list | sorted | int | str | ord | chr | abs | min | max | min1 | max1 | min3 | minD | maxD | divmod | dict | set
  deriving DecidableEq
/-- methods of built-in types -/
inductive Bm where
  | append | extend | pop | popAt | index | count | join | split | startswith | endswith | partition | rpartition | ljust | lstrip | rstrip | lower | upper | get | bitlen
  deriving DecidableEq
inductive E where
  | cint (i : Int) | cstr (s : List Nat) | cbl (b : Bool) | cnon
  | var (i : Nat) | glb (k : Nat) | fnv (k : Nat)
  | bin (op : Operator) (a b : E) | neg (a : E) | notv (a : E)
  | cmp (op : CmpOp) (a b : E) | chain (o1 o2 : CmpOp) (a b c : E)
  | andv (a b : E) | orv (a b : E) | ife (t a b : E)
  | call (k : Nat) (es : List E) | calls (i : Nat) (es : List E)
  | new (c : Nat) (es : List E) | mth (m : Nat) (o : E) (es : List E)
  | bi (b : Bi) (es : List E) | bm (m : Bm) (o : E) (es : List E)
  | isi (a : E) (ts : List Ty)
  | attr (o : E) (f : Nat)
  | idx (a i : E) | slc (a lo hi : E) | rev (a : E)
  | tup (es : List E) | lst (es : List E) | dnk | dnt | dlit (ks vs : List E)
  | lc (own : List Nat) (tg : Tg) (it : E) (ifs : List E) (elt : E)
  | lenset (b : Bool) (a : E) | mind (a z : E) | maxd (a z : E)
  | told (e : E)
  | fst (es : List E)
  -- what is walked
  | rng1 (a : E) | rng2 (a b : E) | rng3 (a b c : E) | enm (a : E) | zip (a b : E) | rvd (a : E) | enmr (a : E) | items (a : E) | vals (a : E)
inductive S where
  | expr (e : E) | set (i : Nat) (e : E) | asg (tg : Tg) (e : E) | par (i j : Nat) (a b : E)
  | seti (o i e : E) | seta (o : E) (f : Nat) (e : E)
  | aug (i : Nat) (op : Operator) (e : E) | auga (o : E) (f : Nat) (op : Operator) (e : E) | augi (o i : E) (op : Operator) (e : E)
  | ite (t : E) (a b : List S) | whl (t : E) (b : List S) | for_ (tg : Tg) (it : E) (b : List S)
  | ret (e : E) | retn | raise (c : Nat) (e : E) | brk | cnt | pass
  | ndef (i k : Nat) (cs : List Nat) | deli (o i : E)
structure Fn where
  np : Nat
  ns : Nat
  body : List S
  pure : Bool
  /-- it hands lambdas to the teller -/
  lam : Bool := false
structure Prog where
  fns : List Fn
  consts : List D
  /-- the method of this name of the class -/
  meth : Nat → Nat → Option Nat
  /-- __init__ -/
  init : Nat → Option Nat
  /-- the name that a caught error is told by: of the errors' classes -/
  told : Nat → Option (List Nat)
  /-- an error that keeps tuple(what it is told) -/
  xtup : Nat → Bool
  fuel : Nat
structure Ctx where
  P : Prog
  call : Nat → Nat → List D → Heap → Res D
  base : Nat
  /-- calls of one level lower: of a lambda's body -/
  low : Nat → Nat → List D → Heap → Res D
  /-- may a lambda be told -/
  tl : Bool
def Ctx.dn (C : Ctx) : Ctx := { C with call := C.low, low := fun _ _ _ _ => .err, tl := false }
def sizeLine : Nat := 16777216
def Heap.at (h : Heap) (a : Nat) : Option HV := h[a]?
mutual
def D.under (n : Nat) : D → Bool
  | .tup ds => D.unders n ds
  | .ref a => decide (a < n)
  | .clo _ _ => false
  | .frz ds => D.unders n ds
  | _ => true
def D.unders (n : Nat) : List D → Bool
  | [] => true
  | d :: ds => D.under n d && D.unders n ds
end
/-- the code lists in order -/
def ltL : List Nat → List Nat → Bool
  | [], [] => false
  | [], _ :: _ => true
  | _ :: _, [] => false
  | a :: as, b :: bs => if a < b then true else if b < a then false else ltL as bs
def eqL : List Nat → List Nat → Bool
  | [], [] => true
  | a :: as, b :: bs => if a = b then eqL as bs else false
  | _, _ => false
mutual
/-- data: no references, tuples at most n deep -/
def dat : Nat → D → Bool
  | _, .non => true
  | _, .bl _ => true
  | _, .int _ => true
  | _, .str _ => true
  | n, .tup ds => decide (n ≠ 0) && dats (n - 1) ds
  | _, _ => false
def dats : Nat → List D → Bool
  | _, [] => true
  | n, d :: ds => dat n d && dats n ds
end
mutual
/-- == of data -/
def eqB : D → D → Bool
  | .non, .non => true
  | .bl a, .bl b => a == b
  | .bl a, .int j => (if a then 1 else 0) == j
  | .int i, .bl b => i == (if b then 1 else 0)
  | .int a, .int b => decide (a = b)
  | .str a, .str b => eqL a b
  | .tup as, .tup bs => eqBs as bs
  | _, _ => false
def eqBs : List D → List D → Bool
  | [], [] => true
  | a :: as, b :: bs => eqB a b && eqBs as bs
  | _, _ => false
end
def eqW (a b : D) : Option Bool := if dat 20 a && dat 20 b then some (eqB a b) else none
def eqWs (as bs : List D) : Option Bool := if dats 20 as && dats 20 bs then some (eqBs as bs) else none
mutual
/-- < of ints, texts, tuples of such -/
def ltD : D → D → Option Bool
  | .int a, .int b => some (decide (a < b))
  | .str a, .str b => some (ltL a b)
  | .tup as, .tup bs => ltDs as bs
  | _, _ => none
def ltDs : List D → List D → Option Bool
  | [], [] => some false
  | [], _ :: _ => some true
  | _ :: _, [] => some false
  | a :: as, b :: bs => if eqB a b then ltDs as bs else if pairsOk as bs then ltD a b else none
/-- all pairs can be put in order -/
def pairsOk : List D → List D → Bool
  | a :: as, b :: bs => (eqB a b || (ltD a b).isSome) && pairsOk as bs
  | _, _ => true
end
def ltW (a b : D) : Option Bool := if dat 20 a && dat 20 b then ltD a b else none
mutual
/-- of one make: they can be put in order -/
def alk : D → D → Bool
  | .non, .non => true
  | .bl _, .bl _ => true
  | .int _, .int _ => true
  | .str _, .str _ => true
  | .tup as, .tup bs => alks as bs
  | _, _ => false
def alks : List D → List D → Bool
  | a :: as, b :: bs => alk a b && alks as bs
  | [], _ => true
  | _ :: _, [] => true
end
mutual
/-- < of what is of one make -/
def ltA : D → D → Bool
  | .bl a, .bl b => !a && b
  | .int a, .int b => decide (a < b)
  | .str a, .str b => ltL a b
  | .tup as, .tup bs => ltAs as bs
  | _, _ => false
def ltAs : List D → List D → Bool
  | [], [] => false
  | [], _ :: _ => true
  | _ :: _, [] => false
  | a :: as, b :: bs => if eqB a b then ltAs as bs else ltA a b
end
def D.isI : D → Bool | .int _ => true | _ => false
/-- > of rows of numbers -/
def gtB : List D → List D → Bool
  | .int a :: as, .int b :: bs => if a = b then gtB as bs else decide (b < a)
  | _ :: _, [] => true
  | _, _ => false
def gtS (x y : D) : Option Bool := match x, y with | .int a, .int b => some (decide (b < a)) | .str a, .str b => some (ltL b a) | .tup as, .tup bs => (if as.all D.isI && bs.all D.isI then some (gtB as bs) else none) | _, _ => none
def D.isS : D → Bool | .str _ => true | _ => false
def D.isN : D → Bool | .non => true | _ => false
def D.isT : D → Bool | .tup (_ :: _) => true | _ => false
def D.isTt : D → Bool | .tup _ => true | _ => false
/-- all can be put in order -/
def cmpOk (ds : List D) : Bool := dats 19 ds && (ds.all D.isI || ds.all D.isS || (!ds.any D.isN && ds.all fun a => ds.all fun b => alk a b))
/-- .. by sorted -/
def srtOk (ds : List D) : Bool := cmpOk ds && (ds.all D.isT || !ds.any D.isTt)
def minBy (b : D) (ds : List D) : D := ds.foldl (fun a y => if ltA y a then y else a) b
def maxBy (b : D) (ds : List D) : D := ds.foldl (fun a y => if ltA a y then y else a) b
/-- put x into a sorted list, behind what is not above it -/
def insD (x : D) : List D → List D
  | [] => [x]
  | y :: ys => if ltA x y then x :: y :: ys else y :: insD x ys
def sortD (ds : List D) : List D := ds.foldl (fun acc x => insD x acc) []
/-- texts in order -/
def insS (x : List Nat) : List (List Nat) → List (List Nat)
  | [] => [x]
  | y :: ys => if ltL y x then y :: insS x ys else x :: y :: ys
def sortS : List (List Nat) → List (List Nat)
  | [] => []
  | x :: xs => insS x (sortS xs)
def allB : List D → Option Bool
  | [] => some true
  | .bl b :: ds => match allB ds with | some r => some (b && r) | none => none
  | _ => none
def anyB : List D → Option Bool
  | [] => some false
  | .bl b :: ds => match anyB ds with | some r => some (b || r) | none => none
  | _ => none
def sumI : List D → Option Int
  | [] => some 0
  | .int i :: ds => match sumI ds with | some r => some (i + r) | none => none
  | _ => none
/-- the items of a sequence -/
def items? (h : Heap) : D → Option (List D)
  | .tup ds => some ds
  | .ref a => match h.at a with
    | some (.lst ds) => some ds
    | _ => none
  | _ => none
/-- the items of a list -/
def list? (h : Heap) : D → Option (List D)
  | .ref a => match h.at a with
    | some (.lst ds) => some ds
    | _ => none
  | _ => none
def idxN (n : Nat) (i : Int) : Option Nat :=
  if 0 ≤ i then (if i < n then some i.toNat else none) else (if -(n : Int) ≤ i then some (i + n).toNat else none)
/-- a slice's end -/
def clip (n : Nat) (i : Int) : Nat :=
  if 0 ≤ i then (if i < n then i.toNat else n) else (if -(n : Int) ≤ i then (i + n).toNat else 0)
def cutLo (n : Nat) : Option Int → Nat
  | none => 0
  | some i => clip n i
def cutHi (n : Nat) : Option Int → Nat
  | none => n
  | some i => clip n i
def cut {α : Type} (xs : List α) (lo hi : Option Int) : List α := (xs.take (cutHi xs.length hi)).drop (cutLo xs.length lo)
def digitsN : Nat → Nat → List Nat → List Nat
  | 0, _, acc => acc
  | f + 1, n, acc => if n < 10 then (48 + n) :: acc else digitsN f (n / 10) ((48 + n % 10) :: acc)
def natStr (n : Nat) : List Nat := digitsN (n + 1) n []
def intStr : Int → List Nat
  | .ofNat n => natStr n
  | .negSucc n => 45 :: natStr (n + 1)
def readN : List Nat → Nat → Option Nat
  | [], acc => some acc
  | c :: cs, acc => if 48 ≤ c ∧ c ≤ 57 then readN cs (acc * 10 + (c - 48)) else none
/-- int(text), digits alone -/
def readInt : List Nat → Option Int
  | [] => none
  | c :: cs => match readN (c :: cs) 0 with | some n => some n | none => none
def isPre : List Nat → List Nat → Bool
  | [], _ => true
  | _ :: _, [] => false
  | a :: as, b :: bs => if a = b then isPre as bs else false
/-- does sub stand in s -/
def hasSub (sub : List Nat) : List Nat → Bool
  | [] => isPre sub []
  | c :: cs => isPre sub (c :: cs) || hasSub sub cs
/-- split at one sign -/
def splitC (c : Nat) : List Nat → List Nat → List (List Nat)
  | cur, [] => [cur.reverse]
  | cur, x :: xs => if x = c then cur.reverse :: splitC c [] xs else splitC c (x :: cur) xs
/-- at the first sign c: what is ahead, whether it stands, what is behind -/
def partC (c : Nat) : List Nat → List Nat × Bool × List Nat
  | [] => ([], false, [])
  | x :: xs => if x = c then ([], true, xs) else (match partC c xs with | (a, f, b) => (x :: a, f, b))
def joinL (sep : List Nat) : List (List Nat) → List Nat
  | [] => []
  | [x] => x
  | x :: y :: r => x ++ (sep ++ joinL sep (y :: r))
def strs? : List D → Option (List (List Nat))
  | [] => some []
  | .str s :: ds => match strs? ds with | some r => some (s :: r) | none => none
  | _ => none
def dropC (c : Nat) : List Nat → List Nat
  | [] => []
  | x :: xs => if x = c then dropC c xs else x :: xs
def lowC (c : Nat) : Nat := if 65 ≤ c ∧ c ≤ 90 then c + 32 else c
def upC (c : Nat) : Nat := if 97 ≤ c ∧ c ≤ 122 then c - 32 else c
def lookD (k : D) : List (D × D) → Option D
  | [] => none
  | (a, v) :: r => if eqB k a then some v else lookD k r
def putD (k v : D) (kvs : List (D × D)) : List (D × D) := if (kvs.any fun q => eqB k q.1) = true then kvs.map fun q => if eqB k q.1 = true then (q.1, v) else q else kvs ++ [(k, v)]
def remD (k : D) : List (D × D) → List (D × D)
  | [] => []
  | (a, w) :: r => if eqB k a then r else (a, w) :: remD k r
/-- a key of a dict with keys that are ints and texts -/
def D.keyK : D → Bool
  | .int _ => true
  | .str _ => true
  | _ => false
def D.keyT : D → Bool
  | .tup ds => ds.all D.keyK
  | _ => false
def D.key (d : D) : Bool := d.keyK || d.keyT
def isIn (x : D) : List D → Option Bool
  | [] => some false
  | y :: ys => match eqW y x, isIn x ys with
    | some a, some b => some (a || b)
    | _, _ => none
/-- the first place of a number in a row of numbers -/
def indexI (k : Int) : List D → Nat → Option Nat
  | .int z :: ys, n => if z = k then (if ys.all (fun | .int _ => true | _ => false) then some n else none) else indexI k ys (n + 1)
  | _, _ => none
def countD (x : D) : List D → Option Nat
  | [] => some 0
  | y :: ys => match eqW y x, countD x ys with
    | some true, some n => some (n + 1)
    | some false, some n => some n
    | _, _ => none
/-- the different ones, in the order in which they first stand -/
def firsts : List D → List D → Option (List D)
  | acc, [] => some acc
  | acc, x :: xs => match isIn x acc with
    | some true => firsts acc xs
    | some false => firsts (acc ++ [x]) xs
    | none => none
def getF (f : Nat) : List (Nat × D) → Option D
  | [] => none
  | (g, d) :: r => if f = g then some d else getF f r
def setF (f : Nat) (d : D) : List (Nat × D) → List (Nat × D)
  | [] => [(f, d)]
  | (g, x) :: r => if g = f then (g, d) :: r else (g, x) :: setF f d r
def truth (h : Heap) : D → Option Bool
  | .non => some false
  | .bl b => some b
  | .int i => some (i != 0)
  | .str s => some (!s.isEmpty)
  | .tup ds => some (!ds.isEmpty)
  | .ref a => match h.at a with
    | some (.lst ds) => some (!ds.isEmpty)
    | some (.dic kvs) => some (!kvs.isEmpty)
    | _ => none
  | _ => none
def tyIs (h : Heap) : D → Ty → Bool
  | .bl _, .bool => true | .bl _, .int => true
  | .int _, .int => true
  | .str _, .str => true
  | .tup _, .tuple => true
  | .ref a, .list => match h.at a with | some (.lst _) => true | _ => false
  | _, _ => false
def small64 (i : Int) : Bool := decide (-(18446744073709551616 : Int) < i) && decide (i < 18446744073709551616)
def mkStr (s : List Nat) (h : Heap) : Res D := if s.length ≤ sizeLine then .ok (.str s) h else .err
def mkTup (ds : List D) (h : Heap) : Res D := if ds.length ≤ sizeLine then .ok (.tup ds) h else .err
def mkLst (ds : List D) (h : Heap) : Res D := if ds.length ≤ sizeLine then .ok (.ref h.length) (h ++ [.lst ds]) else .err
def rep {α : Type} (xs : List α) (n : Nat) : List α := (List.replicate n xs).flatten
def binI (op : Operator) (i j : Int) : Option Int :=
  match op with
  | .Add => some (i + j)
  | .Sub => some (i - j)
  | .Mult => if small64 i || small64 j then some (i * j) else none
  | .FloorDiv => if 0 < j ∧ j < 1073741824 then some (i / j) else none
  | .Mod => if 0 < j then some (i % j) else none
  | .Pow => if 0 ≤ j ∧ j ≤ 100000 ∧ i.natAbs < 18446744073709551616 then some (i ^ j.toNat) else none
  | .LShift => if 0 ≤ j ∧ j ≤ 1000 ∧ i.natAbs < 18446744073709551616 then some (i * 2 ^ j.toNat) else none
  | .RShift => if 0 ≤ j ∧ j ≤ 1000 then some (i / 2 ^ j.toNat) else none
  | .BitAnd => some (PySem.Builtin.bitAnd i j)
  | .BitOr => some (PySem.Builtin.bitOr i j)
  | .BitXor => some (PySem.Builtin.bitXor i j)
  | _ => none
def binop (op : Operator) (x y : D) (h : Heap) : Res D :=
  match x, y with
  | .int i, .int j => match binI op i j with | some k => .ok (.int k) h | none => .err
  | .str a, .str b => match op with | .Add => mkStr (a ++ b) h | _ => .err
  | .tup a, .tup b => match op with | .Add => mkTup (a ++ b) h | _ => .err
  | .str a, .int j => match op with | .Mult => (if -1000000 ≤ j ∧ j ≤ 1000000 then mkStr (rep a j.toNat) h else .err) | _ => .err
  | .tup a, .int j => match op with | .Mult => (if 2 ≤ j ∧ j ≤ 1000 ∧ a.length ≤ 1000 ∧ !a.isEmpty then .ok (.tup (rep a j.toNat)) h else .err) | _ => .err
  | .ref a, .ref b => match op with
    | .Add => (match list? h (.ref a), list? h (.ref b) with | some xs, some ys => mkLst (xs ++ ys) h | _, _ => .err)
    | _ => .err
  | .ref a, .int j => match op with
    | .Mult => (match list? h (.ref a) with | some xs => (if -1000000 ≤ j ∧ j ≤ 1000000 then mkLst (rep xs j.toNat) h else .err) | none => .err)
    | _ => .err
  | _, _ => .err
/-- x op= y: of ints and of texts -/
def augop (op : Operator) (x y : D) (h : Heap) : Res D :=
  match x, y with
  | .int i, .int j => (match op with | .Pow => .err | _ => binop op (.int i) (.int j) h)
  | .str a, .str b => binop op (.str a) (.str b) h
  | _, _ => .err
/-- one comparison: an answer or none -/
def eqO (x y : D) (h : Heap) : Option Bool := match list? h x, list? h y with | some xs, some ys => eqWs xs ys | some _, none => none | none, some _ => none | none, none => eqW x y
def inop (x y : D) (h : Heap) : Option Bool :=
  match y with
  | .str s => (match x with | .str [c] => some (s.any (· == c)) | _ => none)
  | .tup ds => isIn x ds
  | .ref a => (match h.at a with
    | some (.lst ds) => isIn x ds
    | some (.dic kvs) => if x.keyK then some (lookD x kvs).isSome else none
    | _ => none)
  | _ => none
/-- one comparison: an answer or none -/
def cmpop (op : CmpOp) (x y : D) (h : Heap) : Option Bool :=
  match op with
  | .Eq => eqO x y h
  | .NotEq => (eqO x y h).map not
  | .Lt => ltW x y
  | .Gt => gtS x y
  | .LtE => (match x, y with | .int a, .int b => some (decide (a ≤ b)) | .str a, .str b => some (!ltL b a) | _, _ => none)
  | .GtE => (match x, y with | .int a, .int b => some (decide (b ≤ a)) | .str a, .str b => some (!ltL a b) | _, _ => none)
  | .Is => (match y with | .non => (match x with | .non => some true | _ => some false) | _ => none)
  | .IsNot => (match y with | .non => (match x with | .non => some false | _ => some true) | _ => none)
  | .In => inop x y h
  | .NotIn => (inop x y h).map not
/-- the keys of a dict, all texts -/
def keysS? (h : Heap) : D → Option (List (List Nat))
  | .ref a => match h.at a with
    | some (.dic kvs) => (match strs? (kvs.map (·.1)) with | some ss => if decide (ss.length < 64) && ss.all (fun s => decide (s.length ≤ 1000) && s.all fun c => decide (c < 128)) then some ss else none | none => none)
    | _ => none
  | _ => none
def lenD (h : Heap) : D → Option Nat
  | .str s => some s.length
  | .tup ds => some ds.length
  | .ref a => match h.at a with
    | some (.lst ds) => some ds.length
    | some (.dic kvs) => some kvs.length
    | some (.st ks) => some ks.length
    | _ => none
  | _ => none
def optR (o : Option D) (h : Heap) : Res D := match o with | some d => .ok d h | none => .err
def biF (b : Bi) (ds : List D) (h : Heap) : Res D :=
  match b, ds with
  | .len, [x] => (match lenD h x with | some n => .ok (.int n) h | none => .err)
  | .all, [x] => (match list? h x with | some xs => optR ((allB xs).map .bl) h | none => .err)
  | .any, [x] => (match list? h x with | some xs => optR ((anyB xs).map .bl) h | none => .err)
  | .sum, [x] => (match items? h x with | some xs => optR ((sumI xs).map .int) h | none => .err)
  | .tuple, [x] => (match items? h x with | some xs => .ok (.tup xs) h | none => .err)
  | .list, [x] => (match items? h x with | some xs => mkLst xs h | none => .err)
  | .sorted, [x] => (match items? h x with | some xs => (if srtOk xs then mkLst (sortD xs) h else .err) | none => (match keysS? h x with | some ss => mkLst ((sortS ss).map .str) h | none => .err))
  | .int, [.int i] => .ok (.int i) h
  | .int, [.bl b] => .ok (.int (if b then 1 else 0)) h
  | .int, [.str s] => (if s.length ≤ 640 then optR ((readInt s).map .int) h else .err)
  | .str, [.int i] => (if i.natAbs < 1000000000000000000 then .ok (.str (intStr i)) h else .err)
  | .str, [.str s] => .ok (.str s) h
  | .ord, [.str [c]] => .ok (.int c) h
  | .abs, [.int i] => .ok (.int i.natAbs) h
  | .min, [.int a, .int b] => .ok (.int (if b < a then b else a)) h
  | .max, [.int a, .int b] => .ok (.int (if a < b then b else a)) h
  | .min3, [.int a, .int b, .int c] => .ok (.int (let m := if b < a then b else a; if c < m then c else m)) h
  | .min1, [x] => (match items? h x with | some (y :: ys) => (if cmpOk (y :: ys) then .ok (minBy y ys) h else .err) | _ => .err)
  | .max1, [x] => (match items? h x with | some (y :: ys) => (if cmpOk (y :: ys) then .ok (maxBy y ys) h else .err) | _ => .err)
  | .minD, [x, z] => (match items? h x with | some (y :: ys) => (if cmpOk (y :: ys) then .ok (minBy y ys) h else .err) | some [] => .ok z h | none => .err)
  | .maxD, [x, z] => (match items? h x with | some (y :: ys) => (if cmpOk (y :: ys) then .ok (maxBy y ys) h else .err) | some [] => .ok z h | none => .err)
  | .divmod, [.int a, .int b] => (if 0 < b ∧ b < 1073741824 then .ok (.tup [.int (a / b), .int (a % b)]) h else .err)
  | .dict, [.ref a] => (match h.at a with | some (.dic kvs) => .ok (.ref h.length) (h ++ [.dic kvs]) | _ => .err)
  | _, _ => .err
/-- what a store asks: the object is not of the callers' heap, where the callee is pure -/
def setO (base : Nat) (h : Heap) (a : Nat) (o : HV) : Option Heap := if base ≤ a then some (h.set a o) else none
def optH (o : Option Heap) (d : D) : Res D := match o with | some h => .ok d h | none => .err
def bmF (base : Nat) (m : Bm) (o : D) (ds : List D) (h : Heap) : Res D :=
  match m, o, ds with
  | .append, .ref a, [d] => (match h.at a with | some (.lst xs) => (if xs.length < sizeLine then optH (setO base h a (.lst (xs ++ [d]))) .non else .err) | _ => .err)
  | .extend, .ref a, [x] => (match h.at a, list? h x with | some (.lst xs), some ys => (if xs.length + ys.length ≤ sizeLine then optH (setO base h a (.lst (xs ++ ys))) .non else .err) | _, _ => .err)
  | .pop, .ref a, [] => (match h.at a with
    | some (.lst xs) => (match xs.getLast? with | some d => optH (setO base h a (.lst xs.dropLast)) d | none => .err)
    | _ => .err)
  | .popAt, .ref a, [.int i] => (match h.at a with
    | some (.lst xs) => (match idxN xs.length i with | some k => (match xs[k]? with | some d => optH (setO base h a (.lst (xs.eraseIdx k))) d | none => .err) | none => .err)
    | _ => .err)
  | .index, x, [d] => (match d with | .int k => (match list? h x with | some xs => (match indexI k xs 0 with | some n => .ok (.int n) h | none => .err) | none => .err) | _ => .err)
  | .count, x, [d] => (match items? h x with | some xs => (match countD d xs with | some n => .ok (.int n) h | none => .err) | none => .err)
  | .join, .str s, [x] => (match items? h x with | some xs => (match strs? xs with | some ss => (if (ss.map (·.length)).sum + ss.length * s.length ≤ sizeLine then .ok (.str (joinL s ss)) h else .err) | none => .err) | none => .err)
  | .split, .str s, [.str [c]] => if s.length + 2 ≤ sizeLine then mkLst ((splitC c [] s).map .str) h else .err
  | .startswith, .str s, [.str t] => .ok (.bl (isPre t s)) h
  | .endswith, .str s, [.str t] => .ok (.bl (isPre t.reverse s.reverse)) h
  | .partition, .str s, [.str [c]] => (match partC c s with | (a, f, b) => .ok (.tup [.str a, .str (if f then [c] else []), .str b]) h)
  | .rpartition, .str s, [.str [c]] => (match partC c s.reverse with
    | (a, f, b) => .ok (.tup (if f then [.str b.reverse, .str [c], .str a.reverse] else [.str [], .str [], .str s])) h)
  | .ljust, .str s, [.int n] => (if -1000000 ≤ n ∧ n ≤ 100000 then mkStr (s ++ List.replicate (n.toNat - s.length) 32) h else .err)
  | .ljust, .str s, [.int n, .str [c]] => (if -1000000 ≤ n ∧ n ≤ 100000 then mkStr (s ++ List.replicate (n.toNat - s.length) c) h else .err)
  | .lstrip, .str s, [.str [c]] => .ok (.str (dropC c s)) h
  | .rstrip, .str s, [.str [c]] => .ok (.str (dropC c s.reverse).reverse) h
  | .lower, .str s, [] => (if s.all (· < 128) then .ok (.str (s.map lowC)) h else .err)
  | .upper, .str s, [] => (if s.all (· < 128) then .ok (.str (s.map upC)) h else .err)
  | .get, .ref a, [k] => (match h.at a with | some (.dic kvs) => (if k.keyK then .ok ((lookD k kvs).getD .non) h else .err) | _ => .err)
  | .bitlen, .int i, [] => (if 0 ≤ i then .ok (.int (if i = 0 then 0 else (Nat.log2 i.toNat + 1 : Nat))) h else .err)
  | _, _, _ => .err
def Env.put (env : Env) (i : Nat) (d : D) : Env := env.set i (some d)
mutual
def assign : Tg → D → Heap → Env → Option Env
  | .nm i, d, _, env => some (env.put i d)
  | .tp ts, d, h, env => match items? h d with
    | some ds => assigns ts ds h env
    | none => none
def assigns : List Tg → List D → Heap → Env → Option Env
  | [], [], _, env => some env
  | t :: ts, d :: ds, h, env => match assign t d h env with
    | some env' => assigns ts ds h env'
    | none => none
  | _, _, _, _ => none
end
mutual
/-- the slots that a target stores -/
def Tg.slots : Tg → List Nat
  | .nm i => [i]
  | .tp ts => Tg.slotss ts
def Tg.slotss : List Tg → List Nat
  | [] => []
  | t :: ts => Tg.slots t ++ Tg.slotss ts
end
/-- what hands out tuples of its own needs a target of several names -/
def itOk : E → Tg → Bool
  | .enm _, .nm _ => false
  | .enmr _, .nm _ => false
  | .zip _ _, .nm _ => false
  | _, _ => true
/-- an expression that is no mere walk -/
def E.pl : E → Bool
  | .rng1 _ => false | .rng2 _ _ => false | .rng3 _ _ _ => false | .enm _ => false | .enmr _ => false | .zip _ _ => false | .rvd _ => false | .items _ => false | .vals _ => false
  | _ => true
inductive It where
  | seq (a : Nat)
  | tup (ds : List D)
  | str (s : List Nat)
  | rng (lo : Int) (n : Nat) (step : Int)
  | enm (it : It)
  | zip (a b : It)
  | rvl (a : Nat) (n : Nat)
inductive Nxt where
  | item (d : D) | stop | err
def It.next : It → Nat → Heap → Nxt
  | .seq a, i, h => match list? h (.ref a) with
    | some ds => (match ds[i]? with | some d => .item d | none => if i = ds.length then .stop else .err)
    | none => .err
  | .tup ds, i, _ => match ds[i]? with | some d => .item d | none => if i = ds.length then .stop else .err
  | .str s, i, _ => match s[i]? with | some c => .item (.str [c]) | none => if i = s.length then .stop else .err
  | .rng lo n step, i, _ => if i < n then .item (.int (lo + i * step)) else .stop
  | .enm it, i, h => match it.next i h with | .item d => .item (.tup [.int i, d]) | .stop => .stop | .err => .err
  | .zip a b, i, h => match a.next i h, b.next i h with
    | .item d, .item e => .item (.tup [d, e])
    | .err, _ => .err
    | _, .err => .err
    | _, _ => .stop
  | .rvl a n, i, h => match list? h (.ref a) with
    | some ds => if ds.length = n then (if i < n then (match ds[n - 1 - i]? with | some d => .item d | none => .err) else .stop) else .err
    | none => .err
def iterOf (h : Heap) : D → Option It
  | .tup ds => some (.tup ds)
  | .str s => some (.str s)
  | .ref a => match h.at a with
    | some (.lst _) => some (.seq a)
    | _ => none
  | _ => none
def rngSmall (i : Int) : Bool := decide (-(4611686018427387904 : Int) ≤ i) && decide (i < 4611686018427387904)
def rng3 (a b c : Int) : Option It :=
  if rngSmall a && rngSmall b && decide (c ≠ 0) && decide (c.natAbs < 1073741824) then
    some (.rng a (if 0 < c then (if a < b then ((b - a - 1) / c + 1).toNat else 0) else (if b < a then ((a - b - 1) / (-c) + 1).toNat else 0)) c)
  else none
/-- turns of a loop: step takes the item and the state -/
def turns {α : Type} (it : It) (heap : α → Heap) (step : D → α → Option (α ⊕ SRes)) : Nat → Nat → α → Option (α ⊕ SRes)
  | 0, _, _ => none
  | f + 1, i, s => match it.next i (heap s) with
    | .err => none
    | .stop => some (.inl s)
    | .item d => match step d s with
      | some (.inl s') => turns it heap step f (i + 1) s'
      | r => r
def wipe (env : Env) : List Nat → Env
  | [] => env
  | i :: is => (wipe env is).set i none
def cap (env : Env) : List Nat → Option (List D)
  | [] => some []
  | i :: is => match env[i]?, cap env is with
    | some (some d), some r => some (d :: r)
    | _, _ => none
def toldN (C : Ctx) (r : Res D) : Res D :=
  match r with
  | .ok d h => .ok (.tup [.str [118, 97, 108, 117, 101], d]) h
  | .exc c ds h => (match C.P.told c, ds with | some nm, [d] => .ok (.tup [.str nm, d]) h | _, _ => .err)
  | .err => .err
def idxF (x y : D) (h : Heap) : Res D :=
  match x, y with
  | .str s, .int i => (match idxN s.length i with | some k => (match s[k]? with | some c => .ok (.str [c]) h | none => .err) | none => .err)
  | .tup ds, .int i => (match idxN ds.length i with | some k => optR ds[k]? h | none => .err)
  | .ref a, _ => (match h.at a, y with
    | some (.lst ds), .int i => (match idxN ds.length i with | some k => optR ds[k]? h | none => .err)
    | some (.dic kvs), _ => if y.keyK then optR (lookD y kvs) h else .err
    | _, _ => .err)
  | _, _ => .err
/-- an end that is written, or none -/
def bndF (w : Bool) (d : D) : Option (Option Int) := match w, d with
  | false, .non => some none
  | true, .int i => some (some i)
  | _, _ => none
def slcV (x : D) (lo hi : Option Int) (h : Heap) : Res D :=
  match x with
  | .str s => .ok (.str (cut s lo hi)) h
  | .tup ds => .ok (.tup (cut ds lo hi)) h
  | .frz ds => mkLst (cut ds lo hi) h
  | _ => (match list? h x with | some ds => mkLst (cut ds lo hi) h | none => .err)
def E.wr : E → Bool
  | .cnon => false
  | _ => true
def fstF : List D → List Nat → Heap → Res D
  | [], acc, h => mkStr acc h
  | .str s :: ds, acc, h => fstF ds (acc ++ s) h
  | .int i :: ds, acc, h => if i.natAbs < 1000000000000000000 then fstF ds (acc ++ intStr i) h else .err
  | _ :: _, _, _ => .err
/-- what an expression is: a value, a test, something that is walked -/
structure Ev where
  v : Env → Heap → Res D
  t : Env → Heap → Res Bool
  i : Env → Heap → Res It
def truR (d : D) (h : Heap) : Res Bool := match truth h d with | some b => .ok b h | none => .err
def iterR (d : D) (h : Heap) : Res It := match iterOf h d with | some w => .ok w h | none => .err
def mkV (v : Env → Heap → Res D) : Ev := { v := v, t := fun env h => (v env h).bind truR, i := fun env h => (v env h).bind iterR }
def mkI (i : Env → Heap → Res It) : Ev := { v := fun _ _ => .err, t := fun _ _ => .err, i := i }
abbrev MV := Env → Heap → Res D
abbrev MT := Env → Heap → Res Bool
abbrev MI := Env → Heap → Res It
abbrev ML := Env → Heap → Res (List D)
def cC (d : D) : MV := fun _ h => .ok d h
def cVar (i : Nat) : MV := fun env h => (match env[i]? with | some (some d) => .ok d h | _ => .err)
def cGlb (C : Ctx) (k : Nat) : MV := fun _ h => (match C.P.consts[k]? with | some d => .ok d h | none => .err)
def cOp (f : D → D → Heap → Res D) (a b : MV) : MV := fun env h => (a env h).bind fun x h => (b env h).bind fun y h => f x y h
def cUn (f : D → Heap → Res D) (a : MV) : MV := fun env h => (a env h).bind fun x h => f x h
def negF (x : D) (h : Heap) : Res D := match x with | .int i => .ok (.int (-i)) h | _ => .err
def notF (x : D) (h : Heap) : Res D := match truth h x with | some b => .ok (.bl (!b)) h | none => .err
def cmpF (op : CmpOp) (x y : D) (h : Heap) : Res D := optR ((cmpop op x y h).map .bl) h
def cChain (o1 o2 : CmpOp) (a b c : MV) : MV := fun env h => (a env h).bind fun x h => (b env h).bind fun y h => (match cmpop o1 x y h with
      | some true => (c env h).bind fun z h => cmpF o2 y z h
      | some false => .ok (.bl false) h
      | none => .err)
def cAnd (a b : MV) : MV := fun env h => (a env h).bind fun x h => (match truth h x with | some true => b env h | some false => .ok x h | none => .err)
def cOr (a b : MV) : MV := fun env h => (a env h).bind fun x h => (match truth h x with | some true => .ok x h | some false => b env h | none => .err)
def cIf (t : MT) (a b : MV) : MV := fun env h => (t env h).bind fun c h => if c then a env h else b env h
def tNot (a : MT) : MT := fun env h => (a env h).bind fun b h => .ok (!b) h
def tAnd (a b : MT) : MT := fun env h => (a env h).bind fun c h => if c then b env h else .ok false h
def tOr (a b : MT) : MT := fun env h => (a env h).bind fun c h => if c then .ok true h else b env h
def cArgs : List MV → ML
  | [] => fun _ h => .ok [] h
  | a :: as => fun env h => (a env h).bind fun d h => (cArgs as env h).bind fun ds h => .ok (d :: ds) h
def cTests : List MT → MT
  | [] => fun _ h => .ok true h
  | a :: as => fun env h => (a env h).bind fun c h => if c then cTests as env h else .ok false h
def cApp (as : ML) (f : List D → Env → Heap → Res D) : MV := fun env h => (as env h).bind fun ds h => f ds env h
/-- a call of what a slot holds: it is looked at first -/
def cCalls (C : Ctx) (i : Nat) (as : ML) : MV := fun env h => match env[i]? with
  | some (some (.fn k)) => cApp as (fun ds _ h => C.call C.base k ds h) env h
  | some (some (.clo k cs)) => cApp as (fun ds _ h => C.call C.base k (ds ++ cs) h) env h
  | _ => .err
def newF (C : Ctx) (c : Nat) (ds : List D) (h : Heap) : Res D := match C.P.init c with
  | some k => (C.call C.base k (.ref h.length :: ds) (h ++ [.ins c []])).bind fun v h' => (match v with | .non => .ok (.ref h.length) h' | _ => .err)
  | none => .err
def cMeth (C : Ctx) (m : Nat) (o : MV) (as : ML) : MV := fun env h => (o env h).bind fun x h => (match x with
  | .ref a => (match h.at a with
    | some (.ins c _) => (match C.P.meth c m with | some k => (as env h).bind fun ds h => C.call C.base k (.ref a :: ds) h | none => .err)
    | _ => .err)
  | _ => .err)
inductive BT where
  | list | str | dict | int
  deriving DecidableEq
/-- the type whose method it is -/
def bmB (m : Bm) (x : D) : BT := match m with
  | .append => .list | .extend => .list | .pop => .list | .popAt => .list | .count => .list
  | .index => .list
  | .get => .dict
  | .bitlen => .int
  | _ => .str
def isBT (h : Heap) (x : D) : BT → Bool
  | .list => (match x with | .ref a => (match h.at a with | some (.lst _) => true | _ => false) | _ => false)
  | .dict => (match x with | .ref a => (match h.at a with | some (.dic _) => true | _ => false) | _ => false)
  | .str => (match x with | .str _ => true | _ => false)
  | .int => (match x with | .int _ => true | _ => false)
def cBm (base : Nat) (m : Bm) (o : MV) (as : ML) : MV := fun env h => (o env h).bind fun x h => if isBT h x (bmB m x) then (as env h).bind fun ds h => bmF base m x ds h else .err
/-- values whose type is known -/
def tyd (h : Heap) : D → Bool
  | .ref a => (match h.at a with | some (.lst _) => true | some (.dic _) => true | _ => false)
  | .fn _ => false
  | .clo _ _ => false
  | .frz _ => false
  | _ => true
def isiF (ts : List Ty) (x : D) (h : Heap) : Res D := if tyd h x then .ok (.bl (ts.any fun t => tyIs h x t)) h else .err
def attrF (f : Nat) (x : D) (h : Heap) : Res D := match x with
  | .ref a => (match h.at a with | some (.ins _ fs) => optR (getF f fs) h | _ => .err)
  | _ => .err
def partF (w : Bool) (m : MV) : Env → Heap → Res (Option Int) := fun env h => (m env h).bind fun d h => (match bndF w d with | some o => .ok o h | none => .err)
def cSlc (w1 w2 : Bool) (a lo hi : MV) : MV := fun env h => (a env h).bind fun x h => (partF w1 lo env h).bind fun l h => (partF w2 hi env h).bind fun u h => slcV x l u h
def revF (x : D) (h : Heap) : Res D := match x with
  | .str s => .ok (.str s.reverse) h
  | .tup ds => .ok (.tup ds.reverse) h
  | _ => (match list? h x with | some ds => mkLst ds.reverse h | none => .err)
def cDnew : MV := fun _ h => .ok (.ref h.length) (h ++ [.dic []])
def cDlit (ks vs : List MV) : MV := match ks, vs with
  | [k], [v] => fun env h => (k env (h ++ [.dic []])).bind fun kd h1 => (v env h1).bind fun vd h2 => if kd.keyK then (match h2.at h.length with
      | some (.dic []) => .ok (.ref h.length) (h2.set h.length (.dic [(kd, vd)]))
      | _ => .err) else .err
  | [], [] => cDnew
  | _, _ => fun _ _ => .err
/-- a turn of a comprehension whose list stands at p -/
def lcStep (p : Nat) (tg : Tg) (env : Env) (ifs : MT) (elt : MV) (d : D) (s : Heap) : Option (Heap ⊕ SRes) := match assign tg d s env with
  | none => none
  | some env' => (match ifs env' s with
    | .ok false s => some (.inl s)
    | .ok true s => (match elt env' s with
      | .ok y s => (match s.at p with
        | some (.lst acc) => if acc.length < sizeLine then some (.inl (s.set p (.lst (acc ++ [y])))) else none
        | _ => none)
      | _ => none)
    | _ => none)
def cLc (fuel : Nat) (own : List Nat) (tg : Tg) (it : MI) (ifs : MT) (elt : MV) : MV := fun env h => (it env h).bind fun w h =>
  (match turns w (fun s : Heap => s) (lcStep h.length tg (wipe env own) ifs elt) fuel 0 (h ++ [.lst []]) with
    | some (.inl s) => .ok (.ref h.length) s
    | _ => .err)
def addD (l : List D) (k : D) : List D := if l.any (fun a => eqB a k) then l else l ++ [k]
/-- ints alone -/
def ints? : List D → Option (List Int)
  | [] => some []
  | .int i :: ds => match ints? ds with | some r => some (i :: r) | none => none
  | _ => none
/-- into a rising row, once -/
def insI (x : Int) : List Int → List Int
  | [] => [x]
  | y :: ys => if x < y then x :: y :: ys else if x = y then y :: ys else y :: insI x ys
def srtsetF (x : D) (h : Heap) : Res D := match list? h x with
  | some ds => (match ints? ds with | some is => (if is.length ≤ 60 then mkLst ((is.foldl (fun a x => insI x a) []).map .int) h else .err) | none => .err)
  | none => .err
def lensetF (x : D) (h : Heap) : Res D := match items? h x with
  | some ds => (if ds.all D.keyK && decide (ds.length ≤ 4000) then .ok (.int (ds.foldl addD []).length) h else .err)
  | none => .err
/-- len(set(x)), sorted(set(x)) -/
def setF2 (b : Bool) : D → Heap → Res D := match b with | true => srtsetF | false => lensetF
def cTold (C : Ctx) (a : MV) : MV := fun env h => if C.tl then toldN C (a env h) else .err
def iRng1 (a : MV) : MI := fun env h => (a env h).bind fun x h => (match x with | .int j => (if rngSmall j then .ok (.rng 0 j.toNat 1) h else .err) | _ => .err)
def iRng2 (a b : MV) : MI := fun env h => (a env h).bind fun x h => (b env h).bind fun y h => (match x, y with
  | .int i, .int j => (if rngSmall i && rngSmall j then .ok (.rng i (j - i).toNat 1) h else .err) | _, _ => .err)
def iRng3 (a b c : MV) : MI := fun env h => (a env h).bind fun x h => (b env h).bind fun y h => (c env h).bind fun z h => (match x, y, z with
  | .int i, .int j, .int k => (match rng3 i j k with | some w => .ok w h | none => .err) | _, _, _ => .err)
def iEnm (a : MV) : MI := fun env h => (a env h).bind fun x h => (iterR x h).bind fun w h => .ok (.enm w) h
/-- enumerate(reversed(text)) -/
def iEnmR (a : MV) : MI := fun env h => (a env h).bind fun x h => (match x with | .str s => .ok (.enm (.str s.reverse)) h | _ => .err)
/-- zip: of values -/
def iZip (a b : MV) : MI := fun env h => (a env h).bind fun x h => (b env h).bind fun y h => (iterR x h).bind fun v h => (iterR y h).bind fun w h => .ok (.zip v w) h
/-- reversed: of a list or a tuple -/
def rvdR (x : D) (h : Heap) : Res It := match x with
  | .tup ds => .ok (.tup ds.reverse) h
  | .ref a => (match h.at a with | some (.lst ds) => .ok (.rvl a ds.length) h | _ => .err)
  | _ => .err
def iItems (a : MV) : MI := fun env h => (a env h).bind fun x h => (match x with
  | .ref a => (match h.at a with | some (.dic kvs) => .ok (.tup (kvs.map fun kv => .tup [kv.1, kv.2])) h | _ => .err) | _ => .err)
def iVals (a : MV) : MI := fun env h => (a env h).bind fun x h => (match x with
  | .ref a => (match h.at a with | some (.dic kvs) => .ok (.tup (kvs.map (·.2))) h | _ => .err) | _ => .err)
mutual
def ev (C : Ctx) : E → Ev
  | .cint i => mkV (cC (.int i))
  | .cstr s => mkV (cC (.str s))
  | .cbl b => mkV (cC (.bl b))
  | .cnon => mkV (cC .non)
  | .var i => mkV (cVar i)
  | .glb k => mkV (cGlb C k)
  | .fnv k => mkV (cC (.fn k))
  | .bin op a b => mkV (cOp (binop op) (ev C a).v (ev C b).v)
  | .neg a => mkV (cUn negF (ev C a).v)
  | .notv a => { mkV (cUn notF (ev C a).v) with t := tNot (ev C a).t }
  | .cmp op a b => mkV (cOp (cmpF op) (ev C a).v (ev C b).v)
  | .chain o1 o2 a b c => mkV (cChain o1 o2 (ev C a).v (ev C b).v (ev C c).v)
  | .andv a b => { mkV (cAnd (ev C a).v (ev C b).v) with t := tAnd (ev C a).t (ev C b).t }
  | .orv a b => { mkV (cOr (ev C a).v (ev C b).v) with t := tOr (ev C a).t (ev C b).t }
  | .ife t a b => mkV (cIf (ev C t).t (ev C a).v (ev C b).v)
  | .call k es => mkV (cApp (cArgs (evs C es)) fun ds _ h => C.call C.base k ds h)
  | .calls i es => mkV (cCalls C i (cArgs (evs C es)))
  | .new c es => mkV (cApp (cArgs (evs C es)) fun ds _ h => newF C c ds h)
  | .mth m o es => mkV (cMeth C m (ev C o).v (cArgs (evs C es)))
  | .bi b es => mkV (cApp (cArgs (evs C es)) fun ds _ h => biF b ds h)
  | .bm m o es => mkV (cBm C.base m (ev C o).v (cArgs (evs C es)))
  | .isi a ts => mkV (cUn (isiF ts) (ev C a).v)
  | .attr o f => mkV (cUn (attrF f) (ev C o).v)
  | .idx a i => mkV (cOp idxF (ev C a).v (ev C i).v)
  | .slc a lo hi => mkV (cSlc lo.wr hi.wr (ev C a).v (ev C lo).v (ev C hi).v)
  | .rev a => mkV (cUn revF (ev C a).v)
  | .tup es => mkV (cApp (cArgs (evs C es)) fun ds _ h => mkTup ds h)
  | .lst es => mkV (cApp (cArgs (evs C es)) fun ds _ h => mkLst ds h)
  | .dnk => mkV cDnew
  | .dnt => mkV cDnew
  | .dlit ks vs => mkV (cDlit (evs C ks) (evs C vs))
  | .lc own tg it ifs elt => mkV (cLc C.P.fuel own tg (ev C it).i (cTests (evt C ifs)) (ev C elt).v)
  | .lenset b a => mkV (cUn (setF2 b) (ev C a).v)
  | .mind a z => mkV (cApp (cArgs [(ev C a).v, (ev C z).v]) fun ds _ h => biF .minD ds h)
  | .maxd a z => mkV (cApp (cArgs [(ev C a).v, (ev C z).v]) fun ds _ h => biF .maxD ds h)
  | .told e => mkV (cTold C (ev C.dn e).v)
  | .fst es => mkV (cApp (cArgs (evs C es)) fun ds _ h => fstF ds [] h)
  | .rng1 a => mkI (iRng1 (ev C a).v)
  | .rng2 a b => mkI (iRng2 (ev C a).v (ev C b).v)
  | .rng3 a b c => mkI (iRng3 (ev C a).v (ev C b).v (ev C c).v)
  | .enm a => mkI (iEnm (ev C a).v)
  | .zip a b => mkI (iZip (ev C a).v (ev C b).v)
  | .enmr a => mkI (iEnmR (ev C a).v)
  | .rvd a => mkI fun env h => ((ev C a).v env h).bind rvdR
  | .items a => mkI (iItems (ev C a).v)
  | .vals a => mkI (iVals (ev C a).v)
def evs (C : Ctx) : List E → List MV
  | [] => []
  | e :: es => (ev C e).v :: evs C es
def evt (C : Ctx) : List E → List MT
  | [] => []
  | e :: es => (ev C e).t :: evt C es
end
abbrev evalE (C : Ctx) (e : E) : MV := (ev C e).v
abbrev evalT (C : Ctx) (e : E) : MT := (ev C e).t
abbrev evalI (C : Ctx) (e : E) : MI := (ev C e).i
abbrev evalEs (C : Ctx) (es : List E) : ML := cArgs (evs C es)
def ofRes (r : Res D) (f : D → Heap → SRes) : SRes :=
  match r with
  | .ok d h => f d h
  | .exc c ds h => .exc c ds h
  | .err => .err
def setItem (base : Nat) (o i d : D) (h : Heap) : Option Heap :=
  match o with
  | .ref a => (match h.at a, i with
    | some (.lst xs), .int i => (match idxN xs.length i with | some k => setO base h a (.lst (xs.set k d)) | none => none)
    | some (.dic kvs), k => if k.keyK && decide (kvs.length < sizeLine) then setO base h a (.dic (putD k d kvs)) else none
    | _, _ => none)
  | _ => none
def setAttr (base : Nat) (o : D) (f : Nat) (d : D) (h : Heap) : Option Heap :=
  match o with
  | .ref a => (match h.at a with
    | some (.ins c fs) => if fs.length < 900 then setO base h a (.ins c (setF f d fs)) else none
    | _ => none)
  | _ => none
def delItem (base : Nat) (o i : D) (h : Heap) : Option Heap :=
  match o with
  | .ref a => (match h.at a with
    | some (.dic kvs) => if i.keyK && (lookD i kvs).isSome then setO base h a (.dic (remD i kvs)) else none
    | _ => none)
  | _ => none
def nxO (env : Env) (o : Option Heap) : SRes := match o with | some h => .nx env h | none => .err
def dropClo : Env → Env
  | [] => []
  | some (.clo _ _) :: r => none :: dropClo r
  | d :: r => d :: dropClo r
def raiseF (P : Prog) (c : Nat) (d : D) (h : Heap) : SRes := if P.xtup c then (match items? h d with | some xs => .exc c [.tup xs] h | none => .err) else .exc c [d] h
/-- a while: the test, the body -/
def loopW (test : Env → Heap → Res Bool) (body : Env → Heap → SRes) : Nat → Env → Heap → SRes
  | 0, _, _ => .err
  | f + 1, env, h => match test env h with
    | .ok true h => (match body env h with
      | .nx env h => loopW test body f env h
      | .cnt env h => loopW test body f env h
      | .brk env h => .nx env h
      | r => r)
    | .ok false h => .nx env h
    | .exc c ds h => .exc c ds h
    | .err => .err
def finT : Option ((Env × Heap) ⊕ SRes) → SRes
  | some (.inl s) => .nx s.1 s.2
  | some (.inr r) => r
  | none => .err
def stepF (tg : Tg) (body : Env → Heap → SRes) (d : D) (s : Env × Heap) : Option ((Env × Heap) ⊕ SRes) := match assign tg d s.2 s.1 with
  | none => none
  | some env' => (match body env' s.2 with
    | .nx env h => some (.inl (env, h))
    | .cnt env h => some (.inl (env, h))
    | .brk env h => some (.inr (.nx env h))
    | .err => none
    | r => some (.inr r))
def loopF (tg : Tg) (it : MI) (body : Env → Heap → SRes) (fuel : Nat) (env : Env) (h : Heap) : SRes := match it env h with
  | .ok w h => finT (turns w (fun s : Env × Heap => s.2) (stepF tg body) fuel 0 (env, h))
  | .exc c ds h => .exc c ds h
  | .err => .err
def iteS (t : MT) (a b : Env → Heap → SRes) (env : Env) (h : Heap) : SRes := match t env h with
  | .ok true h => a env h
  | .ok false h => b env h
  | .exc c ds h => .exc c ds h
  | .err => .err
def seqS (a b : Env → Heap → SRes) (env : Env) (h : Heap) : SRes := match a env h with
  | .nx env h => b env h
  | r => r
mutual
def execS (C : Ctx) : S → Env → Heap → SRes
  | .expr e, env, h => ofRes (evalE C e env h) fun _ h => .nx env h
  | .set i e, env, h => ofRes (evalE C e env h) fun d h => .nx (env.put i d) h
  | .asg tg e, env, h => ofRes (evalE C e env h) fun d h => (match assign tg d h env with | some env' => .nx env' h | none => .err)
  | .par i j a b, env, h => ofRes (evalE C a env h) fun x h => ofRes (evalE C b env h) fun y h => .nx ((env.put i x).put j y) h
  | .seti o i e, env, h => ofRes (evalE C e env h) fun d h => ofRes (evalE C o env h) fun x h => ofRes (evalE C i env h) fun k h => nxO env (setItem C.base x k d h)
  | .seta o f e, env, h => ofRes (evalE C e env h) fun d h => ofRes (evalE C o env h) fun x h => nxO env (setAttr C.base x f d h)
  | .aug i op e, env, h => (match env[i]? with
      | some (some x) => ofRes (evalE C e env h) fun y h => ofRes (augop op x y h) fun d h => .nx (env.put i d) h
      | _ => .err)
  | .auga o f op e, env, h => ofRes (evalE C o env h) fun x h => (match x with
      | .ref a => (match h.at a with
        | some (.ins _ fs) => (match getF f fs with
          | some v => ofRes (evalE C e env h) fun y h => ofRes (augop op v y h) fun d h => nxO env (setAttr C.base x f d h)
          | none => .err)
        | _ => .err)
      | _ => .err)
  | .augi o i op e, env, h => ofRes (evalE C o env h) fun x h => ofRes (evalE C i env h) fun k h => ofRes (idxF x k h) fun v h =>
      ofRes (evalE C e env h) fun y h => ofRes (augop op v y h) fun d h => nxO env (setItem C.base x k d h)
  | .ite t a b, env, h => iteS (evalT C t) (execSs C a) (execSs C b) env h
  | .whl t b, env, h => loopW (evalT C t) (execSs C b) C.P.fuel env h
  | .for_ tg it b, env, h => loopF tg (evalI C it) (execSs C b) C.P.fuel env h
  | .ret e, env, h => ofRes (evalE C e env h) fun d h => .ret d h
  | .retn, _, h => .ret .non h
  | .raise c e, env, h => ofRes (evalE C e env h) fun d h => raiseF C.P c d h
  | .brk, env, h => .brk env h
  | .cnt, env, h => .cnt env h
  | .pass, env, h => .nx env h
  | .ndef i k cs, env, h => (match cap env cs with | some ds => .nx (env.put i (.clo k ds)) h | none => .err)
  | .deli o i, env, h => ofRes (evalE C o env h) fun x h => ofRes (evalE C i env h) fun k h => nxO env (delItem C.base x k h)
def execSs (C : Ctx) : List S → Env → Heap → SRes
  | [], env, h => .nx env h
  | s :: ss, env, h => seqS (execS C s) (execSs C ss) env h
end
/-- what a pure def leaves: the callers' heap as it was, and what it hands back -/
def compact (h : Heap) (d : D) (h' : Heap) : Res D :=
  if d.under h.length then .ok d h
  else match d with
    | .ref a => (match h'.at a with
      | some (.lst ds) => if D.unders h.length ds then .ok (.ref h.length) (h ++ [.lst ds]) else .ok d h'
      | _ => .ok d h')
    | _ => .ok d h'
def fin (pure : Bool) (h : Heap) (d : D) (h' : Heap) : Res D := if pure then compact h d h' else .ok d h'
abbrev CallT := Nat → Nat → List D → Heap → Res D
def noCall : CallT := fun _ _ _ _ => .err
def bodyF (P : Prog) (call low : CallT) (tl : Bool) (base k : Nat) (ds : List D) (h : Heap) : Res D :=
  match P.fns[k]? with
  | none => .err
  | some f =>
    if ds.length = f.np then
      (match execSs { P := P, call := call, base := if f.pure then h.length else base, low := low, tl := tl && f.lam } f.body (ds.map some ++ List.replicate (f.ns - f.np) none) h with
      | .nx _ h' => fin f.pure h .non h'
      | .ret d h' => fin f.pure h d h'
      | .exc c ds h' => if f.pure then (if D.unders h.length ds then .exc c ds h else .err) else .exc c ds h'
      | _ => .err)
    else .err
def callF (P : Prog) : Nat → CallT
  | 0 => noCall
  | 1 => bodyF P noCall noCall false
  | n + 2 => bodyF P (callF P (n + 1)) (callF P n) true
end Y
set_option Elab.async false
set_option linter.all false
set_option maxRecDepth 100000
set_option maxHeartbeats 4000000
namespace Y
open PySem PySem.Spec PyProof.Rows
open L2 (V Hp upd upd_same upd_ne ne_of ne_of_none RelV Vals SqL SqT Rd Cx Inv PE PT PS PSs PA PG PI TE TT TS TA TG TI VK XK Ends EP)
abbrev Sg := L2.St
/-- the words of a program -/
structure Nm where
  /-- constants -/
  cn : List Str
  /-- defs (of the module; a method's place bears no name that anybody writes) -/
  fn : List Str
  /-- classes that are made -/
  cl : List Str
  /-- classes of errors -/
  xl : List Str
  /-- attributes -/
  an : List Str
  /-- methods -/
  mn : List Str
  /-- methods called through their class: class, method, def -/
  ck : List (Str × Str × Nat) := []
structure Lk where
  nm : Nm
  fd : Nat → FuncData
  ps : Nat → List Str
  /-- def k stands at -/
  fa : Nat → Addr
  /-- class c stands at -/
  ca : Nat → Addr
  /-- the attribute that an error of class c keeps -/
  xn : Nat → Str
  /-- classes of one's own that are made -/
  own : Nat → Bool
  /-- the tables of code objects -/
  tb : List (Addr × Str)
def toS (s : List Nat) : Str := ⟨s.toArray⟩
/-- texts are plain and not too long -/
def okS (s : List Nat) : Prop := s.length ≤ PySem.sizeLine ∧ ∀ c ∈ s, c < 128
/-- a list that nobody changes -/
def SqF (K : PySem.W.Frag) (H : Hp) (a : Addr) (xs : List V) : Prop := (∃ o, H a = some (.frz o (.lst xs))) ∨ ∀ H', SqL K H' a xs
variable (L : Lk) (K : PySem.W.Frag)
mutual
def RelD (H : Hp) (r : List Addr) : D → V → Prop
  | .non, v => v = .non
  | .bl b, v => v = .bl b
  | .int i, v => v = .int i
  | .str s, v => v = .str (toS s) ∧ okS s
  | .tup ds, v => ∃ p xs, v = .ref p ∧ SqT K H p xs ∧ RelDs H r ds xs
  | .ref a, v => ∃ p, v = .ref p ∧ r[a]? = some p
  | .fn k, v => v = .ref (L.fa k) ∧ ∃ x, L.nm.fn[k]? = some x ∧ x ≠ Str.empty
  | .clo _ _, _ => False
  | .frz ds, v => ∃ p xs, v = .ref p ∧ SqF K H p xs ∧ RelDs H r ds xs
def RelDs (H : Hp) (r : List Addr) : List D → List V → Prop
  | [], xs => xs = []
  | d :: ds, xs => ∃ x ys, xs = x :: ys ∧ RelD H r d x ∧ RelDs H r ds ys
end
/-- what is never changed -/
def Stay : L2.HO → Prop
  | .tup _ => True
  | .frz _ _ => True
  | .ext _ => True
  | _ => False
def Keep (H H' : Hp) : Prop := ∀ b o, H b = some o → Stay o → H' b = some o
theorem Keep.refl (H : Hp) : Keep H H := fun _ _ h _ => h
theorem Keep.trans {H H1 H2 : Hp} (a : Keep H H1) (b : Keep H1 H2) : Keep H H2 := fun c o h s => b c o (a c o h s) s
theorem Keep.new {H : Hp} {p : Addr} {o : L2.HO} (n : H p = none) : Keep H (upd H p o) := fun b o' h _ => by
  rw [upd_ne (ne_of_none h n)]; exact h
theorem Keep.put {H : Hp} {p : Addr} {o u : L2.HO} (e : H p = some u) (m : ¬ Stay u) : Keep H (upd H p o) := fun b o' h s => by
  have hb : b ≠ p := by rintro rfl; rw [e] at h; cases h; exact m s
  rw [upd_ne hb]; exact h
theorem Keep.sqT {H H' : Hp} {p : Addr} {xs : List V} (k : Keep H H') (h : SqT K H p xs) : SqT K H' p xs := by
  rcases h with (h | ⟨o, h⟩) | h
  · exact .inl (.inl (k _ _ h trivial))
  · exact .inl (.inr ⟨o, k _ _ h trivial⟩)
  · exact .inr h
theorem Keep.sqF {H H' : Hp} {p : Addr} {xs : List V} (k : Keep H H') (h : SqF K H p xs) : SqF K H' p xs := by
  rcases h with ⟨o, h⟩ | h
  · exact .inl ⟨o, k _ _ h trivial⟩
  · exact .inr h
theorem SqF.l {H : Hp} {p : Addr} {xs : List V} (h : SqF K H p xs) : SqL K H p xs := by
  rcases h with ⟨o, h⟩ | h
  · exact .inl (.inr ⟨o, h⟩)
  · exact h H
variable {L K}
mutual
theorem RelD.mono {H H' : Hp} {r r' : List Addr} (k : Keep H H') (p : r <+: r') : ∀ {d : D} {v : V}, RelD L K H r d v → RelD L K H' r' d v
  | .non, _, h => h
  | .bl _, _, h => h
  | .int _, _, h => h
  | .str _, _, h => h
  | .tup ds, v, h => by
    unfold RelD at h ⊢
    obtain ⟨q, xs, e, s, g⟩ := h
    exact ⟨q, xs, e, k.sqT _ s, RelDs.mono k p g⟩
  | .ref a, v, h => by
    unfold RelD at h ⊢
    obtain ⟨q, e, g⟩ := h
    refine ⟨q, e, ?_⟩
    obtain ⟨t, rfl⟩ := p
    rw [List.getElem?_append_left (List.getElem?_eq_some_iff.mp g).1]
    exact g
  | .fn _, _, h => h
  | .clo _ _, _, h => h
  | .frz ds, v, h => by
    unfold RelD at h ⊢
    obtain ⟨q, xs, e, s, g⟩ := h
    exact ⟨q, xs, e, k.sqF _ s, RelDs.mono k p g⟩
theorem RelDs.mono {H H' : Hp} {r r' : List Addr} (k : Keep H H') (p : r <+: r') : ∀ {ds : List D} {vs : List V}, RelDs L K H r ds vs → RelDs L K H' r' ds vs
  | [], _, h => h
  | d :: ds, vs, h => by
    unfold RelDs at h ⊢
    obtain ⟨x, ys, e, g1, g2⟩ := h
    exact ⟨x, ys, e, RelD.mono k p g1, RelDs.mono k p g2⟩
end
mutual
/-- the references of d are among r already -/
theorem RelD.shrink {H H0 : Hp} {r r' : List Addr} (p : r <+: r') : ∀ {d : D} {v v0 : V}, RelD L K H r' d v → RelD L K H0 r d v0 → RelD L K H r d v
  | .non, _, _, h, _ => h
  | .bl _, _, _, h, _ => h
  | .int _, _, _, h, _ => h
  | .str _, _, _, h, _ => h
  | .tup ds, v, v0, h, g => by
    unfold RelD at h g ⊢
    obtain ⟨q, xs, e, s, h⟩ := h
    obtain ⟨q0, xs0, e0, s0, g⟩ := g
    exact ⟨q, xs, e, s, RelDs.shrink p h g⟩
  | .ref a, v, v0, h, g => by
    unfold RelD at h g ⊢
    obtain ⟨q, e, h⟩ := h
    obtain ⟨q0, e0, g⟩ := g
    obtain ⟨t, rfl⟩ := p
    rw [List.getElem?_append_left (List.getElem?_eq_some_iff.mp g).1] at h
    exact ⟨q, e, h⟩
  | .fn _, _, _, h, _ => h
  | .clo _ _, _, _, h, _ => h
  | .frz ds, v, v0, h, g => by
    unfold RelD at h g ⊢
    obtain ⟨q, xs, e, s, h⟩ := h
    obtain ⟨q0, xs0, e0, s0, g⟩ := g
    exact ⟨q, xs, e, s, RelDs.shrink p h g⟩
theorem RelDs.shrink {H H0 : Hp} {r r' : List Addr} (p : r <+: r') : ∀ {ds : List D} {vs vs0 : List V}, RelDs L K H r' ds vs → RelDs L K H0 r ds vs0 → RelDs L K H r ds vs
  | [], _, _, h, _ => h
  | d :: ds, vs, vs0, h, g => by
    unfold RelDs at h g ⊢
    obtain ⟨x, ys, e, h1, h2⟩ := h
    obtain ⟨x0, ys0, e0, g1, g2⟩ := g
    exact ⟨x, ys, e, RelD.shrink p h1 g1, RelDs.shrink p h2 g2⟩
end
mutual
/-- .. told by the check -/
theorem RelD.under {H : Hp} {r r' : List Addr} {n : Nat} (p : r <+: r') (hn : r.length = n) : ∀ {d : D} {v : V}, RelD L K H r' d v → d.under n = true → RelD L K H r d v
  | .non, _, h, _ => h
  | .bl _, _, h, _ => h
  | .int _, _, h, _ => h
  | .str _, _, h, _ => h
  | .tup ds, v, h, g => by
    unfold RelD at h ⊢
    unfold D.under at g
    obtain ⟨q, xs, e, s, h⟩ := h
    exact ⟨q, xs, e, s, RelDs.under p hn h g⟩
  | .ref a, v, h, g => by
    unfold RelD at h ⊢
    unfold D.under at g
    obtain ⟨q, e, h⟩ := h
    obtain ⟨t, rfl⟩ := p
    rw [List.getElem?_append_left (by have := of_decide_eq_true g; omega)] at h
    exact ⟨q, e, h⟩
  | .fn _, _, h, _ => h
  | .clo _ _, _, h, _ => h
  | .frz ds, v, h, g => by
    unfold RelD at h ⊢
    unfold D.under at g
    obtain ⟨q, xs, e, s, h⟩ := h
    exact ⟨q, xs, e, s, RelDs.under p hn h g⟩
theorem RelDs.under {H : Hp} {r r' : List Addr} {n : Nat} (p : r <+: r') (hn : r.length = n) : ∀ {ds : List D} {vs : List V}, RelDs L K H r' ds vs → D.unders n ds = true → RelDs L K H r ds vs
  | [], _, h, _ => h
  | d :: ds, vs, h, g => by
    unfold RelDs at h ⊢
    unfold D.unders at g
    obtain ⟨x, ys, e, h1, h2⟩ := h
    obtain ⟨g1, g2⟩ := Bool.and_eq_true_iff.mp g
    exact ⟨x, ys, e, RelD.under p hn h1 g1, RelDs.under p hn h2 g2⟩
end
theorem RelDs.length {H : Hp} {r : List Addr} : ∀ {ds : List D} {vs : List V}, RelDs L K H r ds vs → ds.length = vs.length
  | [], _, h => by unfold RelDs at h; subst h; rfl
  | d :: ds, vs, h => by
    unfold RelDs at h
    obtain ⟨x, ys, e, _, h2⟩ := h
    subst e
    rw [List.length_cons, List.length_cons, RelDs.length h2]
theorem RelDs.get {H : Hp} {r : List Addr} : ∀ {ds : List D} {vs : List V} {i : Nat} {d : D}, RelDs L K H r ds vs → ds[i]? = some d → ∃ v, vs[i]? = some v ∧ RelD L K H r d v
  | [], _, _, _, _, e => by simp at e
  | c :: ds, vs, 0, d, h, e => by
    unfold RelDs at h
    obtain ⟨x, ys, rfl, h1, _⟩ := h
    simp at e; subst e
    exact ⟨x, rfl, h1⟩
  | c :: ds, vs, i + 1, d, h, e => by
    unfold RelDs at h
    obtain ⟨x, ys, rfl, _, h2⟩ := h
    obtain ⟨v, e1, h3⟩ := RelDs.get (i := i) (d := d) h2 (by simpa using e)
    exact ⟨v, by simpa using e1, h3⟩
theorem RelDs.append {H : Hp} {r : List Addr} : ∀ {as : List D} {xs : List V} {bs : List D} {ys : List V}, RelDs L K H r as xs → RelDs L K H r bs ys → RelDs L K H r (as ++ bs) (xs ++ ys)
  | [], _, _, _, h, g => by unfold RelDs at h; subst h; exact g
  | a :: as, xs, bs, ys, h, g => by
    unfold RelDs at h
    obtain ⟨x, zs, rfl, h1, h2⟩ := h
    show RelDs L K H r (a :: (as ++ bs)) (x :: (zs ++ ys))
    unfold RelDs
    exact ⟨x, zs ++ ys, rfl, h1, h2.append g⟩
theorem RelDs.nil {H : Hp} {r : List Addr} : RelDs L K H r [] [] := by unfold RelDs; rfl
theorem RelDs.cons {H : Hp} {r : List Addr} {d : D} {v : V} {ds : List D} {vs : List V} (h : RelD L K H r d v) (g : RelDs L K H r ds vs) : RelDs L K H r (d :: ds) (v :: vs) := by
  unfold RelDs; exact ⟨v, vs, rfl, h, g⟩
theorem RelDs.set {H : Hp} {r : List Addr} {d : D} {v : V} (h : RelD L K H r d v) : ∀ {ds : List D} {vs : List V} (i : Nat), RelDs L K H r ds vs → RelDs L K H r (ds.set i d) (vs.set i v)
  | [], _, _, g => by unfold RelDs at g; subst g; exact .nil
  | c :: ds, vs, 0, g => by
    unfold RelDs at g
    obtain ⟨x, ys, rfl, _, g2⟩ := g
    exact .cons h g2
  | c :: ds, vs, i + 1, g => by
    unfold RelDs at g
    obtain ⟨x, ys, rfl, g1, g2⟩ := g
    exact .cons g1 (RelDs.set h i g2)
theorem RelDs.drop {H : Hp} {r : List Addr} : ∀ {ds : List D} {vs : List V} (n : Nat), RelDs L K H r ds vs → RelDs L K H r (ds.drop n) (vs.drop n)
  | _, _, 0, h => h
  | [], vs, n + 1, h => by unfold RelDs at h; subst h; exact .nil
  | d :: ds, vs, n + 1, h => by
    unfold RelDs at h
    obtain ⟨x, ys, rfl, _, g⟩ := h
    exact RelDs.drop n g
theorem RelDs.take {H : Hp} {r : List Addr} : ∀ {ds : List D} {vs : List V} (n : Nat), RelDs L K H r ds vs → RelDs L K H r (ds.take n) (vs.take n)
  | _, _, 0, _ => .nil
  | [], vs, n + 1, h => by unfold RelDs at h; subst h; exact .nil
  | d :: ds, vs, n + 1, h => by
    unfold RelDs at h
    obtain ⟨x, ys, rfl, g1, g⟩ := h
    exact .cons g1 (RelDs.take n g)
theorem RelDs.reverse {H : Hp} {r : List Addr} : ∀ {ds : List D} {vs : List V}, RelDs L K H r ds vs → RelDs L K H r ds.reverse vs.reverse
  | [], vs, h => by unfold RelDs at h; subst h; exact .nil
  | d :: ds, vs, h => by
    unfold RelDs at h
    obtain ⟨x, ys, rfl, g1, g⟩ := h
    rw [List.reverse_cons, List.reverse_cons]
    exact (RelDs.reverse g).append (.cons g1 .nil)
theorem RelDs.dropLast {H : Hp} {r : List Addr} {ds : List D} {vs : List V} (h : RelDs L K H r ds vs) : RelDs L K H r ds.dropLast vs.dropLast := by
  rw [List.dropLast_eq_take, List.dropLast_eq_take, ← h.length]
  exact h.take _
theorem RelDs.eraseIdx {H : Hp} {r : List Addr} {ds : List D} {vs : List V} (h : RelDs L K H r ds vs) (k : Nat) : RelDs L K H r (ds.eraseIdx k) (vs.eraseIdx k) := by
  rw [List.eraseIdx_eq_take_drop_succ, List.eraseIdx_eq_take_drop_succ]
  exact (h.take _).append (h.drop _)
/-- a dict's pairs, keys ints and texts -/
def RelK (H : Hp) (r : List Addr) : List (D × D) → List (L2.Key × V) → Prop
  | [], ks => ks = []
  | (k, d) :: kvs, ks => ∃ j v t, ks = (j, v) :: t ∧ ((∃ i, k = .int i ∧ j = .inl i) ∨ (∃ s, k = .str s ∧ j = .inr (toS s))) ∧ RelD L K H r d v ∧ RelK H r kvs t
/-- an instance's fields -/
def RelF (H : Hp) (r : List Addr) : List (Nat × D) → List (Str × V) → Prop
  | [], ks => ks = []
  | (f, d) :: fs, ks => ∃ v t, ks = (L.nm.an.getD f Str.empty, v) :: t ∧ RelD L K H r d v ∧ RelF H r fs t
variable (L K)
def ORel (H : Hp) (r : List Addr) : HV → Addr → Prop
  | .lst ds, p => ∃ vs, H p = some (.lst vs) ∧ RelDs L K H r ds vs
  | .dic kvs, p => ∃ ks, H p = some (.dK ks) ∧ RelK (L := L) (K := K) H r kvs ks
  | .st _, _ => False
  | .ins c fs, p => L.own c = true ∧ ∃ dx ks, H p = some (.ins (L.ca c) dx ks) ∧ RelF (L := L) (K := K) H r fs ks
structure HR (r : List Addr) (h : Heap) (H : Hp) : Prop where
  len : r.length = h.length
  nd : r.Nodup
  at_ : ∀ (i : Nat) (o : HV) (p : Addr), h[i]? = some o → r[i]? = some p → ORel L K H r o p
  tab : LamX.Tabs L.tb H
structure SR (env : Env) (h : Heap) (r : List Addr) (σ : Sg) (H : Hp) : Prop where
  hr : HR L K r h H
  len : env.length = σ.length
  er : ∀ (i : Nat) (d : D), env[i]? = some (some d) → ∃ v, σ[i]? = some (some v) ∧ RelD L K H r d v
end Y
set_option Elab.async false
set_option linter.all false
set_option maxRecDepth 100000
set_option maxHeartbeats 4000000
namespace Y
open PySem PySem.Spec PyProof.Rows
open L2 (V Hp upd upd_same upd_ne ne_of ne_of_none RelV Vals SqL SqT Rd Cx Inv PE PT PS PSs PA PG PI TE TT TS TA TG TI VK XK Ends EP)
variable {L : Lk} {K : PySem.W.Frag}
theorem RelK.mono {H H' : Hp} {r r' : List Addr} (k : Keep H H') (p : r <+: r') : ∀ {kvs : List (D × D)} {ks : List (L2.Key × V)}, RelK (L := L) (K := K) H r kvs ks → RelK (L := L) (K := K) H' r' kvs ks
  | [], _, h => h
  | (a, d) :: kvs, ks, h => by
    unfold RelK at h ⊢
    obtain ⟨j, v, t, e, g1, g2, g3⟩ := h
    exact ⟨j, v, t, e, g1, g2.mono k p, RelK.mono k p g3⟩
theorem RelF.mono {H H' : Hp} {r r' : List Addr} (k : Keep H H') (p : r <+: r') : ∀ {fs : List (Nat × D)} {ks : List (Str × V)}, RelF (L := L) (K := K) H r fs ks → RelF (L := L) (K := K) H' r' fs ks
  | [], _, h => h
  | (a, d) :: fs, ks, h => by
    unfold RelF at h ⊢
    obtain ⟨v, t, e, g2, g3⟩ := h
    exact ⟨v, t, e, g2.mono k p, RelF.mono k p g3⟩
theorem ORel.mono {H H' : Hp} {r r' : List Addr} {o : HV} {p : Addr} (k : Keep H H') (pr : r <+: r') (e : H' p = H p) (h : ORel L K H r o p) : ORel L K H' r' o p := by
  cases o with
  | lst ds => obtain ⟨vs, h1, h2⟩ := h; exact ⟨vs, e.trans h1, h2.mono k pr⟩
  | dic kvs => obtain ⟨ks, h1, h2⟩ := h; exact ⟨ks, e.trans h1, h2.mono k pr⟩
  | st ks => exact (show False from h).elim
  | ins c fs => obtain ⟨ho, dx, ks, h1, h2⟩ := h; exact ⟨ho, dx, ks, e.trans h1, h2.mono k pr⟩
/-- what my heap tells can be written, and is nothing else -/
theorem ORel.muta {H : Hp} {r : List Addr} {o : HV} {p : Addr} (h : ORel L K H r o p) : ∃ u, H p = some u ∧ ¬ Stay u ∧ ∀ ps, u ≠ .tbl ps := by
  cases o with
  | lst ds => obtain ⟨vs, h1, h2⟩ := h; exact ⟨_, h1, fun z => z, fun _ z => by cases z⟩
  | dic kvs => obtain ⟨ks, h1, h2⟩ := h; exact ⟨_, h1, fun z => z, fun _ z => by cases z⟩
  | st ks => exact (show False from h).elim
  | ins c fs => obtain ⟨_, dx, ks, h1, h2⟩ := h; exact ⟨_, h1, fun z => z, fun _ z => by cases z⟩
theorem tabs_keep {T : List (Addr × Str)} {H H' : Hp} (t : LamX.Tabs T H) (k : ∀ b o, H b = some o → (Stay o ∨ ∃ ps, o = .tbl ps) → H' b = some o) : LamX.Tabs T H' := fun q hq => by
  obtain ⟨ps, h1, h2, h3⟩ := t q hq
  refine ⟨ps, k _ _ h1 (.inr ⟨_, rfl⟩), h2, fun pos cv hc => ?_⟩
  obtain ⟨c, e1, e2⟩ := h3 pos cv hc
  exact ⟨c, e1, k _ _ e2 (.inl trivial)⟩
theorem tabs_new {T : List (Addr × Str)} {H : Hp} {p : Addr} {o : L2.HO} (t : LamX.Tabs T H) (n : H p = none) : LamX.Tabs T (upd H p o) :=
  t.ext fun b o' h => by rw [upd_ne (ne_of_none h n)]; exact h
theorem tabs_put {T : List (Addr × Str)} {H : Hp} {p : Addr} {o u : L2.HO} (t : LamX.Tabs T H) (e : H p = some u) (m : ¬ Stay u) (m2 : ∀ ps, u ≠ .tbl ps) : LamX.Tabs T (upd H p o) :=
  tabs_keep t fun b o' h s => by
    have hb : b ≠ p := by
      rintro rfl; rw [e] at h; cases h
      rcases s with s | ⟨ps, s⟩
      · exact m s
      · exact m2 ps s
    rw [upd_ne hb]; exact h
section
variable {H : Hp} {r : List Addr} {h : Heap} {p : Addr}
theorem HR.addr (hr : HR L K r h H) {i : Nat} {o : HV} (e : h[i]? = some o) : ∃ p, r[i]? = some p ∧ ORel L K H r o p := by
  have hi : i < r.length := by rw [hr.len]; exact (List.getElem?_eq_some_iff.mp e).1
  exact ⟨r[i], List.getElem?_eq_getElem hi, hr.at_ i o _ e (List.getElem?_eq_getElem hi)⟩
theorem HR.obj (hr : HR L K r h H) {i : Nat} {p : Addr} (e : r[i]? = some p) : ∃ o, h[i]? = some o ∧ ORel L K H r o p := by
  have hi : i < h.length := by rw [← hr.len]; exact (List.getElem?_eq_some_iff.mp e).1
  exact ⟨h[i], List.getElem?_eq_getElem hi, hr.at_ i _ p (List.getElem?_eq_getElem hi) e⟩
theorem HR.mem (hr : HR L K r h H) {q : Addr} (m : q ∈ r) : ∃ u, H q = some u ∧ ¬ Stay u ∧ ∀ ps, u ≠ .tbl ps := by
  obtain ⟨i, hi, e⟩ := List.getElem_of_mem m
  obtain ⟨o, _, g⟩ := hr.obj (i := i) (p := q) (by rw [List.getElem?_eq_getElem hi, e])
  exact g.muta
theorem HR.notin (hr : HR L K r h H) (n : H p = none) : p ∉ r := fun m => by
  obtain ⟨u, e, _⟩ := hr.mem m
  rw [n] at e; cases e
/-- something new that my heap does not tell -/
theorem HR.new {o : L2.HO} (hr : HR L K r h H) (n : H p = none) : HR L K r h (upd H p o) :=
  ⟨hr.len, hr.nd, fun i o' q e1 e2 => (hr.at_ i o' q e1 e2).mono (Keep.new n) (List.prefix_refl r) (by
    obtain ⟨u, eu, _⟩ := (hr.at_ i o' q e1 e2).muta
    rw [upd_ne (ne_of_none eu n)]), tabs_new hr.tab n⟩
/-- a new object of my heap -/
theorem HR.push {ho : L2.HO} {o : HV} (hr : HR L K r h H) (n : H p = none) (g : ORel L K (upd H p ho) (r ++ [p]) o p) : HR L K (r ++ [p]) (h ++ [o]) (upd H p ho) := by
  refine ⟨by rw [List.length_append, List.length_append, hr.len]; rfl, ?_, fun i o' q e1 e2 => ?_, tabs_new hr.tab n⟩
  · rw [List.nodup_append]
    refine ⟨hr.nd, by simp, fun a ha b hb => ?_⟩
    rintro rfl
    rw [List.mem_singleton] at hb
    subst hb
    exact hr.notin n ha
  · by_cases hi : i < h.length
    · rw [List.getElem?_append_left hi] at e1
      rw [List.getElem?_append_left (by rw [hr.len]; exact hi)] at e2
      exact (hr.at_ i o' q e1 e2).mono (Keep.new n) (List.prefix_append r [p]) (by
        obtain ⟨u, eu, _⟩ := (hr.at_ i o' q e1 e2).muta
        rw [upd_ne (ne_of_none eu n)])
    · have hl : i < (h ++ [o]).length := (List.getElem?_eq_some_iff.mp e1).1
      rw [List.length_append, List.length_singleton] at hl
      have hi' : i = h.length := by omega
      subst hi'
      rw [List.getElem?_append_right (Nat.le_refl _), Nat.sub_self] at e1
      rw [← hr.len, List.getElem?_append_right (Nat.le_refl _), Nat.sub_self] at e2
      simp at e1 e2
      subst e1 e2
      exact g
/-- an object of my heap changed -/
theorem HR.put {ho : L2.HO} {o o' : HV} {i : Nat} (hr : HR L K r h H) (e : h[i]? = some o) (ep : r[i]? = some p) (g : ORel L K (upd H p ho) r o' p) : HR L K r (h.set i o') (upd H p ho) := by
  obtain ⟨u, eu, mu, mt⟩ := (hr.at_ i o p e ep).muta
  refine ⟨by rw [List.length_set]; exact hr.len, hr.nd, fun j o2 q e1 e2 => ?_, tabs_put hr.tab eu mu mt⟩
  by_cases hj : i = j
  · subst hj
    rw [List.getElem?_set_self (List.getElem?_eq_some_iff.mp e).1] at e1
    cases e1
    rw [ep] at e2; cases e2
    exact g
  · rw [List.getElem?_set_ne hj] at e1
    have hq : q ≠ p := by
      rintro rfl
      obtain ⟨hi, ei⟩ := List.getElem?_eq_some_iff.mp ep
      obtain ⟨hj2, ej⟩ := List.getElem?_eq_some_iff.mp e2
      exact hj ((List.getElem_inj hr.nd).mp (ei.trans ej.symm))
    exact (hr.at_ j o2 q e1 e2).mono (Keep.put eu mu) (List.prefix_refl r) (upd_ne hq)
/-- only the first ones count -/
theorem HR.cutTo {H0 : Hp} {r' : List Addr} {h' : Heap} (hr' : HR L K r' h' H) (h0 : HR L K r h H0) (pr : r <+: r') (same : ∀ i, i < h.length → h'[i]? = h[i]?) : HR L K r h H := by
  refine ⟨h0.len, h0.nd, fun i o q e1 e2 => ?_, hr'.tab⟩
  have hi : i < h.length := (List.getElem?_eq_some_iff.mp e1).1
  have e1' : h'[i]? = some o := (same i hi).trans e1
  have e2' : r'[i]? = some q := by
    obtain ⟨t, rfl⟩ := pr
    rw [List.getElem?_append_left (by rw [h0.len]; exact hi)]; exact e2
  have g := hr'.at_ i o q e1' e2'
  have g0 := h0.at_ i o q e1 e2
  cases o with
  | lst ds =>
    obtain ⟨vs, a1, a2⟩ := g
    obtain ⟨ws, b1, b2⟩ := g0
    exact ⟨vs, a1, a2.shrink pr b2⟩
  | dic kvs =>
    obtain ⟨ks, a1, a2⟩ := g
    obtain ⟨js, b1, b2⟩ := g0
    refine ⟨ks, a1, ?_⟩
    clear a1 b1 e1 e1' same
    induction kvs generalizing ks js with
    | nil => exact a2
    | cons x kvs ih =>
      obtain ⟨a, d⟩ := x
      unfold RelK at a2 b2 ⊢
      obtain ⟨j, v, t, c1, c2, c3, c4⟩ := a2
      obtain ⟨j', v', t', d1, d2, d3, d4⟩ := b2
      exact ⟨j, v, t, c1, c2, c3.shrink pr d3, ih _ c4 _ d4⟩
  | st ks => exact (show False from g).elim
  | ins c fs =>
    obtain ⟨ho, dx, ks, a1, a2⟩ := g
    obtain ⟨_, dy, js, b1, b2⟩ := g0
    refine ⟨ho, dx, ks, a1, ?_⟩
    clear a1 b1 e1 e1' same
    induction fs generalizing ks js with
    | nil => exact a2
    | cons x fs ih =>
      obtain ⟨a, d⟩ := x
      unfold RelF at a2 b2 ⊢
      obtain ⟨v, t, c1, c3, c4⟩ := a2
      obtain ⟨v', t', d1, d3, d4⟩ := b2
      exact ⟨v, t, c1, c3.shrink pr d3, ih _ c4 _ d4⟩
end
section
variable {H : Hp} {r : List Addr} {h : Heap} {p : Addr} {env : Env} {σ : Sg}
theorem SR.mk' {H0 : Hp} {r0 : List Addr} {h0 : Heap} (s : SR L K env h0 r0 σ H0) (hr : HR L K r h H) (k : Keep H0 H) (pr : r0 <+: r) : SR L K env h r σ H :=
  ⟨hr, s.len, fun i d e => by obtain ⟨v, e1, e2⟩ := s.er i d e; exact ⟨v, e1, e2.mono k pr⟩⟩
theorem SR.new {o : L2.HO} (s : SR L K env h r σ H) (n : H p = none) : SR L K env h r σ (upd H p o) := s.mk' (s.hr.new n) (Keep.new n) (List.prefix_refl r)
theorem SR.push {ho : L2.HO} {o : HV} (s : SR L K env h r σ H) (n : H p = none) (g : ORel L K (upd H p ho) (r ++ [p]) o p) : SR L K env (h ++ [o]) (r ++ [p]) σ (upd H p ho) :=
  s.mk' (s.hr.push n g) (Keep.new n) (List.prefix_append r [p])
theorem SR.put {ho : L2.HO} {o o' : HV} {i : Nat} (s : SR L K env h r σ H) (e : h[i]? = some o) (ep : r[i]? = some p) (g : ORel L K (upd H p ho) r o' p) : SR L K env (h.set i o') r σ (upd H p ho) := by
  obtain ⟨u, eu, mu, mt⟩ := (s.hr.at_ i o p e ep).muta
  exact s.mk' (s.hr.put e ep g) (Keep.put eu mu) (List.prefix_refl r)
theorem SR.slot {i : Nat} {d : D} {v : V} (s : SR L K env h r σ H) (g : RelD L K H r d v) : SR L K (env.put i d) h r (σ.set i (some v)) H := by
  refine ⟨s.hr, by unfold Env.put; rw [List.length_set, List.length_set]; exact s.len, fun j c e => ?_⟩
  unfold Env.put at e
  by_cases hj : i = j
  · subst hj
    by_cases hi : i < env.length
    · rw [List.getElem?_set_self hi] at e
      cases e
      exact ⟨v, List.getElem?_set_self (by rw [← s.len]; exact hi), g⟩
    · rw [List.getElem?_eq_none (by rw [List.length_set]; omega)] at e; cases e
  · rw [List.getElem?_set_ne hj] at e
    rw [List.getElem?_set_ne hj]
    exact s.er j c e
/-- a slot whose value is not told -/
theorem SR.less {env' : Env} {σ' : Sg} (s : SR L K env h r σ H) (hl : env'.length = σ'.length) (he : ∀ (i : Nat) (d : D), env'[i]? = some (some d) → env[i]? = some (some d) ∧ σ'[i]? = σ[i]?) : SR L K env' h r σ' H :=
  ⟨s.hr, hl, fun i d e => by
    obtain ⟨e1, e2⟩ := he i d e
    obtain ⟨v, g1, g2⟩ := s.er i d e1
    exact ⟨v, e2.trans g1, g2⟩⟩
variable (L K)
/-- an error of class c that keeps d has come: its own dict stands at x -/
def XRel (c : Nat) (ds : List D) (r : List Addr) (H : Hp) (x : Addr) : Prop := ∃ d v, ds = [d] ∧ H x = some (.xd [(L.xn c, v)]) ∧ RelD L K H r d v
/-- what is wanted of a result -/
def Post {α β : Type} (R : Hp → List Addr → α → β → Prop) (W : XK) (env : Env) (σ : Sg) (r : List Addr) (H : Hp) (Q : β → Hp → Prop) : Res α → Prop
  | .ok d h' => ∀ v H' r', r <+: r' → Keep H H' → SR L K env h' r' σ H' → R H' r' d v → Q v H'
  | .exc c ds h' => ∀ x H' r', r <+: r' → Keep H H' → HR L K r' h' H' → XRel L K c ds r' H' x → W (.ref (L.ca c)) (some x) H'
  | .err => False
variable {L K}
theorem Post.mono {α β : Type} {R : Hp → List Addr → α → β → Prop} {W : XK} {Q Q' : β → Hp → Prop} {x : Res α} (h : Post L K R W env σ r H Q x) (q : ∀ v H', Q v H' → Q' v H') : Post L K R W env σ r H Q' x := by
  cases x with
  | ok d h' => exact fun v H' r' a b c e => q _ _ (h v H' r' a b c e)
  | exc c ds h' => exact h
  | err => exact h
theorem Post.later {α β : Type} {R : Hp → List Addr → α → β → Prop} {W : XK} {Q : β → Hp → Prop} {x : Res α} {H1 : Hp} {r1 : List Addr} (h : Post L K R W env σ r H Q x) (pr : r <+: r1) (k : Keep H H1) : Post L K R W env σ r1 H1 Q x := by
  cases x with
  | ok d h' => exact fun v H' r' a b c e => h v H' r' (pr.trans a) (k.trans b) c e
  | exc c ds h' => exact fun x H' r' a b c e => h x H' r' (pr.trans a) (k.trans b) c e
  | err => exact h
/-- the state behind a step -/
structure Aft {α β : Type} (L : Lk) (K : PySem.W.Frag) (R : Hp → List Addr → α → β → Prop) (env : Env) (σ : Sg) (r : List Addr) (H : Hp) (x : β) (H1 : Hp) (d : α) (h1 : Heap) (r1 : List Addr) : Prop where
  pr : r <+: r1
  k : Keep H H1
  s : SR L K env h1 r1 σ H1
  rel : R H1 r1 d x
theorem Post.bind {α β γ δ : Type} {R : Hp → List Addr → α → β → Prop} {R' : Hp → List Addr → γ → δ → Prop} {W : XK} {Q : δ → Hp → Prop} {x : Res α} {f : α → Heap → Res γ} (p : Post L K R' W env σ r H Q (x.bind f)) :
    Post L K R W env σ r H (fun y H1 => ∃ d h1 r1, Aft L K R env σ r H y H1 d h1 r1 ∧ Post L K R' W env σ r1 H1 Q (f d h1)) x := by
  cases x with
  | ok d h1 => exact fun v H' r' a b c e => ⟨d, h1, r', ⟨a, b, c, e⟩, p.later a b⟩
  | exc c ds h1 => exact p
  | err => exact p
variable (L)
abbrev RV (K : PySem.W.Frag) : Hp → List Addr → D → V → Prop := fun H r d v => RelD L K H r d v
abbrev RVs (K : PySem.W.Frag) : Hp → List Addr → List D → List V → Prop := fun H r d v => RelDs L K H r d v
abbrev RB : Hp → List Addr → Bool → Bool → Prop := fun _ _ a b => a = b
def rd (K : PySem.W.Frag) (W : XK) (m : Env → Heap → Res D) : TE := fun σ H Q => ∃ env h r, SR L K env h r σ H ∧ Post L K (RV L K) W env σ r H Q (m env h)
def rdT (K : PySem.W.Frag) (W : XK) (m : Env → Heap → Res Bool) : TT := fun σ H Q => ∃ env h r, SR L K env h r σ H ∧ Post L K RB W env σ r H Q (m env h)
def rdA (K : PySem.W.Frag) (W : XK) (m : Env → Heap → Res (List D)) : TA := fun σ H Q => ∃ env h r, SR L K env h r σ H ∧ Post L K (RVs L K) W env σ r H Q (m env h)
variable {L}
theorem _root_.L2.PE.imp {X : Cx} {e : Expr} {t t' : TE} (h : PE X e t) (i : ∀ σ H Q, t' σ H Q → t σ H Q) : PE X e t' := ⟨fun pins s σ H Q I q => h.run pins s σ H Q I (i σ H Q q)⟩
theorem _root_.L2.PT.imp {X : Cx} {e : Expr} {t t' : TT} (h : PT X e t) (i : ∀ σ H Q, t' σ H Q → t σ H Q) : PT X e t' := ⟨fun pins s σ H Q I q => h.run pins s σ H Q I (i σ H Q q)⟩
theorem _root_.L2.PW.imp {X : Cx} {e : Expr} {t t' : TT} (h : L2.PW X e t) (i : ∀ σ H Q, t' σ H Q → t σ H Q) : L2.PW X e t' := ⟨fun w pins s σ H Q I q => h.run w pins s σ H Q I (i σ H Q q)⟩
theorem _root_.L2.PA.imp {X : Cx} {e : List Expr} {t t' : TA} (h : PA X e t) (i : ∀ σ H Q, t' σ H Q → t σ H Q) : PA X e t' := ⟨fun p pins s σ H Q I q => h.run p pins s σ H Q I (i σ H Q q)⟩
theorem _root_.L2.PS.imp {X : Cx} {e : Stmt} {t t' : TS} (h : PS X e t) (i : ∀ D σ H, t' D σ H → t D σ H) : PS X e t' := ⟨fun pins s σ H Q I q => h.run pins s σ H Q I (i Q σ H q)⟩
theorem _root_.L2.PSs.imp {X : Cx} {e : List Stmt} {t t' : TS} (h : PSs X e t) (i : ∀ D σ H, t' D σ H → t D σ H) : PSs X e t' := ⟨fun pins s σ H Q I q => h.run pins s σ H Q I (i Q σ H q)⟩
/-- all that an operation can be asked -/
def wOp (X : Cx) (f : Value → Value → Sem Value) : L2.R2 := fun x y H Q => ∀ (pins : List (Addr × Obj)) (s : Shared) (σ : Sg) (v u : Value), Inv X pins σ H s → RelV x v → RelV y u → wpAny (model X.prog X.w) X.A (f v u) (EP X pins σ Q) X.xe s
theorem op_w {X : Cx} {f : Value → Value → Sem Value} : L2.OpR X f (wOp X f) := fun pins s σ H x y v u Q I rx ry h => h pins s σ v u I rx ry
theorem wOp.of {X : Cx} {f : Value → Value → Sem Value} {t : L2.R2} (h : L2.OpR X f t) {x y : V} {H : Hp} {Q : VK} (q : t x y H Q) : wOp X f x y H Q := fun pins s σ v u I rx ry => h pins s σ H x y v u Q I rx ry q
def wUn (X : Cx) (f : Value → Sem Value) : V → Hp → VK → Prop := fun x H Q => ∀ (pins : List (Addr × Obj)) (s : Shared) (σ : Sg) (v : Value), Inv X pins σ H s → RelV x v → wpAny (model X.prog X.w) X.A (f v) (EP X pins σ Q) X.xe s
theorem un_w {X : Cx} {f : Value → Sem Value} : L2.UnR X f (wUn X f) := fun pins s σ H x v Q I rx h => h pins s σ v I rx
theorem wUn.of {X : Cx} {f : Value → Sem Value} {t : V → Hp → VK → Prop} (h : L2.UnR X f t) {x : V} {H : Hp} {Q : VK} (q : t x H Q) : wUn X f x H Q := fun pins s σ v I rx => h pins s σ H x v Q I rx q
def wCall (X : Cx) (f : Value) : List V → Hp → VK → Prop := fun xs H Q => ∀ (pins : List (Addr × Obj)) (s : Shared) (σ : Sg) (us : List Value), Inv X pins σ H s → Vals xs us → wpAny (model X.prog X.w) X.A (call f us) (EP X pins σ Q) X.xe s
theorem call_w {X : Cx} {f : Value} : L2.CallR X f (wCall X f) := fun pins s σ H xs us Q I r h => h pins s σ us I r
theorem wCall.of {X : Cx} {f : Value} {t : List V → Hp → VK → Prop} (h : L2.CallR X f t) {xs : List V} {H : Hp} {Q : VK} (q : t xs H Q) : wCall X f xs H Q := fun pins s σ us I r => h pins s σ H xs us Q I r q
def wIx (X : Cx) : L2.R2 := fun x y H Q => ∀ (value slice : Expr) (pins : List (Addr × Obj)) (s : Shared) (σ : Sg) (v u : Value), Inv X pins σ H s → RelV x v → RelV y u → subscripted slice false v u = operate [v, u] (getItem v u) → wpAny (model X.prog X.w) X.A (subscriptTail value slice v u) (EP X pins σ Q) X.xe s
theorem ix_w {X : Cx} : L2.IxR X (wIx X) := fun value slice pins s σ H x y v u Q I rx ry h hs => h value slice pins s σ v u I rx ry hs
theorem wIx.of {X : Cx} {t : L2.R2} (h : L2.IxR X t) {x y : V} {H : Hp} {Q : VK} (q : t x y H Q) : wIx X x y H Q := fun value slice pins s σ v u I rx ry hs => h value slice pins s σ H x y v u Q I rx ry q hs
end
end Y
set_option Elab.async false
set_option linter.all false
set_option maxRecDepth 100000
set_option maxHeartbeats 4000000
namespace Y
open PySem PySem.Spec PyProof.Rows
open L2 (V Hp upd upd_same upd_ne ne_of ne_of_none RelV Vals SqL SqT Rd Cx Inv PE PT PW PS PSs PA PG PI TE TT TS TA TG TI VK XK Ends EP)
def visB (sc : Scope) (x : Str) : Bool := (match sc.names.lookup x with
  | some .local => true
  | some .cell => true
  | some .free => true
  | _ => false) && !(x == ("__debug__" : Str)) && !(x == ("__classdict__" : Str))
def glB (sc : Scope) (x : Str) : Bool := decide (sc.names.lookup x = some .globalImplicit) && !(x == ("__debug__" : Str)) && decide (x ≠ "__name__")
def biN : Bi → Str
  | .len => "len" | .all => "all" | .any => "any" | .sum => "sum" | .tuple => "tuple" | .list => "list" | .sorted => "sorted" | .int => "int" | .str => "str" | .ord => "ord" | .chr => "chr"
  | .abs => "abs" | .min => "min" | .max => "max" | .min1 => "min" | .max1 => "max" | .min3 => "min" | .minD => "min" | .maxD => "max" | .divmod => "divmod" | .dict => "dict" | .set => "set"
def tyN : Ty → Str
  | .int => "int" | .bool => "bool" | .str => "str" | .list => "list" | .tuple => "tuple"
def setN2 : Bool → Str
  | true => "sorted" | false => "len"
/-- the operand of a test -/
def tOk : E → Bool
  | .notv a => tOk a
  | .andv a b => tOk a && tOk b
  | .orv a b => tOk a && tOk b
  | .ife _ _ _ => false
  | _ => true
/-- no call of a bare name -/
def noSup : Expr → Bool
  | .Call (.Name _ _) [] [] _ => false
  | _ => true
/-- the built-in functions that are served by their plain names -/
def biOk : Bi → Bool
  | .len => true | .all => true | .any => true | .sum => true | .tuple => true | .list => true | .int => true | .str => true | .ord => true | .abs => true | .min => true | .max => true | .divmod => true | .min1 => true | .max1 => true | .sorted => true | .dict => true
  | _ => false
def bmN : Bm → Str
  | .append => "append" | .extend => "extend" | .pop => "pop" | .popAt => "pop" | .index => "index" | .count => "count" | .join => "join" | .split => "split" | .startswith => "startswith" | .endswith => "endswith"
  | .partition => "partition" | .rpartition => "rpartition" | .ljust => "ljust" | .lstrip => "lstrip" | .rstrip => "rstrip" | .lower => "lower" | .upper => "upper" | .get => "get" | .bitlen => "bit_length"
/-- the methods that are served -/
def bmOk : Bm → Bool
  | .append => true | .extend => true | .index => true | .join => true | .split => true | .partition => true | .startswith => true | .endswith => true | .ljust => true | .rstrip => true | .lstrip => true
  | _ => false
def locB (sc : Scope) (x : Str) : Bool := decide (sc.names.lookup x = some .local)
/-- a target of a comprehension's block: its own name, or one that an inner block holds -/
def locC (scope sc : Scope) (x : Str) : Bool := locB (L2.relS scope sc) x || ((scope.names.lookup x == some .cell) && decide ((L2.relS scope sc).names.lookup x = some .cell))
theorem locC_loc {scope sc : Scope} {x : Str} (h : locC scope sc x = true) : L2.Loc (L2.relS scope sc) x := by
  unfold locC locB at h
  simp only [Bool.or_eq_true, Bool.and_eq_true, decide_eq_true_eq] at h
  rcases h with h | h
  · exact .inl h
  · exact .inr h.2
theorem locC_fn {scope sc : Scope} {x : Str} (h : locC scope sc x = true) : (scope.names.lookup x == some .cell) = true ∨ (L2.relS scope sc).names.lookup x = some .local := by
  unfold locC locB at h
  simp only [Bool.or_eq_true, Bool.and_eq_true, decide_eq_true_eq] at h
  rcases h with h | h
  · exact .inr h
  · exact .inl h.1
section
variable (nm : Nm) (N : List Str)
def ownOk (is : List Nat) (own : List (Str × Nat)) : Bool := decide (own.map (·.2) = is)
def ownOf (is : List Nat) : List (Str × Nat) := is.map fun i => (N.getD i Str.empty, i)
def tyNames (sc : Scope) : List Ty → List Expr → Bool
  | [], [] => true
  | t :: ts, .Name x _ :: es => glB sc x && decide (x = tyN t) && tyNames sc ts es
  | _, _ => false
mutual
/-- targets whose names are local (l: and those that inner functions hold) -/
def chkT (st : Str → Bool) : Tg → Expr → Bool
  | .nm i, .Name x _ => decide (N[i]? = some x) && st x
  | .tp ts, .Tuple es _ _ => chkTs st ts es
  | _, _ => false
def chkTs (st : Str → Bool) : List Tg → List Expr → Bool
  | [], [] => true
  | t :: ts, e :: es => chkT st t e && chkTs st ts es
  | _, _ => false
end
/-- a def's call: by its name, or through its class -/
def callB (sc : Scope) (k len : Nat) (cpos : Pos) : Expr → Bool
  | .Name x _ => glB sc x && decide (nm.fn[k]? = some x) && decide (x ≠ Str.empty)
  | .Attribute (.Name x xp) m apos => glB sc x && decide ((x, m, k) ∈ nm.ck) && noSup (.Name x xp) && decide (len < 20) && (apos.endLine == cpos.line)
  | _ => false
mutual
def chkE : Scope → E → Expr → Bool
  | _, .cint i, .Constant (.int j) _ _ => decide (i = j)
  | _, .cstr s, .Constant (.str z) _ _ => decide (z = toS s) && decide (s.length ≤ 16777216) && s.all (· < 128)
  | _, .cbl b, .Constant (.bool c) _ _ => b == c
  | _, .cnon, .Constant .none _ _ => true
  | sc, .var i, .Name x _ => decide (N[i]? = some x) && visB sc x
  | sc, .glb k, .Name x _ => glB sc x && decide (nm.cn[k]? = some x)
  | sc, .fnv k, .Name x _ => glB sc x && decide (nm.fn[k]? = some x) && decide (x ≠ Str.empty)
  | sc, .bin op a b, .BinOp pa o pb _ => decide (o = op) && chkE sc a pa && chkE sc b pb
  | sc, .neg a, .UnaryOp .USub pa _ => chkE sc a pa
  | sc, .notv a, .UnaryOp .Not pa _ => chkE sc a pa
  | sc, .cmp op a b, .Compare pa [o] [pb] _ => decide (o = op) && chkE sc a pa && chkE sc b pb
  | sc, .chain o1 o2 a b c, .Compare pa [p1, p2] [pb, pc] _ => decide (p1 = o1) && decide (p2 = o2) && chkE sc a pa && chkE sc b pb && chkE sc c pc
  | sc, .andv a b, .BoolOp .And (pa :: pb :: []) _ => chkE sc a pa && chkE sc b pb
  | sc, .andv a b, .BoolOp .And (pa :: pb :: pc :: r) pos => chkE sc a pa && chkE sc b (.BoolOp .And (pb :: pc :: r) pos)
  | sc, .orv a b, .BoolOp .Or (pa :: pb :: []) _ => chkE sc a pa && chkE sc b pb
  | sc, .orv a b, .BoolOp .Or (pa :: pb :: pc :: r) pos => chkE sc a pa && chkE sc b (.BoolOp .Or (pb :: pc :: r) pos)
  | sc, .ife t a b, .IfExp pt pa pb _ => chkE sc t pt && tOk t && chkE sc a pa && chkE sc b pb
  | sc, .call k es, .Call pf pes [] cpos => callB nm sc k pes.length cpos pf && chkEs sc es pes
  | sc, .calls i es, .Call (.Name x _) (pe :: pes) [] _ => decide (N[i]? = some x) && visB sc x && chkEs sc es (pe :: pes)
  | sc, .new c es, .Call (.Name x _) pes [] _ => glB sc x && decide (nm.cl[c]? = some x) && decide (x ≠ Str.empty) && chkEs sc es pes
  | sc, .mth m o es, .Call (.Attribute po x apos) pes [] cpos => chkE sc o po && decide (nm.mn[m]? = some x) && noSup po && decide (pes.length < 20) && (apos.endLine == cpos.line) && chkEs sc es pes
  | sc, .bi b es, .Call (.Name x _) (pe :: pes) [] _ => glB sc x && decide (x = biN b) && biOk b && chkEs sc es (pe :: pes)
  | sc, .bm m o es, .Call (.Attribute po x apos) (pe :: pes) [] cpos => chkE sc o po && decide (x = bmN m) && bmOk m && noSup po && decide (pes.length < 20) && (apos.endLine == cpos.line) && chkEs sc es (pe :: pes)
  | sc, .isi a [t], .Call (.Name x _) [pa, .Name y _] [] _ => glB sc x && decide (x = ("isinstance" : Str)) && glB sc y && decide (y = tyN t) && chkE sc a pa
  | sc, .isi a ts, .Call (.Name x _) [pa, .Tuple es _ _] [] _ => glB sc x && decide (x = ("isinstance" : Str)) && tyNames sc ts es && decide (ts.length ≤ 100) && chkE sc a pa
  | sc, .attr o f, .Attribute po x _ => chkE sc o po && noSup po && decide (nm.an[f]? = some x)
  | sc, .idx a i, .Subscript pa pi _ => chkE sc a pa && chkE sc i pi
  | sc, .slc a lo hi, .Subscript pa (.Slice none none none _) _ => chkE sc a pa && !lo.wr && !hi.wr
  | sc, .slc a lo hi, .Subscript pa (.Slice none (some ph) none _) _ => chkE sc a pa && !lo.wr && hi.wr && chkE sc hi ph
  | sc, .slc a lo hi, .Subscript pa (.Slice (some pl) none none _) _ => chkE sc a pa && lo.wr && !hi.wr && chkE sc lo pl
  | sc, .slc a lo hi, .Subscript pa (.Slice (some pl) (some ph) none _) _ => chkE sc a pa && lo.wr && hi.wr && chkE sc lo pl && chkE sc hi ph
  | sc, .dlit ks vs, .Dict pks pvs _ => pks.all Option.isSome && chkEs sc ks (pks.filterMap id) && chkEs sc vs pvs && decide (ks.length = vs.length) && decide (ks.length ≤ 1)
  | sc, .tup es, .Tuple pes _ _ => chkEs sc es pes
  | sc, .lst es, .List pes _ => chkEs sc es pes
  | sc, .lc own tg it [] elt, .ListComp pe [⟨ptg, pit, [], asn⟩] scope _ => decide (asn = 0) && chkE sc it pit && itOk it tg && tg.slots.all (fun i => own.contains i) && L2.blkC N sc scope (ownOf N own) && chkT N (locC scope sc) tg ptg && chkE (L2.relS scope sc) elt pe
  | sc, .lc own tg it [c] elt, .ListComp pe [⟨ptg, pit, [pc], asn⟩] scope _ => decide (asn = 0) && chkE sc it pit && itOk it tg && tg.slots.all (fun i => own.contains i) && L2.blkC N sc scope (ownOf N own) && chkT N (locC scope sc) tg ptg && chkE (L2.relS scope sc) c pc && tOk c && chkE (L2.relS scope sc) elt pe
  | sc, .lenset b a, .Call (.Name x _) [.Call (.Name y _) [pa] [] _] [] _ => glB sc x && decide (x = setN2 b) && glB sc y && decide (y = ("set" : Str)) && chkE sc a pa
  | sc, .mind a z, .Call (.Name x _) [pa] [⟨some k, pz, _⟩] _ => glB sc x && decide (x = ("min" : Str)) && decide (k = ("default" : Str)) && chkE sc a pa && chkE sc z pz
  | sc, .maxd a z, .Call (.Name x _) [pa] [⟨some k, pz, _⟩] _ => glB sc x && decide (x = ("max" : Str)) && decide (k = ("default" : Str)) && chkE sc a pa && chkE sc z pz
  | sc, .told e, .Call (.Name x _) [.Lambda ⟨[], [], none, [], [], none, []⟩ body scope _] [] _ => glB sc x && decide (x = ("_law_told" : Str)) && LamX.lamSB sc scope && chkE scope e body
  | sc, .enmr a, .Call (.Name x _) [.Call (.Name y _) [pa] [] _] [] _ => glB sc x && decide (x = ("enumerate" : Str)) && glB sc y && decide (y = ("reversed" : Str)) && chkE sc a pa
  | sc, .enm a, .Call (.Name x _) [pa] [] _ => glB sc x && decide (x = ("enumerate" : Str)) && chkE sc a pa
  | sc, .zip a b, .Call (.Name x _) [pa, pb] [] _ => glB sc x && decide (x = ("zip" : Str)) && chkE sc a pa && chkE sc b pb
  | sc, .rvd a, .Call (.Name x _) [pa] [] _ => glB sc x && decide (x = ("reversed" : Str)) && chkE sc a pa
  | sc, .rng1 a, .Call (.Name x _) [pa] [] _ => glB sc x && decide (x = ("range" : Str)) && chkE sc a pa
  | sc, .rng2 a b, .Call (.Name x _) [pa, pb] [] _ => glB sc x && decide (x = ("range" : Str)) && chkE sc a pa && chkE sc b pb
  | sc, .rng3 a b c, .Call (.Name x _) [pa, pb, pc] [] _ => glB sc x && decide (x = ("range" : Str)) && chkE sc a pa && chkE sc b pb && chkE sc c pc
  | _, _, _ => false
def chkEs : Scope → List E → List Expr → Bool
  | _, [], [] => true
  | sc, e :: es, pe :: pes => chkE sc e pe && chkEs sc es pes
  | _, _, _ => false
end
end
/-- the names of built-ins that the program must not store -/
def blts : List Str := ["len", "all", "any", "sum", "tuple", "list", "sorted", "int", "str", "bool", "ord", "chr", "abs", "min", "max", "divmod", "dict", "set", "range", "enumerate", "zip", "reversed", "isinstance"]
theorem szl : PySem.sizeLine = 16777216 := sizeLine_eq
section
variable {X : Cx}
theorem vis_of {sc : Scope} {x : Str} (h : visB sc x = true) : L2.Vis sc x ∧ (x == ("__debug__" : Str)) = false ∧ (x == ("__classdict__" : Str)) = false := by
  unfold visB at h
  simp only [Bool.and_eq_true, Bool.not_eq_true'] at h
  refine ⟨?_, h.1.2, h.2⟩
  have h1 := h.1.1
  split at h1
  · exact .inl (by assumption)
  · exact .inr (.inl (by assumption))
  · exact .inr (.inr (by assumption))
  · cases h1
theorem gl_of {x : Str} (h : glB X.env.scope x = true) : L2.Gl X x ∧ (x == ("__debug__" : Str)) = false ∧ x ≠ "__name__" := by
  unfold glB at h
  simp only [Bool.and_eq_true, Bool.not_eq_true', decide_eq_true_eq] at h
  exact ⟨h.1.1, h.1.2, h.2⟩
end
end Y
set_option Elab.async false
set_option linter.all false
set_option maxRecDepth 100000
set_option maxHeartbeats 4000000
namespace Y
open PySem PySem.Spec PyProof.Rows
open L2 (V Hp upd upd_same upd_ne ne_of ne_of_none RelV Vals SqL SqT Rd Cx Inv PE PT PTs PW PS PSs PA PG PGs PI TE TT TS TA TG TGs TI VK XK WX Ends EP Takes Un HOk ObjOk Room)
abbrev xTail : List Value := PySem.ESX.exTail
structure ExC (K : PySem.W.Frag) (C : Addr) : Prop where
  ini : PySem.W.excInitIn K C xTail "Exception.__new__" = true
  ovr : PySem.W.excOver K C xTail = true
  hd : PySem.W.hasDictIn K C = true
  sa : PySem.W.findIn K (.ref C) "__setattr__" = some (some (.builtin "object.__setattr__"))
  bexc : PySem.W.subIn K (.ref C) (.type "BaseException") = some true
  ty : PySem.W.typeIn K (.ref C) = some (.type "type")
  keep : PySem.W.keepIn K (.ref C) = true
def exB (K : PySem.W.Frag) (C : Addr) : Bool := PySem.W.excInitIn K C xTail "Exception.__new__" && (PySem.W.excOver K C xTail && (PySem.W.hasDictIn K C && (decide (PySem.W.findIn K (.ref C) "__setattr__" = some (some (.builtin "object.__setattr__"))) &&
  (decide (PySem.W.subIn K (.ref C) (.type "BaseException") = some true) && (decide (PySem.W.typeIn K (.ref C) = some (.type "type")) && PySem.W.keepIn K (.ref C))))))
theorem exB_ok {K : PySem.W.Frag} {C : Addr} (h : exB K C = true) : ExC K C := by
  unfold exB at h
  simp only [Bool.and_eq_true, decide_eq_true_eq] at h
  obtain ⟨a, b, c, d, e, f, g⟩ := h
  exact ⟨a, b, c, d, e, f, g⟩
section
variable {X : Cx} {pins : List (Addr × Obj)} {σ : Sg} {H : Hp} {s : Shared} {a C dx : Addr} {f : Str} {y : V} {u : Value} {A : Around}
/-- the heap behind the store -/
def kept (H : Hp) (a C dx : Addr) (f : Str) (y : V) : Hp := upd (upd H dx (L2.exd dx [(f, y)])) a (L2.exo a C (some dx))
theorem keepE {Q : Unit → Shared → Prop} {E : Value → Shared → Prop} (T : ExC X.K C) (I : Inv X pins σ H s) (e : H a = some (L2.exo a C none)) (hno : PySem.W.takerIn X.K C f = some none) (ry : RelV y u)
    (h : ∀ dx s', H dx = none → dx ≠ a → Inv X pins σ (kept H a C dx f y) s' → Q () s') : wpAny (model X.prog X.w) A (PySem.setAttr (.ref a) f u) Q E s := by
  obtain ⟨t1, ho⟩ := L2.exo_at I.hok e
  obtain ⟨hp, g, d, t, os⟩ := s
  have J : PySem.W.InstAt hp a (PySem.HandSPX.excO C t1) C none := ⟨ho, rfl, rfl, trivial⟩
  refine PySem.W.set_plain I.kIn J T.sa (PySem.W.osa_openX PySem.F.store_Exception I.kIn J T.ovr hno fun b => ?_)
  have hxs : a ≠ hp.objs.size := Nat.ne_of_lt (Heap.lt_size ho)
  obtain ⟨cd, hc, hh⟩ : ∃ cd, PySem.W.clsIn X.K C = some cd ∧ cd.hasDict = true := by
    have := T.hd
    unfold PySem.W.hasDictIn at this
    cases ec : PySem.W.clsIn X.K C with
    | none => rw [ec] at this; exact absurd this (by simp)
    | some cd => rw [ec] at this; exact ⟨cd, rfl, by simpa using this⟩
  have hcls : PySem.W.Looks (model X.prog X.w) hp (classData C) cd := PySem.W.looks_clsIn I.kIn hc
  dsimp only
  obtain ⟨c1, c2, c3, c4, c5, c6, c7, c8, c9, c10, c11⟩ := cd
  dsimp only at hh
  subst hh
  unfold Builtin.ObjectAttr.storeInOwnDict Builtin.ObjectAttr.ownDictForStores
  repeat (first
    | with_reducible refine PySem.HandSPX.store_in_new ?_ ?_
    | with_reducible refine wpAny_loadPart_at ho ?_
    | with_reducible refine hcls.at ?_
    | wp_step)
  · have hz := (Heap.get?_update_ne (hp.push { cls := .type "dict", data := .dict #[] }) hp.objs.size a (fun o => { o with dict := some hp.objs.size }) hxs.symm).trans (Heap.get?_push_at rfl rfl)
    exact ⟨_, #[], _, hz, rfl, fun e he => absurd he (by simp), fun _ => rfl⟩
  intro h' tk' hn hs
  have ho₁ : (hp.push { cls := .type "dict", data := .dict #[] }).get? a = some (PySem.HandSPX.excO C t1) := Heap.get?_push_of_some _ ho
  have k : ∀ b o, b ≠ a → hp.get? b = some o → h'.get? b = some o := fun b o hb hbo =>
    (hs.2 b (Nat.ne_of_lt (Heap.lt_size hbo))).trans ((Heap.get?_update_ne _ _ _ _ hb).trans (Heap.get?_push_of_some _ hbo))
  have hx := (hs.2 a hxs).trans (Heap.get?_update_self _ ho₁ rfl)
  have hnd : H hp.objs.size = none := I.hok.fresh (Nat.le_refl _)
  have nd : ∀ {b : Addr} {o : Obj}, hp.get? b = some o → b ≠ hp.objs.size := fun {b o} q => Nat.ne_of_lt (Heap.lt_size q)
  have na : ∀ {b : Addr}, H b = none → b ≠ a := fun {b} n z => by rw [z, e] at n; cases n
  have U : Un X.fs [] H (kept H a C hp.objs.size f y) hp h' := {
    keep := fun b o q n _ _ => k b o (na n) q
    slot := fun b o q n _ _ => ⟨o.slots, k b o (na n) q⟩
    free := fun b o q n _ => by unfold kept; rw [upd_ne (na n), upd_ne (nd q), n]
    there := fun b o q _ => by
      by_cases hb : b = a
      · subst hb; exact ⟨_, hx⟩
      · exact ⟨o, k b o hb q⟩
    tups := fun b xs q => by unfold kept; rw [upd_ne (L2.at_ne e q L2.exo_tup), upd_ne (ne_of_none q hnd), q]
    frzs := fun b o v q => by unfold kept; rw [upd_ne (L2.at_ne e q L2.exo_frz), upd_ne (ne_of_none q hnd), q]
    tbls := fun b ps q => ⟨#[], by unfold kept; rw [upd_ne (L2.at_ne e q L2.exo_tbl), upd_ne (ne_of_none q hnd), q, Array.append_empty]⟩ }
  refine h hp.objs.size _ hnd hxs.symm (I.un (t' := tk') U fun b o q => ?_)
  unfold kept at q
  by_cases hb : b = a
  · subst hb
    rw [upd_same] at q
    cases q
    exact L2.exo_ok hx
  rw [upd_ne hb] at q
  by_cases hd : b = hp.objs.size
  · subst hd
    rw [upd_same] at q
    cases q
    exact L2.exd_ok hn (L2.relO_put (fs := []) ry fun g => True.intro)
  rw [upd_ne hd] at q
  refine (I.hok b o q).stay (fun c v hc z => k c v ?_ z) (fun c hc => ?_) (fun c xs hc => ?_)
  · rcases hc with rfl | hc
    · exact hb
    · exact L2.at_ne e hc L2.exo_own
  · unfold kept; rw [upd_ne (L2.at_ne e hc L2.exo_own), upd_ne (ne_of_none hc hnd), hc]
  · unfold kept; rw [upd_ne (L2.at_ne e hc L2.exo_tup), upd_ne (ne_of_none hc hnd), hc]
end
section
variable {X : Cx} {o e : Expr} {to te : TE} {f : Str} {p p' pos : Pos}
def tKeep (K : PySem.W.Frag) (f : Str) (to te : TE) : TS := fun D σ H => te σ H fun y H1 => to σ H1 fun x H2 => ∃ a C : Addr, x = .ref a ∧ ExC K C ∧ PySem.W.takerIn K C f = some none ∧ H2 a = some (L2.exo a C none) ∧ ∀ dx, H2 dx = none → dx ≠ a → D.nx σ (kept H2 a C dx f y)
theorem ps_keep (ho : PE X o to) (he : PE X e te) (hs : swapsWith e (some (.Attribute o f p')) pos.line X.env = pure false) : PS X (.Assign [.Attribute o f p'] e pos) (tKeep X.K f to te) := by
  refine ⟨fun pins s σ H D I h => plainObj_wpAny_Assign_Attribute (L2.thn (he.run pins s σ H _ I h) fun v s1 ⟨y, H1, I1, r1, q1⟩ =>
    L2.thn (ho.run pins s1 σ H1 _ I1 q1) fun u s2 ⟨x, H2, I2, r2, a, C, ex, T, hno, ea, q⟩ => ?_) hs⟩
  subst ex
  obtain rfl : u = Value.ref a := r2
  exact keepE T I2 ea hno r1 fun dx s' n ne J => ⟨σ, _, J, q dx n ne⟩
end
/-- self.f = what was told -/
def spP (K : PySem.W.Frag) (f : Str) : L2.Sp := fun vs H Q _ => ∃ (a C : Addr) (y : V), vs = [.ref a, y] ∧ ExC K C ∧ PySem.W.takerIn K C f = some none ∧ H a = some (L2.exo a C none) ∧ ∀ dx, H dx = none → dx ≠ a → Q .non (kept H a C dx f y)
/-- self.f = tuple(what was told) -/
def spT (K : PySem.W.Frag) (f : Str) : L2.Sp := fun vs H Q _ => ∃ (a C q : Addr) (us : List V), vs = [.ref a, .ref q] ∧ ExC K C ∧ PySem.W.takerIn K C f = some none ∧ H a = some (L2.exo a C none) ∧
  ((SqL K H q us ∧ ∀ p, H p = none → ∀ dx, upd H p (.tup us) dx = none → dx ≠ a → Q .non (kept (upd H p (.tup us)) a C dx f (.ref p))) ∨ (SqT K H q us ∧ ∀ dx, H dx = none → dx ≠ a → Q .non (kept H a C dx f (.ref q))))
def initOk (tup : Bool) (f sf at' : Str) : List Stmt → Bool
  | [.Assign [.Attribute (.Name s _) g _] (.Name a _) _] => !tup && (decide (s = sf) && (decide (g = f) && decide (a = at')))
  | [.Assign [.Attribute (.Name s _) g _] (.Call (.Name t _) [.Name a _] [] _) _] => tup && (decide (s = sf) && (decide (g = f) && (decide (a = at') && decide (t = ("tuple" : Str)))))
  | _ => false
section
variable {P : Program} {w : World} {K : PySem.W.Frag} {mg : Str → Option Value} {base : PySem.Heap} {x qual f sf at' : Str} {st : Stmt} {fI : Addr} {fd : FuncData}
theorem initP_ok (F : L2.Fun K x qual st fI fd) (S : L2.FnScope [sf, at'] [sf, at'] (L2.defScope st)) (hb : initOk false f sf at' (L2.defBody st) = true) (v1 : visB (L2.defScope st) sf = true) (v2 : visB (L2.defScope st) at' = true) :
    L2.FnOk P w K mg base (L2.CX P w) 1 fI fd [sf, at'] (spP K f) := by
  refine L2.Fun.okX (k := 0) F S (fun vs H Q E ⟨a, C, y, e, _⟩ => by rw [e]; rfl) fun cdv A outer s H vs Q E _ ⟨a, C, y, e, T, hno, ha, q⟩ => ?_
  subst e
  obtain ⟨w1, w2, w3⟩ := vis_of v1
  obtain ⟨u1, u2, u3⟩ := vis_of v2
  generalize hbody : L2.defBody st = body at hb ⊢
  unfold initOk at hb
  split at hb
  · simp only [Bool.and_eq_true, decide_eq_true_eq] at hb
    obtain ⟨_, rfl, rfl, rfl⟩ := hb
    refine ⟨_, L2.pss_one (ps_keep (L2.pe_var (i := 0) rfl w1 w2 w3) (L2.pe_var (i := 1) rfl u1 u2 u3) rfl), ?_⟩
    exact ⟨y, rfl, .ref a, rfl, a, C, rfl, T, hno, ha, q⟩
  · simp at hb
  · cases hb
theorem initT_ok (F : L2.Fun K x qual st fI fd) (S : L2.FnScope [sf, at'] [sf, at'] (L2.defScope st)) (hb : initOk true f sf at' (L2.defBody st) = true) (v1 : visB (L2.defScope st) sf = true) (v2 : visB (L2.defScope st) at' = true)
    (hg : glB (L2.defScope st) "tuple" = true) (hm : mg "tuple" = none) : L2.FnOk P w K mg base (L2.CX P w) 1 fI fd [sf, at'] (spT K f) := by
  refine L2.Fun.okX (k := 0) F S (fun vs H Q E ⟨a, C, p, us, e, _⟩ => by rw [e]; rfl) fun cdv A outer s H vs Q E _ ⟨a, C, p, us, e, T, hno, ha, q⟩ => ?_
  subst e
  obtain ⟨w1, w2, w3⟩ := vis_of v1
  obtain ⟨u1, u2, u3⟩ := vis_of v2
  obtain ⟨g1, g2, g3⟩ := gl_of (X := L2.cxOf (L2.CX P w) P w K mg base [sf, at'] qual (L2.defScope st) fI cdv A outer s H E) hg
  generalize hbody : L2.defBody st = body at hb ⊢
  unfold initOk at hb
  split at hb
  · simp at hb
  · simp only [Bool.and_eq_true, decide_eq_true_eq] at hb
    obtain ⟨_, rfl, rfl, rfl, rfl⟩ := hb
    refine ⟨_, L2.pss_one (ps_keep (L2.pe_var (i := 0) rfl w1 w2 w3) (L2.pe_callTy L2.call_tuple_of g1 hm (by decide +kernel) (L2.pa_cons (L2.pe_var (i := 1) rfl u1 u2 u3) L2.pa_nil rfl) g3 g2 rfl rfl) rfl), ?_⟩
    refine ⟨.ref p, rfl, p, us, rfl, ?_⟩
    rcases q with ⟨sq, q⟩ | ⟨sq, q⟩
    · refine .inl ⟨sq, fun l hl => ⟨.ref a, rfl, a, C, rfl, T, hno, ?_, fun dx n ne => q l hl dx n ne⟩⟩
      rw [upd_ne (ne_of_none ha hl)]; exact ha
    · exact .inr ⟨sq, .ref a, rfl, a, C, rfl, T, hno, ha, q⟩
  · cases hb
end
section
variable {X : Cx} {x : Str} {e : Expr} {te : TE} {C fI : Addr} {k : Nat} {fd : FuncData} {ps : List Str} {sp : L2.Sp} {p pos : Pos}
theorem pmkE (T : ExC X.K C) (iC : PySem.W.findIn X.K (.ref C) "__init__" = some (some (.ref fI))) (tI : PySem.W.typeIn X.K (.ref fI) = some (.type "function")) (F1 : L2.FnOk X.prog X.w X.K X.mg X.base (L2.CX X.prog X.w) k fI fd ps sp)
    (hr : Room (k + 1) X.A) (hb : L2.Binds X.K fd ps []) (hx : L2.Passes (L2.CX X.prog X.w) X (fun _ _ _ => False)) (hg : L2.Gl X x) (hm : X.mg x = some (.ref C)) (ha : PE X e te) (hdb : (x == ("__debug__" : Str)) = false)
    (he : starEach [e] X.env = [(false, eval e X.env)]) :
    L2.PMk X (.Call (.Name x p) [e] [] pos) (L2.tMkO C sp [] (L2.tCons te L2.tNil)) := by
  have hA := L2.pa_cons ha L2.pa_nil he
  intro pins s σ H Q I h
  refine wpAny_Call_Name_kw (L2.ld_glob I hg hm ?_ hdb)
  refine PySem.W.callWith_K (h₀ := X.base) I.ok.mod.kin T.keep (L2.thn (hA.run pos pins s σ H _ I h) fun us s1 ⟨vs, H1, I1, r1, hz, q1⟩ => ⟨I1.kIn, ?_⟩) he rfl
  obtain ⟨hp, g, dr, tk, os⟩ := s1
  obtain ⟨nm, N, qn, bs, bm, hdct, sn, sub, ab, col, dd, k0, k1, k2, k3, k5, hC, hT⟩ := PySem.W.excInit_of I1.kIn T.ini
  have hsz : hp.objs.size ≤ hp.objs.size + 1 := Nat.le_succ _
  have hn : H1 (hp.objs.size + 1) = none := I1.hok.fresh hsz
  have hq := q1 (hp.objs.size + 1) hn
  generalize hh2 : (hp.push (PySem.W.kdv_tup us)).push (PySem.HandSPX.excO C hp.objs.size) = hp2
  have kk : ∀ b o, hp.get? b = some o → hp2.get? b = some o := fun b o z => by rw [← hh2]; exact Heap.get?_push_of_some _ (Heap.get?_push_of_some _ z)
  have hget : hp2.get? (hp.objs.size + 1) = some (PySem.HandSPX.excO C hp.objs.size) := by rw [← hh2]; heap_get
  have I2 : Inv X pins σ (upd H1 (hp.objs.size + 1) (L2.exo (hp.objs.size + 1) C none)) ⟨hp2, g, dr, tk, os⟩ := I1.laid (t' := tk) (h' := hp2) kk hsz (L2.exo_ok hget)
  have r2 : L2.Vals (V.ref (hp.objs.size + 1) :: (vs ++ [])) (Value.ref (hp.objs.size + 1) :: (us ++ [])) := .cons rfl (r1.append .nil)
  have hl : (Value.ref (hp.objs.size + 1) :: us ++ []).length = ps.length := by
    have e := r2.length
    rw [F1.len _ _ _ _ hq] at e
    exact e.symm
  have hus : us.length ≤ PySem.sizeLine := by rw [← Paired.length r1, szl]; omega
  refine wpAny_call (PySem.HandSPX.call_own PySem.F.excBase_Exception hT hC (PySem.W.looks_findIn I1.kIn iC) (fun self => PySem.W.bind_fn I1.kIn self tI) hus ?_)
  rw [List.nil_append, hh2]
  refine codeAny_mono (F1.run _ X.stack _ _ ⟨Value.ref (hp.objs.size + 1) :: us, []⟩ (Value.ref (hp.objs.size + 1) :: (us ++ [])) _ _ (fun _ _ _ => False) (hr.make C us []) (I2.env0.make C us []) (by have z := hb ⟨hp2, g, dr, tk, os⟩ (Value.ref (hp.objs.size + 1) :: us) I2.kIn hl; simpa using z) r2 hq) fun r s' hq' => ?_
  cases r with
  | error er => exact hx pins σ _ _ er s' I2 hq'
  | ok fl =>
    cases fl with
    | ret u =>
      obtain ⟨v, H2, os2, bare2, un2, hok2, rv, ev, d, fs, ea, ed, hd1, q2⟩ := hq'
      subst ev
      exact ⟨rv, L2.mk_end (L2.raises_own T.bexc T.ty) I1 hsz kk un2 hok2 os2 bare2 ea ed hd1 q2⟩
    | _ => exact False.elim hq'
end
end Y
set_option Elab.async false
set_option linter.all false
set_option maxRecDepth 100000
set_option maxHeartbeats 8000000
namespace Y
open PySem PySem.Spec PyProof.Rows
open L2 (V Hp upd upd_same upd_ne ne_of ne_of_none RelV Vals SqL SqT Rd Cx Inv PE PT PTs PW PS PSs PA PG PGs PI TE TT TS TA TG TGs TI VK XK WX Ends EP Takes Names Zc Sky SP thn)
abbrev CTs := Addr → Value → Option Addr → TS
/-- the ends of a suite whose name is gone behind it -/
def gone (i : Nat) (D : Ends) : Ends := { nx := fun σ' H' => D.nx (σ'.set i none) H', rt := D.rt, bk := fun σ' H' => D.bk (σ'.set i none) H', ct := fun σ' H' => D.ct (σ'.set i none) H' }
def wManyAs (K : PySem.W.Frag) (i : Nat) (Wout : WX) (D : Ends) : List (Value × CTs) → WX
  | [] => Wout
  | (c, ts) :: r => fun cls d σ H => ∃ b, PySem.W.exmOne K cls c = some b ∧ (b = true → ∀ a, H a = none → ts a cls d (gone i D) (σ.set i (some (.ref a))) H) ∧ (b = false → wManyAs K i Wout D r cls d σ H)
inductive HdsAs (X : Cx) (n : Str) : List ExceptHandler → List (Value × CTs) → Prop
  | nil : HdsAs X n [] []
  | cons {x : Str} {c : Value} {ts : CTs} {b₀ : Stmt} {suite : List Stmt} {np pos' : Pos} {hds : List ExceptHandler} {l : List (Value × CTs)} (hc : Names X x c)
      (hsu : ∀ (a : Addr) (oe : Obj) (cls : Value) (d : Option Addr) (pn : List (Addr × Obj)), Zc cls d oe → (∃ vs, oe.data = .fields vs) → PSs (X.suite a ((a, oe) :: pn)) (b₀ :: suite) (ts a cls d)) (r : HdsAs X n hds l) :
      HdsAs X n (.ExceptHandler (some (.Name x np)) (some n) (b₀ :: suite) pos' :: hds) ((c, ts) :: l)
section
variable {X : Cx} {body : List Stmt} {h₀ : ExceptHandler} {hds : List ExceptHandler} {l : List (Value × CTs)} {pos : Pos} {tb : WX → TS} {Wout : WX} {n : Str} {i : Nat}
theorem try_manyAs (hs : X.stack = X.env :: X.outer) (hf : X.env.frame = some X.env.locals) (hN : X.N.Nodup) (hi : X.N[i]? = some n) (hln : X.env.kindOf n = some .local) (tk : Takes X Wout)
    (hb : ∀ (W : WX) (pn : List (Addr × Obj)) (xe : Value → Shared → Prop), Takes (X.tr pn xe) W → PassesOwn (model X.prog X.w) X.A X.env xe → PSs (X.tr pn xe) body (tb W))
    (hh : HdsAs X n (h₀ :: hds) l) : PS X (.Try body (h₀ :: hds) [] [] pos) (fun D σ H => tb (wManyAs X.K i Wout D l) D σ H) := by
  refine ⟨fun pins s σ H D I h => ?_⟩
  have ok := I.ok
  have hfr : X.A.frames = some (X.env :: X.outer) := by rw [ok.frames, hs]
  have hloc : L2.Loc X.env.scope n := .inl hln
  refine wpAny_Try_except ?_
  refine wpAny_mono ((hb (wManyAs X.K i Wout D l) (X.pn ++ pins) (fun e s₁ => wpAny (model X.prog X.w) X.A (noteFrame e X.env) (fun _ s₂ => wpAny (model X.prog X.w) X.A (setFlight e none) (fun _ s₃ =>
    wpAny (model X.prog X.w) X.A (handleBy e X.env (h₀ :: hds)) (SP X pins D) X.xe s₃) X.xe s₂) X.xe s₁) (fun u s' xx => ?_) PassesOwn.looking).run [] s σ H D (I.toTry _) h) (fun f s1 hsp => ?_) (fun e s1 he => he)
  · obtain ⟨a, B, sI, pins', σ', H', cls, d, rfl, J', nb, up, sky, na, os, ag, w⟩ := xx
    have J : Inv X pins σ' H' sI := J'.ofTry ok
    have sky' : Sky B (X.env :: X.outer) a (Zc cls d) X.env.locals s'.heap := by rw [← hs]; exact sky
    show wpAny (model X.prog X.w) X.A (noteFrame (.ref a) X.env) _ _ _
    refine L2.Sky.land Zc.steady hfr hf sky' fun h3 fl3 up3 => ?_
    have J3 : Inv X pins σ' H' { s' with heap := h3 } := J.landed nb fl3.1 (up.trans up3) os ag
    obtain ⟨oe3, vs3, he3, hz3, hd3⟩ := fl3.there
    have notFr : ∀ {h : PySem.Heap} {o : Obj} {vs : Array Value}, h.FunFrames B (X.env :: X.outer) → h.get? a = some o → o.data = .fields vs → a ∉ L2.frs (X.env :: X.outer) := fun {h o vs} ff e dd hm => by
      obtain ⟨_, o', e', hnf⟩ := ff.mem hm
      rw [e] at e'; cases e'
      exact hnf _ dd
    have nfr := notFr fl3.2.2.1 he3 hd3
    have nL : a ≠ X.env.locals := fun z => nfr (List.mem_filterMap.mpr ⟨X.env, List.mem_cons_self, by rw [hf, z]⟩)
    have nF : a ∉ X.fs := fun hm => by
      obtain ⟨e, he, q⟩ := List.mem_filterMap.mp hm
      exact nfr (List.mem_filterMap.mpr ⟨e, List.mem_cons_of_mem _ he, q⟩)
    have S3 := J3.suite he3 hd3 na nL nF
    have go : ∀ {hds' : List ExceptHandler} {l' : List (Value × CTs)}, HdsAs X n hds' l' → wManyAs X.K i Wout D l' cls d σ' H' →
        wpAny (model X.prog X.w) X.A (handleBy (.ref a) X.env hds') (SP X pins D) X.xe { s' with heap := h3 } := by
      intro hds' l' hk
      induction hk with
      | nil =>
        intro w
        refine wpAny_handleBy_nil ?_
        obtain ⟨k1, k2, k3, oe, vs, T, oT, ts', he, hz, hd, h1, hr⟩ := id fl3
        unfold PySem.passOn
        refine wpAny_bind (wpAny_field he hd h1 ?_)
        rw [if_neg (show ¬ ((Value.ref T == Value.none) = true) from by simp)]
        have fin : wpAny (model X.prog X.w) X.A (setFlight (.ref a) X.env.frame) (fun _ s4 => wpAny (model X.prog X.w) X.A (throw (.ref a) : Sem Flow) (SP X pins D) X.xe s4) X.xe { s' with heap := h3 } := by
          rw [hf]
          refine HandSPX.setFlight_upZ fl3 fun h4 hh4 up4 => wpAny_throw (tk _ _ ?_)
          exact ⟨a, B, sI, pins, σ', H', cls, d, rfl, J, nb, (up.trans up3).trans up4, .inr (.inr (by rw [hs]; exact hh4)), na, os, ag, w⟩
        first
          | exact wpAny_bind (wpAny_pure (wpAny_bind fin))
          | exact wpAny_bind fin
      | @cons x c ts b₀ suite np pos' hds2 l2 hc hsu r ih =>
        intro w
        obtain ⟨b, hb1, hyes, hno⟩ := w
        refine wpAny_handleBy_cons (codeAny_handlers_test ?_) (by intro q; cases q)
        have LT : PySem.W.Looks (model X.prog X.w) h3 (typeOf (.ref a)) cls := fun A Q E s k q => wpAny_typeOf_ref (k _ _ he3) (by rw [hz3.1]; exact q)
        have LM := PySem.W.exm_one (M := model X.prog X.w) (J3.kIn) LT hb1
        have test : ∀ {Q : Value → Shared → Prop} {E : Value → Shared → Prop}, Q c { s' with heap := h3 } → wpAny (model X.prog X.w) (X.A.mark (some (.ref a))) (eval (.Name x np) X.env) Q E { s' with heap := h3 } := fun {Q E} q => by
          obtain ⟨hg, hdbg, hm | ⟨hm, hv, hnn⟩⟩ := hc
          · exact L2.ld_glob (X := X.suite a ((a, oe3) :: (X.pn ++ pins))) S3 hg hm q hdbg
          · exact L2.ld_blt (X := X.suite a ((a, oe3) :: (X.pn ++ pins))) S3 hg hm hv q hnn hdbg
        refine test (LM.here ?_)
        cases b with
        | true =>
          refine codeAny_handlers_suite_as ?_
          refine HandSPX.lands_againZ fl3 fun h4 fl4 up4 => ?_
          have J4 : Inv X pins σ' H' { s' with heap := h4 } := J.landed nb fl4.1 ((up.trans up3).trans up4) os ag
          obtain ⟨oe4, vs4, he4, hz4, hd4⟩ := fl4.there
          have S4 := J4.suite he4 hd4 na nL nF
          refine L2.store_ok (X := X.suite a ((a, oe4) :: (X.pn ++ pins))) (v := .ref a) S4 hN hi hloc rfl (fun s5 S5 => ?_) (.inr hln)
          refine wpAny_mono ((hsu a oe4 cls d (X.pn ++ pins) hz4 ⟨_, hd4⟩).run [] s5 _ H' _ S5 (hyes rfl a na)) (fun f s6 hsp => ?_) (fun _ _ z => False.elim z)
          have end_ : ∀ {σ6 : Sg} {H6 : Hp} {Q : Shared → Prop}, Inv (X.suite a ((a, oe4) :: (X.pn ++ pins))) [] σ6 H6 s6 → (∀ s7, Inv X pins (σ6.set i none) H6 s7 → Q s7) →
              wpAny (model X.prog X.w) X.A (do bindName X.env n .none; unbindBehindTheSuite X.env n pos') (fun _ s7 => Q s7) X.xe s6 := fun {σ6 H6 Q} S6 hq => L2.gone_ok (S6.unsuite ok) hN hi hln hq
          cases f with
          | next =>
            obtain ⟨σ6, H6, S6, q6⟩ := hsp
            exact end_ S6 fun s7 J7 => ⟨_, _, J7, q6⟩
          | brk =>
            obtain ⟨σ6, H6, S6, q6⟩ := hsp
            exact end_ S6 fun s7 J7 => ⟨_, _, J7, q6⟩
          | cont =>
            obtain ⟨σ6, H6, S6, q6⟩ := hsp
            exact end_ S6 fun s7 J7 => ⟨_, _, J7, q6⟩
          | ret u =>
            obtain ⟨v6, σ6, H6, S6, r6, q6⟩ := hsp
            exact end_ S6 fun s7 J7 => ⟨_, _, _, J7, r6, q6⟩
        | false =>
          show wpAny _ X.A (handleBy (.ref a) X.env hds2) _ _ _
          exact ih (hno rfl)
    exact go hh w
  · cases f with
    | next =>
      obtain ⟨σ', H', J', q⟩ := hsp
      exact wpAny_execs_nil ⟨σ', H', J'.ofTry ok, q⟩
    | brk =>
      obtain ⟨σ', H', J', q⟩ := hsp
      exact ⟨σ', H', J'.ofTry ok, q⟩
    | cont =>
      obtain ⟨σ', H', J', q⟩ := hsp
      exact ⟨σ', H', J'.ofTry ok, q⟩
    | ret u =>
      obtain ⟨v, σ', H', J', r, q⟩ := hsp
      exact ⟨v, σ', H', J'.ofTry ok, r, q⟩
end
end Y
set_option Elab.async false
set_option linter.all false
set_option maxRecDepth 100000
set_option maxHeartbeats 8000000
namespace Y
open PySem PySem.Spec PyProof.Rows
open L2 (V Hp upd upd_same upd_ne ne_of ne_of_none RelV Vals SqL SqT Rd Cx Inv PE PT PTs PW PS PSs PA PG PGs PI TE TT TS TA TG TGs TI VK XK WX Ends EP Takes Names Zc Sky SP thn)
/-- what a clause for class c does: it hands back (lit, err.attr) -/
def tsTold (i : Nat) (C : Addr) (lit attr : Str) : CTs := fun a cls d => L2.tRet (L2.tTup (L2.tCons (L2.tC (.str lit)) (L2.tCons (L2.tXf a cls d C attr (L2.tVar i)) L2.tNil)))
structure Tcl where
  x : Str
  lit : Str
  attr : Str
  deriving DecidableEq
def isHd (n : Str) (c : Tcl) : ExceptHandler → Bool
  | .ExceptHandler (some (.Name x _)) (some m) [.Return (some (.Tuple [.Constant (.str lit) _ _, .Attribute (.Name m2 _) attr _] _ _)) _] _ =>
    decide (x = c.x) && decide (m = n) && decide (lit = c.lit) && decide (m2 = n) && decide (attr = c.attr)
  | _ => false
def isHds (n : Str) : List Tcl → List ExceptHandler → Bool
  | [], [] => true
  | c :: cs, h :: hs => isHd n c h && isHds n cs hs
  | _, _ => false
section
variable {X : Cx} {n : Str} {i : Nat}
theorem hd_of {c : Tcl} {h : ExceptHandler} (e : isHd n c h = true) : ∃ np k p1 p2 p3 k2 p4 p5 pos', h = .ExceptHandler (some (.Name c.x np)) (some n) [.Return (some (.Tuple [.Constant (.str c.lit) k p1, .Attribute (.Name n p2) c.attr p3] k2 p4)) p5] pos' := by
  unfold isHd at e
  split at e
  · simp only [Bool.and_eq_true, decide_eq_true_eq] at e
    obtain ⟨⟨⟨⟨rfl, rfl⟩, rfl⟩, h4⟩, rfl⟩ := e
    subst h4
    exact ⟨_, _, _, _, _, _, _, _, _, rfl⟩
  · cases e
theorem hds_of (hi : X.N[i]? = some n) (hv : L2.Vis X.env.scope n) (hd1 : (n == ("__debug__" : Str)) = false) (hd2 : (n == ("__classdict__" : Str)) = false) : ∀ {cs : List (Tcl × Addr)} {hds : List ExceptHandler}, isHds n (cs.map (·.1)) hds = true →
    (∀ c ∈ cs, Names X c.1.x (.ref c.2) ∧ L2.XfC X.K c.2 ∧ PySem.W.findIn X.K (.ref c.2) c.1.attr = some none) → HdsAs X n hds (cs.map fun c => (.ref c.2, tsTold i c.2 c.1.lit c.1.attr))
  | [], [], _, _ => .nil
  | [], _ :: _, h, _ => by unfold isHds at h; cases h
  | c :: cs, [], h, _ => by rw [List.map_cons] at h; unfold isHds at h; cases h
  | c :: cs, h :: hs, e, f => by
    rw [List.map_cons] at e
    unfold isHds at e
    obtain ⟨e1, e2⟩ := Bool.and_eq_true_iff.mp e
    obtain ⟨np, k, p1, p2, p3, k2, p4, p5, pos', rfl⟩ := hd_of e1
    obtain ⟨f1, f2, f3⟩ := f c List.mem_cons_self
    refine .cons f1 (fun a oe cls d pn hz hf => ?_) (hds_of hi hv hd1 hd2 e2 fun c' h' => f c' (List.mem_cons_of_mem _ h'))
    exact L2.pss_one (L2.ps_ret (L2.pe_tup (L2.pa_cons L2.pe_str (L2.pa_cons (L2.pe_xf f2 f3 hz hf (L2.pe_var (X := X.suite a ((a, oe) :: pn)) hi hv hd1 hd2)) L2.pa_nil rfl) rfl)))
/-- an exception of class c0 meets its clause -/
theorem many_told {K : PySem.W.Frag} {D : Ends} {Wout : WX} {σ : Sg} {H : Hp} {dd : Addr} {c0 : Tcl × Addr} {v : V} (hdd : H dd = some (.xd [(c0.1.attr, v)])) (hi : i < σ.length) (hq : ∀ p, H p = none → D.rt (.ref p) (upd H p (.tup [.str c0.1.lit, v]))) :
    ∀ {cs : List (Tcl × Addr)}, c0 ∈ cs → (∀ c ∈ cs, PySem.W.exmOne K (.ref c0.2) (.ref c.2) = some (decide (c = c0))) → wManyAs K i Wout D (cs.map fun c => (.ref c.2, tsTold i c.2 c.1.lit c.1.attr)) (.ref c0.2) (some dd) σ H
  | [], h, _ => by cases h
  | c :: cs, h, f => by
    unfold List.map wManyAs
    refine ⟨_, f c List.mem_cons_self, fun hb a ha => ?_, fun hb => many_told hdd hi hq ((List.mem_cons.mp h).resolve_left fun e => ?_) fun c' h' => f c' (List.mem_cons_of_mem _ h')⟩
    · obtain rfl := of_decide_eq_true hb
      refine ⟨.ref a, List.getElem?_set_self hi, rfl, rfl, dd, _, v, rfl, hdd, by simp, by show 2 ≤ PySem.sizeLine; rw [szl]; decide, fun p hp => hq p hp⟩
    · exact of_decide_eq_false hb e.symm
end
end Y
set_option Elab.async false
set_option linter.all false
set_option maxRecDepth 100000
set_option maxHeartbeats 8000000
namespace Y
open PySem PySem.Spec PyProof.Rows
open L2 (V Hp upd upd_same upd_ne ne_of ne_of_none RelV Vals SqL SqT Rd Cx Inv PE PT PTs PW PS PSs PA PG PGs PI TE TT TS TA TG TGs TI VK XK WX Ends EP Takes Names Zc Sky SP thn)
theorem takes_len {X : Cx} {W : WX} (tk : Takes X W) : Takes X (fun cls d σ H => σ.length = X.N.length → W cls d σ H) := fun u s' ⟨a, B, sI, pins, σ, H, cls, d, e, I, nb, up, sky, na, os, ag, w⟩ =>
  tk u s' ⟨a, B, sI, pins, σ, H, cls, d, e, I, nb, up, sky, na, os, ag, w I.len⟩
def ET (Q : VK) (cs : List (Tcl × Addr)) : XK := fun cls d H' => ∃ c0 ∈ cs, ∃ dd v, cls = .ref c0.2 ∧ d = some dd ∧ H' dd = some (.xd [(c0.1.attr, v)]) ∧ ∀ p, H' p = none → Q (.ref p) (upd H' p (.tup [.str c0.1.lit, v]))
def TT9 (vl : Str) (cs : List (Tcl × Addr)) : (XK → Hp → VK → Prop) → Hp → VK → Prop := fun tl H Q => tl (ET Q cs) H fun v H1 => [V.str vl, v].length ≤ PySem.sizeLine ∧ ∀ p, H1 p = none → Q (.ref p) (upd H1 p (.tup [.str vl, v]))
theorem gives9 {X : Cx} {Ng : List Str} {x a q vl n : Str} {sg : Scope} {g : Addr} {cdg : Value} {h0 : ExceptHandler} {hds : List ExceptHandler} {cs : List (Tcl × Addr)} {i k k2 : Nat} {p1 p2 p3 p4 p5 p6 : Pos}
    (hN : Ng.Nodup) (hi : Ng[i]? = some n) (hln : sg.names.lookup n = some .local) (hd1 : (n == ("__debug__" : Str)) = false) (hd2 : (n == ("__classdict__" : Str)) = false)
    (hs : isHds n (cs.map (·.1)) (h0 :: hds) = true) (hg : ∀ c ∈ cs, sg.names.lookup c.1.x = some .globalImplicit ∧ (c.1.x == ("__debug__" : Str)) = false ∧ X.mg c.1.x = some (.ref c.2) ∧ L2.XfC X.K c.2 ∧ PySem.W.findIn X.K (.ref c.2) c.1.attr = some none)
    (hx : ∀ c ∈ cs, ∀ c' ∈ cs, PySem.W.exmOne X.K (.ref c.2) (.ref c'.2) = some (decide (c' = c))) (hst : ∀ f : Addr, (L2.start Ng [V.ref f])[0]? = some (some (V.ref f))) :
    LamX.GivesTo X Ng x sg g cdg [.Try [.Return (some (.Tuple [.Constant (.str vl) k p1, .Call (.Name a p2) [] [] p3] k2 p4)) p5] (h0 :: hds) [] [] p6] a q (TT9 vl cs) := by
  intro f c' s H Q tl act hc h
  refine ⟨_, L2.pss_one (try_manyAs (X := (L2.cxOf C8.CX0 X.prog X.w X.K X.mg X.base Ng x sg g cdg X.A X.stack s H C8.E0).nox) (i := i) (n := n) (l := cs.map fun c => (.ref c.2, tsTold i c.2 c.1.lit c.1.attr))
      (tb := fun W D σ H => ∃ Ech : XK, (∀ cls d σ' H', Ech cls d H' → σ'.length = Ng.length → W cls d σ' H') ∧ σ[0]? = some (some (.ref f)) ∧ H c' = some (LamX.CodeO c' q) ∧ tl Ech H fun v H1 => [V.str vl, v].length ≤ PySem.sizeLine ∧ ∀ p, H1 p = none → D.rt (.ref p) (upd H1 p (.tup [.str vl, v])))
      rfl rfl hN hi hln L2.takes_none5 (fun W pn xe tk _ => ?_) (hds_of (X := (L2.cxOf C8.CX0 X.prog X.w X.K X.mg X.base Ng x sg g cdg X.A X.stack s H C8.E0).nox) hi (.inl hln) hd1 hd2 hs fun c hc => ?_)), ?_⟩
  · refine ⟨fun pins s' σ H' D I h' => ?_⟩
    obtain ⟨Ech, hW, h1, h2, h3⟩ := h'
    have hp := act _ pn xe Ech p2 p3 (takes_len tk) hW
    have hq := L2.pss_one (L2.ps_ret (pos := p5) (L2.pe_tup (x1 := k2) (pos := p4) (L2.pa_cons (L2.pe_str (x := vl) (j := k) (pos := p1)) (L2.pa_cons hp L2.pa_nil rfl) rfl)))
    exact hq.run pins s' σ H' D I ⟨h1, h2, h3⟩
  · obtain ⟨h1, h2, h3, h4, h5⟩ := hg c hc
    exact ⟨⟨h1, h2, .inl h3⟩, h4, h5⟩
  · refine ⟨ET Q cs, fun cls d σ' H' he hl => ?_, hst f, hc, h⟩
    obtain ⟨c0, hm, dd, v, rfl, rfl, e1, e2⟩ := he
    exact many_told e1 (by rw [hl]; exact (List.getElem?_eq_some_iff.mp hi).1) e2 hm (fun c hc => hx c0 hm c hc)
end Y
set_option Elab.async false
set_option linter.all false
set_option maxRecDepth 100000
set_option maxHeartbeats 4000000
namespace Y
open PySem PySem.Spec PyProof.Rows
open L2 (V Hp upd upd_same upd_ne ne_of ne_of_none RelV Vals SqL SqT Rd Cx Inv PE PT PW PS PSs PA PG PI TE TT TS TA TG TI VK XK Ends EP)
/-- a def's promise: what the interpreter's call gives -/
def spF (L : Lk) (K : PySem.W.Frag) (call : Nat → Nat → List D → Heap → Res D) (k : Nat) : L2.Sp := fun vs H Q E => ∃ b h r ds, HR L K r h H ∧ RelDs L K H r ds vs ∧ vs.length = (L.ps k).length ∧
  (match call b k ds h with
    | .ok d h' => ∀ v H' r', r <+: r' → Keep H H' → HR L K r' h' H' → RelD L K H' r' d v → Q v H'
    | .exc c ds h' => ∀ x H' r', r <+: r' → Keep H H' → HR L K r' h' H' → XRel L K c ds r' H' x → E (.ref (L.ca c)) (some x) H'
    | .err => False)
def lvl (n : Nat) : Nat := 2 * n + 1
/-- an error's class c: its name, what its maker keeps -/
def XCls (L : Lk) (Pg : Prog) (P : Program) (w : World) (K : PySem.W.Frag) (mg : Str → Option Value) (base : PySem.Heap) (c : Nat) (x : Str) : Prop :=
  mg x = some (.ref (L.ca c)) ∧ ExC K (L.ca c) ∧ PySem.W.takerIn K (L.ca c) (L.xn c) = some none ∧ ∃ (fI : Addr) (fd : FuncData) (ps : List Str), PySem.W.findIn K (.ref (L.ca c)) "__init__" = some (some (.ref fI)) ∧ PySem.W.typeIn K (.ref fI) = some (.type "function") ∧
    L2.Binds K fd ps [] ∧ L2.FnOk P w K mg base (L2.CX P w) 1 fI fd ps (if Pg.xtup c then spT K (L.xn c) else spP K (L.xn c))
/-- the def that tells what a deed does -/
def ToldOk (L : Lk) (Pg : Prog) (K : PySem.W.Frag) (mg : Str → Option Value) : Prop := ∃ (g : Addr) (a n : Str) (Ng : List Str) (sg : Scope) (pg : Arguments) (i k k2 : Nat) (h0 : ExceptHandler) (hds : List ExceptHandler) (p1 p2 p3 p4 p5 p6 : Pos) (cs : List (Tcl × Addr)) (oc dV kV doc pm cdv ct : Value) (od an : Option Addr) (osl : Array (Option Value)),
  mg "_law_told" = some (.ref g) ∧ PySem.W.keepIn K (.ref g) = true ∧
  K.lookup g = some ⟨oc, od, .func (PySem.W.fnOf "_law_told" "_law_told" pg [.Try [.Return (some (.Tuple [.Constant (.str "value") k p1, .Call (.Name a p2) [] [] p3] k2 p4)) p5] (h0 :: hds) [] [] p6] sg dV kV doc pm an cdv ct), osl⟩ ∧ PySem.W.codeIn K cdv "_law_told" = true ∧
  L2.Binds K (PySem.W.fnOf "_law_told" "_law_told" pg [.Try [.Return (some (.Tuple [.Constant (.str "value") k p1, .Call (.Name a p2) [] [] p3] k2 p4)) p5] (h0 :: hds) [] [] p6] sg dV kV doc pm an cdv ct) [a] [] ∧
  L2.FnScope Ng [a] sg ∧ Ng[0]? = some a ∧ visB sg a = true ∧ Ng[i]? = some n ∧ sg.names.lookup n = some .local ∧ visB sg n = true ∧ isHds n (cs.map (·.1)) (h0 :: hds) = true ∧
  (∀ c ∈ cs, glB sg c.1.x = true ∧ mg c.1.x = some (.ref c.2) ∧ L2.XfC K c.2 ∧ PySem.W.findIn K (.ref c.2) c.1.attr = some none) ∧
  (∀ c ∈ cs, ∀ c' ∈ cs, PySem.W.exmOne K (.ref c.2) (.ref c'.2) = some (decide (c' = c))) ∧
  ∀ (c : Nat) (nm : List Nat), Pg.told c = some nm → okS nm ∧ ∃ q ∈ cs, q.2 = L.ca c ∧ q.1.lit = toS nm ∧ q.1.attr = L.xn c
/-- a def's code object and its table, for the lambdas that it makes -/
def CodeT (L : Lk) (mg : Str → Option Value) (base : PySem.Heap) (q : Str) (cdv : Value) : Prop := ∃ c P : Addr, cdv = .ref c ∧ LamX.TabB base mg c P ∧ (P, q) ∈ L.tb ∧ ∀ p ∈ L.tb, p.1 = P → p.2 = q
structure Link (L : Lk) (Pg : Prog) (P : Program) (w : World) (K : PySem.W.Frag) (mg : Str → Option Value) (base : PySem.Heap) : Prop where
  fnG : ∀ (k : Nat) (x : Str), L.nm.fn[k]? = some x → x ≠ Str.empty → mg x = some (.ref (L.fa k)) ∧ PySem.W.keepIn K (.ref (L.fa k)) = true
  fnK : ∀ (k : Nat) (x : Str), L.nm.fn[k]? = some x → L2.Binds K (L.fd k) (L.ps k) []
  cG : ∀ (k : Nat) (x : Str) (d : D), L.nm.cn[k]? = some x → Pg.consts[k]? = some d → ∃ u v, mg x = some u ∧ RelV v u ∧ ∀ H r, RelD L K H r d v
  bG : ∀ x ∈ blts, mg x = none
  clG : ∀ (c : Nat) (x : Str), L.nm.cl[c]? = some x → x ≠ Str.empty → mg x = some (.ref (L.ca c)) ∧ ∃ k, Pg.init c = some k
  clK : ∀ (c k : Nat), Pg.init c = some k → L.own c = true ∧ L2.Mk K (L.ca c) (L.fa k) ∧ ∃ x, L.nm.fn[k]? = some x
  clC : ∀ c : Nat, L.own c = true → L2.Cls K (L.ca c)
  mtK : ∀ (c m k : Nat) (x : Str), Pg.meth c m = some k → L.nm.mn[m]? = some x → L2.Meth K (L.ca c) x (L.fa k) ∧ ∃ y, L.nm.fn[k]? = some y
  anM : ∀ (m : Nat) (x : Str), L.nm.mn[m]? = some x → ∀ f, L.nm.an.getD f Str.empty ≠ x
  anI : ∀ (f g : Nat) (x : Str), L.nm.an[f]? = some x → L.nm.an.getD g Str.empty = x → g = f
  xlG : ∀ (c : Nat) (x : Str), L.nm.xl[c]? = some x → x ≠ Str.empty → XCls L Pg P w K mg base c x
  ckK : ∀ (x m : Str) (k : Nat), (x, m, k) ∈ L.nm.ck → ∃ Cc : Addr, mg x = some (.ref Cc) ∧ ClX.CRead K Cc (.type "type") ∧ PySem.W.findCls K (.ref Cc) (.type "type") m = some (.val (.ref (L.fa k))) ∧ PySem.W.keepIn K (.ref (L.fa k)) = true ∧ ∃ y, L.nm.fn[k]? = some y
  fdK : ∀ (c f : Nat) (x : Str), L.own c = true → L.nm.an[f]? = some x → L2.NoAttr K (L.ca c) x
structure Good (L : Lk) (C : Ctx) (n : Nat) (W : XK) (X : Cx) : Prop where
  calm : X.calm = true
  room : L2.Room (lvl n + 1) X.A
  nd : X.N.Nodup
  tk : L2.Takes X (fun cls d _ H => W cls d H)
  link : Link L C.P X.prog X.w X.K X.mg X.base
  fns : ∀ (k : Nat) (x : Str), L.nm.fn[k]? = some x → L2.FnOk X.prog X.w X.K X.mg X.base (L2.CX X.prog X.w) (lvl n) (L.fa k) (L.fd k) (L.ps k) (spF L X.K C.call k)
  clen : ∀ b k ds h, C.call b k ds h = .err ∨ ds.length = (L.ps k).length
  lows : C.tl = true → ∃ m, L2.Room (lvl m + 3) X.A ∧ (∀ (k : Nat) (x : Str), L.nm.fn[k]? = some x → L2.FnOk X.prog X.w X.K X.mg X.base (L2.CX X.prog X.w) (lvl m) (L.fa k) (L.fd k) (L.ps k) (spF L X.K C.low k)) ∧ ∀ b k ds h, C.low b k ds h = .err ∨ ds.length = (L.ps k).length
  code : C.tl = true → CodeT L X.mg X.base (X.env.qual ++ "<lambda>") X.env.code ∧ ToldOk L C.P X.K X.mg
section
variable {L : Lk} {C : Ctx} {n : Nat} {W : XK} {X : Cx} {H : Hp} {r : List Addr} {h : Heap} {env : Env} {σ : Sg} {Q : VK} {x y : V} {dx dy : D}
/-- behind a step without effect on the state -/
theorem Post.here {R : Hp → List Addr → D → V → Prop} {d : D} {v : V} (p : Post L X.K R W env σ r H Q (.ok d h)) (s : SR L X.K env h r σ H) (g : R H r d v) : Q v H := p v H r (List.prefix_refl r) (Keep.refl H) s g
theorem Post.hereB {R : Hp → List Addr → Bool → Bool → Prop} {Q : Bool → Hp → Prop} {d v : Bool} (p : Post L X.K R W env σ r H Q (.ok d h)) (s : SR L X.K env h r σ H) (g : R H r d v) : Q v H := p v H r (List.prefix_refl r) (Keep.refl H) s g
theorem toS_len (s : List Nat) : (toS s).length = s.length := by unfold toS Str.length; simp
theorem toS_app (a b : List Nat) : toS a ++ toS b = toS (a ++ b) := TL.ext_tl (by rw [TL.tl_append]; rfl)
theorem new_tup (s : SR L X.K env h r σ H) {xs : List V} {ds : List D} (g : RelDs L X.K H r ds xs) {p : Addr} (n : H p = none) :
    SR L X.K env h r σ (upd H p (.tup xs)) ∧ RelD L X.K (upd H p (.tup xs)) r (.tup ds) (.ref p) := by
  refine ⟨s.new n, ?_⟩
  unfold RelD
  exact ⟨p, xs, rfl, L2.SqT.of upd_same, g.mono (Keep.new n) (List.prefix_refl r)⟩
theorem new_lst (s : SR L X.K env h r σ H) {xs : List V} {ds : List D} (g : RelDs L X.K H r ds xs) {p : Addr} (n : H p = none) :
    SR L X.K env (h ++ [.lst ds]) (r ++ [p]) σ (upd H p (.lst xs)) ∧ RelD L X.K (upd H p (.lst xs)) (r ++ [p]) (.ref h.length) (.ref p) := by
  refine ⟨s.push n ⟨xs, upd_same, g.mono (Keep.new n) (List.prefix_append r [p])⟩, ?_⟩
  unfold RelD
  refine ⟨p, rfl, ?_⟩
  rw [← s.hr.len, List.getElem?_append_right (Nat.le_refl _), Nat.sub_self]
  rfl
theorem Post.tup {ds : List D} {xs : List V} (p : Post L X.K (RV L X.K) W env σ r H Q (mkTup ds h)) (s : SR L X.K env h r σ H) (g : RelDs L X.K H r ds xs) : xs.length ≤ PySem.sizeLine ∧ ∀ q, H q = none → Q (.ref q) (upd H q (.tup xs)) := by
  unfold mkTup at p
  split at p
  · rename_i hl
    refine ⟨by rw [← g.length, szl]; exact hl, fun q hq => ?_⟩
    obtain ⟨s', g'⟩ := new_tup s g hq
    exact p _ _ r (List.prefix_refl r) (Keep.new hq) s' g'
  · exact p.elim
theorem Post.tupH {ds : List D} (p : Post L X.K (RV L X.K) W env σ r H Q (mkTup ds h)) : Post L X.K (RV L X.K) W env σ r H Q (.ok (.tup ds) h) := by
  unfold mkTup at p
  split at p
  · exact p
  · exact p.elim
theorem Post.lst {ds : List D} {xs : List V} (p : Post L X.K (RV L X.K) W env σ r H Q (mkLst ds h)) (s : SR L X.K env h r σ H) (g : RelDs L X.K H r ds xs) : xs.length ≤ PySem.sizeLine ∧ ∀ q, H q = none → Q (.ref q) (upd H q (.lst xs)) := by
  unfold mkLst at p
  split at p
  · rename_i hl
    refine ⟨by rw [← g.length, szl]; exact hl, fun q hq => ?_⟩
    obtain ⟨s', g'⟩ := new_lst s g hq
    exact p _ _ _ (List.prefix_append r [q]) (Keep.new hq) s' g'
  · exact p.elim
theorem Post.str {a : List Nat} (p : Post L X.K (RV L X.K) W env σ r H Q (mkStr a h)) (s : SR L X.K env h r σ H) (ha : ∀ c ∈ a, c < 128) : a.length ≤ PySem.sizeLine ∧ Q (.str (toS a)) H := by
  unfold mkStr at p
  split at p
  · rename_i hl
    have hl' : a.length ≤ PySem.sizeLine := by rw [szl]; exact hl
    exact ⟨hl', p.here s (by unfold RelD; exact ⟨rfl, hl', ha⟩)⟩
  · exact p.elim
theorem mk_str {a : List Nat} (h : okS a) : RelD L X.K H r (.str a) (.str (toS a)) := by unfold RelD; exact ⟨rfl, h⟩
theorem okS.app {a b : List Nat} (ha : okS a) (hb : okS b) : ∀ c ∈ a ++ b, c < 128 := fun c hc => (List.mem_append.mp hc).elim (ha.2 c) (hb.2 c)
theorem rel_int {i : Int} {v : V} (g : RelD L X.K H r (.int i) v) : v = .int i := by unfold RelD at g; exact g
theorem rel_str {a : List Nat} {v : V} (g : RelD L X.K H r (.str a) v) : v = .str (toS a) ∧ okS a := by unfold RelD at g; exact g
theorem rel_bl {b : Bool} {v : V} (g : RelD L X.K H r (.bl b) v) : v = .bl b := by unfold RelD at g; exact g
theorem mk_int {i : Int} : RelD L X.K H r (.int i) (.int i) := by unfold RelD; rfl
theorem mk_bl {b : Bool} : RelD L X.K H r (.bl b) (.bl b) := by unfold RelD; rfl
theorem rel_tup {ds : List D} {v : V} (g : RelD L X.K H r (.tup ds) v) : ∃ p xs, v = .ref p ∧ SqT X.K H p xs ∧ RelDs L X.K H r ds xs := by unfold RelD at g; exact g
/-- a list of mine -/
theorem rel_lst {a : Nat} {v : V} {ds : List D} (s : SR L X.K env h r σ H) (g : RelD L X.K H r (.ref a) v) (e : h[a]? = some (.lst ds)) : ∃ p xs, v = .ref p ∧ r[a]? = some p ∧ H p = some (.lst xs) ∧ RelDs L X.K H r ds xs := by
  unfold RelD at g
  obtain ⟨p, e1, e2⟩ := g
  obtain ⟨xs, h1, h2⟩ := s.hr.at_ a _ p e e2
  exact ⟨p, xs, e1, e2, h1, h2⟩
theorem list?_ref {a : Nat} {ds : List D} (e : list? h (.ref a) = some ds) : h[a]? = some (.lst ds) := by
  unfold list? Heap.at at e
  dsimp only at e
  split at e
  · rename_i q; cases e; exact q
  · cases e
end
end Y
set_option Elab.async false
set_option linter.all false
set_option maxRecDepth 100000
set_option maxHeartbeats 4000000
namespace Y
open PySem PySem.Spec PyProof.Rows
open L2 (V Hp upd upd_same upd_ne ne_of ne_of_none RelV Vals SqL SqT Rd Cx Inv PE PT PW PS PSs PA PG PI TE TT TS TA TG TI VK XK Ends EP)
section
variable {L : Lk} {C : Ctx} {n : Nat} {W : XK} {X : Cx} {H : Hp} {r : List Addr} {h : Heap} {env : Env} {σ : Sg} {Q : VK} {x y : V} {dx dy : D}
theorem small_of {i : Int} (h : small64 i = true) : -(2 ^ 64) < i ∧ i < 2 ^ 64 := by
  unfold small64 at h
  simp only [Bool.and_eq_true, decide_eq_true_eq] at h
  exact ⟨by omega, by omega⟩
theorem binI_ok {op : Operator} {i j k : Int} (g : Good L C n W X) (e : binI op i j = some k) (q : Q (.int k) H) : wOp X (binaryOp op) (.int i) (.int j) H Q := by
  cases op with
  | Add => unfold binI at e; cases e; exact wOp.of L2.op_add ⟨i, j, rfl, rfl, q⟩
  | Sub => unfold binI at e; cases e; exact wOp.of L2.op_sub ⟨i, j, rfl, rfl, q⟩
  | Mult =>
    unfold binI at e
    dsimp only at e
    split at e
    · rename_i hs
      cases e
      refine wOp.of L2.op_mul ⟨i, j, rfl, rfl, ?_, q⟩
      rcases Bool.or_eq_true_iff.mp hs with z | z
      · exact .inl (small_of z)
      · exact .inr (small_of z)
    · cases e
  | FloorDiv =>
    unfold binI at e
    dsimp only at e
    split at e
    · rename_i hs
      cases e
      exact wOp.of L2.op_fdiv ⟨i, j, rfl, rfl, hs, q⟩
    · cases e
  | Mod =>
    unfold binI at e
    dsimp only at e
    split at e
    · rename_i hs
      cases e
      exact wOp.of L2.op_mod ⟨i, j, rfl, rfl, hs, q⟩
    · cases e
  | Pow =>
    unfold binI at e
    dsimp only at e
    split at e
    · rename_i hs
      cases e
      exact wOp.of L2.op_pow ⟨i, j, rfl, rfl, ⟨hs.1, by omega, by omega⟩, q⟩
    · cases e
  | LShift =>
    unfold binI at e
    dsimp only at e
    split at e
    · rename_i hs
      cases e
      exact wOp.of L2.op_shl ⟨i, j, rfl, rfl, ⟨hs.1, by omega, by omega⟩, q⟩
    · cases e
  | RShift =>
    unfold binI at e
    dsimp only at e
    split at e
    · rename_i hs
      cases e
      exact wOp.of L2.op_shr ⟨i, j, rfl, rfl, hs.1, q⟩
    · cases e
  | BitOr => unfold binI at e; cases e; exact wOp.of L2.op_or ⟨i, j, rfl, rfl, q⟩
  | BitXor => unfold binI at e; cases e; exact wOp.of L2.op_xor ⟨i, j, rfl, rfl, q⟩
  | BitAnd => unfold binI at e; cases e; exact wOp.of L2.op_and ⟨i, j, rfl, rfl, q⟩
  | _ => unfold binI at e; cases e
theorem rep_len {α : Type} (xs : List α) (k : Nat) : (rep xs k).length = xs.length * k := by
  unfold rep
  rw [List.length_flatten, List.map_replicate, List.sum_replicate_nat, Nat.mul_comm]
theorem RelDs.rep {K : PySem.W.Frag} {ds : List D} {xs : List V} (g : RelDs L K H r ds xs) : ∀ k : Nat, RelDs L K H r (rep ds k) (List.replicate k xs).flatten
  | 0 => .nil
  | k + 1 => by
    unfold Y.rep
    rw [List.replicate_succ, List.replicate_succ, List.flatten_cons, List.flatten_cons]
    exact g.append (RelDs.rep g k)
theorem foldl_app (a : List Nat) : ∀ (k : Nat) (acc : List Nat), (List.replicate k a.toArray).foldl (· ++ ·) acc.toArray = (acc ++ (List.replicate k a).flatten).toArray
  | 0, acc => by simp
  | k + 1, acc => by
    rw [List.replicate_succ, List.replicate_succ, List.foldl_cons, List.flatten_cons, List.append_toArray, foldl_app a k (acc ++ a), List.append_assoc]
theorem txt_mul (a : List Nat) (j : Int) : Txt.mul (toS a) j = toS (rep a j.toNat) := by
  unfold Txt.mul
  split
  · rename_i h
    have e : j.toNat = 0 := by omega
    rw [e]; rfl
  · rename_i h
    split
    · rename_i h2
      rcases Bool.or_eq_true_iff.mp h2 with z | z
      · have e : j = 1 := by simpa using z
        subst e
        show toS a = toS (rep a 1)
        unfold rep
        simp
      · have e : a = [] := by
          have := (show (toS a).length = 0 by simpa using z)
          rw [toS_len] at this
          exact List.length_eq_zero_iff.mp this
        subst e
        unfold rep
        simp [List.flatten_replicate_nil]
    · have := foldl_app a j.toNat []
      rw [List.nil_append] at this
      unfold toS rep
      rw [← this]
theorem mul_ok {a : List Nat} {j : Int} (h1 : -1000000 ≤ j) (h2 : j ≤ 1000000) (hl : (rep a j.toNat).length ≤ PySem.sizeLine) : MulOk (toS a) j := by
  rw [rep_len, szl] at hl
  refine ⟨?_, fun h3 h4 => ?_, fun h3 h4 => ?_⟩
  · rw [Bool.or_eq_false_iff]; exact ⟨decide_eq_false (by omega), decide_eq_false (by omega)⟩
  · rw [toS_len]
    have h5 : (a.length : Int) * j ≤ 16777216 := by
      have : ((a.length * j.toNat : Nat) : Int) ≤ 16777216 := Int.ofNat_le.mpr hl
      rw [Int.natCast_mul, Int.toNat_of_nonneg (by omega)] at this
      exact this
    have h6 : (a.length : Int) ≤ (2 ^ 63 - 1) / j := by
      rw [Int.le_ediv_iff_mul_le (by omega)]
      omega
    omega
  · rw [toS_len]
    show decide (a.length * j.toNat > PySem.sizeLine) = false
    rw [szl]
    exact decide_eq_false (by omega)
theorem op_mul_s : L2.OpR X (binaryOp .Mult) (fun x y H Q => ∃ a j, x = .str (toS a) ∧ y = .int j ∧ MulOk (toS a) j ∧ Q (.str (Txt.mul (toS a) j)) H) := by
  intro pins s σ H x y v u Q I rx ry h
  obtain ⟨a, j, rfl, rfl, hm, q⟩ := h
  obtain ⟨t, rfl⟩ := rx
  obtain ⟨t', rfl⟩ := ry
  exact PySem.SB.mul hm fun t' k => ⟨.str _, H, I.tok _, ⟨_, rfl⟩, q⟩
theorem binop_ok {op : Operator} (g : Good L C n W X) (s : SR L X.K env h r σ H) (gx : RelD L X.K H r dx x) (gy : RelD L X.K H r dy y) (p : Post L X.K (RV L X.K) W env σ r H Q (binop op dx dy h)) : wOp X (binaryOp op) x y H Q := by
  unfold binop at p
  split at p
  · rename_i i j
    cases rel_int gx
    cases rel_int gy
    split at p
    · rename_i k e
      exact binI_ok g e (p.here s mk_int)
    · exact p.elim
  · rename_i a b
    obtain ⟨rfl, ha⟩ := rel_str gx
    obtain ⟨rfl, hb⟩ := rel_str gy
    split at p
    · obtain ⟨hl, q⟩ := p.str s (ha.app hb)
      exact wOp.of L2.op_add_str ⟨_, _, rfl, rfl, by rw [toS_len, toS_len, ← List.length_append]; exact hl, by rw [toS_app]; exact q⟩
    · exact p.elim
  · rename_i a b
    obtain ⟨pa, xs, rfl, sa, ra⟩ := rel_tup gx
    obtain ⟨pb, ys, rfl, sb, rb⟩ := rel_tup gy
    split at p
    · obtain ⟨hl, q⟩ := p.tup s (ra.append rb)
      have p' := p.tupH
      refine wOp.of L2.op_catA ⟨pa, pb, xs, ys, rfl, rfl, sa, sb, by rw [← List.length_append]; exact hl, fun e => ?_, fun _ e => ?_, fun _ _ => q⟩
      · subst e
        obtain rfl : a = [] := List.length_eq_zero_iff.mp ra.length
        exact p'.here s (by unfold RelD; exact ⟨pb, ys, rfl, sb, rb⟩)
      · subst e
        obtain rfl : b = [] := List.length_eq_zero_iff.mp rb.length
        exact p'.here s (by unfold RelD; exact ⟨pa, xs, rfl, sa, by rw [List.append_nil]; exact ra⟩)
    · exact p.elim
  · rename_i a j
    obtain ⟨rfl, ha⟩ := rel_str gx
    cases rel_int gy
    split at p
    · split at p
      · rename_i hj
        obtain ⟨hl, q⟩ := p.str s (fun c hc => by
          unfold rep at hc
          obtain ⟨l, hl, hc⟩ := List.mem_flatten.mp hc
          rw [(List.mem_replicate.mp hl).2] at hc
          exact ha.2 c hc)
        exact wOp.of op_mul_s ⟨a, j, rfl, rfl, mul_ok hj.1 hj.2 hl, by rw [txt_mul]; exact q⟩
      · exact p.elim
    · exact p.elim
  · rename_i ds j
    obtain ⟨q, xs, rfl, sq, gs⟩ := rel_tup gx
    cases rel_int gy
    split at p
    · split at p
      · rename_i hj
        have hne : xs ≠ [] := by
          rintro rfl
          have : ds = [] := List.length_eq_zero_iff.mp gs.length
          rw [this] at hj
          exact absurd hj.2.2.2 (by decide)
        refine wOp.of L2.op_repT ⟨q, j, xs, rfl, rfl, sq, hne, hj.1, hj.2.1, by rw [← gs.length]; exact hj.2.2.1, fun l hl => ?_⟩
        obtain ⟨s', g'⟩ := new_tup s (gs.rep j.toNat) hl
        exact p _ _ r (List.prefix_refl r) (Keep.new hl) s' g'
      · exact p.elim
    · exact p.elim
  · rename_i a b
    split at p
    · split at p
      · rename_i xs ys e1 e2
        have e1 := list?_ref e1
        have e2 := list?_ref e2
        obtain ⟨pa, us, rfl, ia, ha, ra⟩ := rel_lst s gx e1
        obtain ⟨pb, vs, rfl, ib, hb, rb⟩ := rel_lst s gy e2
        obtain ⟨hl, q⟩ := p.lst s (ra.append rb)
        exact wOp.of L2.op_cat ⟨pa, pb, us, vs, rfl, rfl, ha, hb, by rw [← List.length_append]; exact hl, q⟩
      · exact p.elim
    · exact p.elim
  · rename_i a j
    split at p
    · split at p
      · rename_i zs ez
        split at p
        · rename_i hj
          have ez := list?_ref ez
          obtain ⟨q, us, rfl, _, hp, gs⟩ := rel_lst s gx ez
          cases rel_int gy
          obtain ⟨hl, q'⟩ := p.lst s (gs.rep j.toNat)
          rw [show (List.replicate j.toNat us).flatten = rep us j.toNat from rfl, rep_len] at hl
          exact wOp.of L2.op_rep ⟨q, j, us, rfl, rfl, hp, by omega, by omega, hl, q'⟩
        · exact p.elim
      · exact p.elim
    · exact p.elim
  · exact p.elim
end
end Y
set_option Elab.async false
set_option linter.all false
set_option maxRecDepth 100000
set_option maxHeartbeats 4000000
namespace Y
open PySem PySem.Spec PyProof.Rows
open L2 (V Hp upd upd_same upd_ne ne_of ne_of_none RelV Vals SqL SqT Rd Cx Inv PE PT PW PS PSs PA PG PI TE TT TS TA TG TI VK XK Ends EP)
variable {L : Lk} {C : Ctx} {n : Nat} {W : XK} {X : Cx} {H : Hp} {r : List Addr} {h : Heap} {env : Env} {σ : Sg} {Q : VK} {x y : V} {dx dy : D}
mutual
def toP : D → PyData
  | .bl b => .bool b
  | .int i => .int i
  | .str s => .str (toS s)
  | .tup ds => .tuple (toPs ds)
  | _ => .none
def toPs : List D → List PyData
  | [] => []
  | d :: ds => toP d :: toPs ds
end
mutual
theorem dp_of {K : PySem.W.Frag} : ∀ {m : Nat} {d : D} {v : V}, RelD L K H r d v → dat m d = true → L2.Dp K H v (toP d) ∧ (toP d).canLay0 = true ∧ (toP d).depth ≤ m
  | _, .non, v, g, e => by unfold RelD at g; subst g; exact ⟨.non, rfl, Nat.zero_le _⟩
  | _, .bl b, v, g, e => by unfold RelD at g; subst g; exact ⟨.bl b, rfl, Nat.zero_le _⟩
  | _, .int i, v, g, e => by unfold RelD at g; subst g; exact ⟨.int i, rfl, Nat.zero_le _⟩
  | _, .str s, v, g, e => by
    unfold RelD at g
    obtain ⟨rfl, hs⟩ := g
    refine ⟨.str _, ?_, Nat.zero_le _⟩
    show (toS s).cps.all (· < 0x110000) = true
    unfold toS
    rw [Array.all_eq_true']
    intro c hc
    have := hs.2 c (by simpa using hc)
    exact decide_eq_true (by omega)
  | m, .tup ds, v, g, e => by
    unfold RelD at g; unfold dat at e
    obtain ⟨q, xs, rfl, sq, gs⟩ := g
    obtain ⟨e1, e2⟩ := Bool.and_eq_true_iff.mp e
    have e1 := of_decide_eq_true e1
    obtain ⟨h1, h2, h3⟩ := dps_of gs e2
    unfold toP
    refine ⟨.tup sq h1, h2, ?_⟩
    show PyData.depthAll (toPs ds) + 1 ≤ m
    omega
  | _, .ref _, _, _, e => by unfold dat at e; cases e
  | _, .fn _, _, _, e => by unfold dat at e; cases e
  | _, .clo _ _, _, _, e => by unfold dat at e; cases e
  | _, .frz _, _, _, e => by unfold dat at e; cases e
theorem dps_of {K : PySem.W.Frag} : ∀ {m : Nat} {ds : List D} {vs : List V}, RelDs L K H r ds vs → dats m ds = true → L2.DpAll K H vs (toPs ds) ∧ PyData.canLayAll0 (toPs ds) = true ∧ PyData.depthAll (toPs ds) ≤ m
  | _, [], vs, g, e => by unfold RelDs at g; subst g; exact ⟨.nil, rfl, Nat.zero_le _⟩
  | m, d :: ds, vs, g, e => by
    unfold RelDs at g; unfold dats at e
    obtain ⟨a, as, rfl, g1, g2⟩ := g
    obtain ⟨e1, e2⟩ := Bool.and_eq_true_iff.mp e
    obtain ⟨h1, h2, h3⟩ := dp_of g1 e1
    obtain ⟨k1, k2, k3⟩ := dps_of g2 e2
    unfold toPs
    refine ⟨.cons h1 k1, ?_, ?_⟩
    · show ((toP d).canLay0 && PyData.canLayAll0 (toPs ds)) = true
      rw [h2, k2]; rfl
    · show max (toP d).depth (PyData.depthAll (toPs ds)) ≤ m
      omega
end
theorem eqL_iff : ∀ a b : List Nat, eqL a b = decide (a = b)
  | [], [] => by simp [eqL]
  | [], _ :: _ => by simp [eqL]
  | _ :: _, [] => by simp [eqL]
  | a :: as, b :: bs => by
    unfold eqL
    by_cases h : a = b
    · subst h; rw [if_pos rfl, eqL_iff as bs]; simp
    · rw [if_neg h]; simp [h]
theorem toS_inj {a b : List Nat} : toS a = toS b ↔ a = b := by
  constructor
  · intro h
    have := congrArg (fun s => s.cps.toList) h
    simpa [toS] using this
  · rintro rfl; rfl
theorem toS_beq (a b : List Nat) : (toS a == toS b) = eqL a b := by
  rw [eqL_iff, Bool.eq_iff_iff, beq_iff_eq, toS_inj, decide_eq_true_eq]
mutual
theorem eqv_of : ∀ {m k : Nat} (a b : D), dat m a = true → dat k b = true → PyData.eqv (toP a) (toP b) = eqB a b
  | _, k, .non, b, _, e => by cases b <;> first | rfl | (unfold dat at e; cases e; done)
  | _, k, .bl a, b, _, e => by cases b <;> first | rfl | (unfold dat at e; cases e; done)
  | _, k, .int a, b, _, e => by
    cases b with
    | int j => unfold toP eqB PyData.eqv; exact Bool.beq_eq_decide_eq _ _
    | _ => first | rfl | (unfold dat at e; cases e; done)
  | _, k, .str a, b, _, e => by
    cases b with
    | str j => unfold toP eqB PyData.eqv; exact toS_beq a j
    | _ => first | rfl | (unfold dat at e; cases e; done)
  | m, k, .tup as, b, e0, e => by
    cases b with
    | tup bs =>
      unfold dat at e e0
      unfold toP eqB PyData.eqv
      exact eqvs_of as bs (Bool.and_eq_true_iff.mp e0).2 (Bool.and_eq_true_iff.mp e).2
    | _ => first | rfl | (unfold dat at e; cases e; done)
  | _, _, .ref _, _, e, _ => by unfold dat at e; cases e
  | _, _, .fn _, _, e, _ => by unfold dat at e; cases e
  | _, _, .clo _ _, _, e, _ => by unfold dat at e; cases e
  | _, _, .frz _, _, e, _ => by unfold dat at e; cases e
theorem eqvs_of : ∀ {m k : Nat} (as bs : List D), dats m as = true → dats k bs = true → PyData.eqvAll (toPs as) (toPs bs) = eqBs as bs
  | _, _, [], [], _, _ => rfl
  | _, _, [], _ :: _, _, _ => rfl
  | _, _, _ :: _, [], _, _ => rfl
  | _, _, a :: as, b :: bs, e0, e => by
    unfold dats at e e0
    unfold toPs eqBs PyData.eqvAll
    rw [eqv_of a b (Bool.and_eq_true_iff.mp e0).1 (Bool.and_eq_true_iff.mp e).1, eqvs_of as bs (Bool.and_eq_true_iff.mp e0).2 (Bool.and_eq_true_iff.mp e).2]
end
theorem shaped_of {p : PyData} {m : Nat} (h1 : p.canLay0 = true) (h2 : p.depth ≤ m) (h3 : m ≤ 40) : SeqAt.shaped p = true := by
  unfold SeqAt.shaped
  rw [h1, decide_eq_true (by omega : p.depth ≤ 64)]
  rfl
theorem eqW_some {a b : D} {k : Bool} (e : eqW a b = some k) : dat 20 a = true ∧ dat 20 b = true ∧ eqB a b = k := by
  unfold eqW at e
  split at e
  · rename_i h
    obtain ⟨h1, h2⟩ := Bool.and_eq_true_iff.mp h
    cases e
    exact ⟨h1, h2, rfl⟩
  · cases e
theorem eqWs_some {a b : List D} {k : Bool} (e : eqWs a b = some k) : dats 20 a = true ∧ dats 20 b = true ∧ eqBs a b = k := by
  unfold eqWs at e
  split at e
  · rename_i h
    obtain ⟨h1, h2⟩ := Bool.and_eq_true_iff.mp h
    cases e
    exact ⟨h1, h2, rfl⟩
  · cases e
/-- an item is another, as the model's == answers -/
theorem eqAt_of {pins : List (Addr × Obj)} {s : Shared} (I : Inv X pins σ H s) {A : Around} (hu : A.units + 64 < cLine) {m k : Nat} {a b : D} {va vb : V} {ua ub : Value} (ga : RelD L X.K H r a va) (gb : RelD L X.K H r b vb) (ra : RelV va ua) (rb : RelV vb ub)
    (ea : dat m a = true) (eb : dat k b = true) (hm : m ≤ 40) : SeqAt.EqAt A s ua ub (eqB a b) := by
  obtain ⟨d1, c1, l1⟩ := dp_of ga ea
  obtain ⟨d2, c2, l2⟩ := dp_of gb eb
  obtain ⟨as, r1⟩ := L2.Dp.reads I _ _ _ d1 ra
  obtain ⟨bs, r2⟩ := L2.Dp.reads I _ _ _ d2 rb
  rw [← eqv_of a b ea eb]
  exact SeqAt.eqAt_reads _ _ A s _ _ _ _ r1 r2 c1 c2 (by omega)
theorem rel_ref {a : Nat} {v : V} {ds : List D} (s : SR L X.K env h r σ H) (g : RelD L X.K H r dx v) (e : list? h dx = some ds) : ∃ p xs, v = .ref p ∧ H p = some (.lst xs) ∧ RelDs L X.K H r ds xs := by
  cases dx with
  | ref a =>
    obtain ⟨p, xs, e1, _, e2, e3⟩ := rel_lst s g (list?_ref e)
    exact ⟨p, xs, e1, e2, e3⟩
  | _ => unfold list? at e; cases e
theorem rel_items {v : V} {ds : List D} (s : SR L X.K env h r σ H) (g : RelD L X.K H r dx v) (e : items? h dx = some ds) : ∃ p xs, v = .ref p ∧ (SqL X.K H p xs ∨ SqT X.K H p xs) ∧ RelDs L X.K H r ds xs := by
  cases dx with
  | ref a =>
    obtain ⟨p, xs, e1, _, e2, e3⟩ := rel_lst s g (list?_ref (by unfold items? at e; unfold list?; exact e))
    exact ⟨p, xs, e1, .inl (L2.SqL.of e2), e3⟩
  | tup es =>
    unfold items? at e
    cases e
    obtain ⟨p, xs, e1, e2, e3⟩ := rel_tup g
    exact ⟨p, xs, e1, .inr e2, e3⟩
  | _ => unfold items? at e; cases e
/-- == and != -/
theorem eq_ok {k : Bool} (g : Good L C n W X) (s : SR L X.K env h r σ H) (gx : RelD L X.K H r dx x) (gy : RelD L X.K H r dy y)
    (e : eqO dx dy h = some k) :
    ∃ d e', L2.Dp X.K H x d ∧ L2.Dp X.K H y e' ∧ SeqAt.shaped d = true ∧ SeqAt.shaped e' = true ∧ PyData.eqv d e' = k := by
  unfold eqO at e
  split at e
  · rename_i xs ys e1 e2
    obtain ⟨p, us, rfl, h1, g1⟩ := rel_ref (a := 0) s gx e1
    obtain ⟨q, vs, rfl, h2, g2⟩ := rel_ref (a := 0) s gy e2
    obtain ⟨d1, d2, ek⟩ := eqWs_some e
    obtain ⟨a1, a2, a3⟩ := dps_of g1 d1
    obtain ⟨b1, b2, b3⟩ := dps_of g2 d2
    refine ⟨.list (toPs xs), .list (toPs ys), .lst (L2.SqL.of h1) a1, .lst (L2.SqL.of h2) b1, shaped_of (m := 21) a2 ?_ (by decide), shaped_of (m := 21) b2 ?_ (by decide), ?_⟩
    · show PyData.depthAll _ + 1 ≤ 21; omega
    · show PyData.depthAll _ + 1 ≤ 21; omega
    · show PyData.eqvAll _ _ = k
      rw [eqvs_of xs ys d1 d2, ek]
  · cases e
  · cases e
  · obtain ⟨d1, d2, ek⟩ := eqW_some e
    obtain ⟨a1, a2, a3⟩ := dp_of gx d1
    obtain ⟨b1, b2, b3⟩ := dp_of gy d2
    exact ⟨_, _, a1, b1, shaped_of a2 a3 (by decide), shaped_of b2 b3 (by decide), by rw [eqv_of dx dy d1 d2, ek]⟩
end Y
set_option Elab.async false
set_option linter.all false
set_option maxRecDepth 100000
set_option maxHeartbeats 4000000
namespace Y
open PySem PySem.Spec PyProof.Rows
open L2 (V Hp upd upd_same upd_ne ne_of ne_of_none RelV Vals SqL SqT Rd Cx Inv PE PT PW PS PSs PA PG PI TE TT TS TA TG TI VK XK Ends EP)
variable {L : Lk} {C : Ctx} {n : Nat} {W : XK} {X : Cx} {H : Hp} {r : List Addr} {h : Heap} {env : Env} {σ : Sg} {Q : VK} {x y : V} {dx dy : D}
theorem ltL_iff : ∀ a b : List Nat, ltL a b = decide (a < b)
  | [], [] => by simp [ltL]
  | [], _ :: _ => by simp [ltL]
  | _ :: _, [] => by simp [ltL]
  | a :: as, b :: bs => by
    unfold ltL
    by_cases h : a < b
    · rw [if_pos h]; simp [List.cons_lt_cons_iff, h]
    · rw [if_neg h]
      by_cases h2 : b < a
      · rw [if_pos h2]
        have : ¬ a = b := by omega
        simp [List.cons_lt_cons_iff, h, this]
      · have e : a = b := by omega
        subst e
        rw [if_neg h2, ltL_iff as bs]
        simp [List.cons_lt_cons_iff]
/-- the pairs of two rows of data, as lexAt walks them -/
theorem lex_of : ∀ (as bs : List D) (t : Bool) (e q : Nat → Bool) (z : Bool) (i : Nat), ltDs as bs = some t →
    (∀ (j : Nat) (a b : D), as[j]? = some a → bs[j]? = some b → e (i + j) = eqB a b ∧ (eqB a b = false → ∀ u, ltD a b = some u → q (i + j) = u)) → z = decide (as.length < bs.length) →
    Ob.lexAt e q z i (min as.length bs.length) = t
  | [], [], t, e, q, z, i, h, _, hz => by unfold ltDs at h; cases h; subst hz; rfl
  | [], _ :: _, t, e, q, z, i, h, _, hz => by unfold ltDs at h; cases h; subst hz; simp [Ob.lexAt_zero]
  | _ :: _, [], t, e, q, z, i, h, _, hz => by unfold ltDs at h; cases h; subst hz; simp [Ob.lexAt_zero]
  | a :: as, b :: bs, t, e, q, z, i, h, f, hz => by
    have f0 := f 0 a b rfl rfl
    rw [Nat.add_zero] at f0
    have hm : min (a :: as).length (b :: bs).length = min as.length bs.length + 1 := by rw [List.length_cons, List.length_cons]; omega
    rw [hm, Ob.lexAt_succ]
    unfold ltDs at h
    by_cases he : eqB a b = true
    · rw [if_pos he] at h
      rw [f0.1, if_pos he]
      refine lex_of as bs t e q z (i + 1) h (fun j a' b' ha hb => ?_) ?_
      · have := f (j + 1) a' b' (by simpa using ha) (by simpa using hb)
        rwa [show i + (j + 1) = i + 1 + j by omega] at this
      · rw [hz]; simp
    · rw [if_neg he] at h
      rw [f0.1, if_neg he]
      split at h
      · exact f0.2 (by simpa using he) t h
      · cases h
theorem pairs_at : ∀ {as bs : List D} {j : Nat} {a b : D}, pairsOk as bs = true → as[j]? = some a → bs[j]? = some b → eqB a b = true ∨ ∃ u, ltD a b = some u
  | a :: as, b :: bs, 0, a', b', h, e1, e2 => by
    simp at e1 e2
    subst e1 e2
    unfold pairsOk at h
    rcases Bool.or_eq_true_iff.mp (Bool.and_eq_true_iff.mp h).1 with z | z
    · exact .inl z
    · exact .inr (Option.isSome_iff_exists.mp z)
  | a :: as, b :: bs, j + 1, a', b', h, e1, e2 => by
    unfold pairsOk at h
    exact pairs_at (j := j) (Bool.and_eq_true_iff.mp h).2 (by simpa using e1) (by simpa using e2)
  | [], _, _, _, _, _, e1, _ => by simp at e1
  | _ :: _, [], _, _, _, _, _, e2 => by simp at e2
theorem ltDs_pairs : ∀ {as bs : List D} {t : Bool}, ltDs as bs = some t → ∀ (j : Nat) (a b : D), as[j]? = some a → bs[j]? = some b → eqB a b = true ∨ ∃ u, ltD a b = some u
  | a :: as, b :: bs, t, h, 0, a', b', e1, e2 => by
    simp at e1 e2
    subst e1 e2
    unfold ltDs at h
    by_cases he : eqB a b = true
    · exact .inl he
    · rw [if_neg he] at h
      split at h
      · exact .inr ⟨_, h⟩
      · cases h
  | a :: as, b :: bs, t, h, j + 1, a', b', e1, e2 => by
    unfold ltDs at h
    by_cases he : eqB a b = true
    · rw [if_pos he] at h
      exact ltDs_pairs h j a' b' (by simpa using e1) (by simpa using e2)
    · rw [if_neg he] at h
      split at h
      · rename_i hp
        exact pairs_at (j := j) hp (by simpa using e1) (by simpa using e2)
      · cases h
  | [], _, _, _, _, _, _, e1, _ => by simp at e1
  | _ :: _, [], _, _, _, _, _, _, e2 => by simp at e2
theorem dats_at : ∀ {m : Nat} {ds : List D} {j : Nat} {d : D}, dats m ds = true → ds[j]? = some d → dat m d = true
  | m, d :: ds, 0, d', h, e => by simp at e; subst e; unfold dats at h; exact (Bool.and_eq_true_iff.mp h).1
  | m, d :: ds, j + 1, d', h, e => by unfold dats at h; exact dats_at (Bool.and_eq_true_iff.mp h).2 (by simpa using e)
  | _, [], _, _, _, e => by simp at e
theorem in1_units {A : Around} : A.in1.units = A.units + 1 := rfl
theorem isI_int {d : D} (h : D.isI d = true) : ∃ i, d = .int i := by
  cases d <;> first | exact ⟨_, rfl⟩ | cases h
theorem all_at {as : List D} (h : as.all D.isI = true) {j : Nat} {a : D} (e : as[j]? = some a) : ∃ i, a = .int i := isI_int (List.all_eq_true.mp h a (List.mem_of_getElem? e))
theorem lexg_of : ∀ (as bs : List D) (e q : Nat → Bool) (z : Bool) (i : Nat), as.all D.isI = true → bs.all D.isI = true →
    (∀ (j : Nat) (a b : Int), as[j]? = some (.int a) → bs[j]? = some (.int b) → e (i + j) = decide (a = b) ∧ (a ≠ b → q (i + j) = decide (b < a))) → z = decide (bs.length < as.length) →
    Ob.lexAt e q z i (min as.length bs.length) = gtB as bs
  | [], [], e, q, z, i, _, _, _, hz => by subst hz; rfl
  | [], _ :: _, e, q, z, i, _, _, _, hz => by subst hz; simp [Ob.lexAt_zero, gtB]
  | _ :: _, [], e, q, z, i, _, _, _, hz => by subst hz; simp [Ob.lexAt_zero, gtB]
  | a :: as, b :: bs, e, q, z, i, ha, hb, f, hz => by
    rw [List.all_cons, Bool.and_eq_true] at ha hb
    obtain ⟨x, rfl⟩ := isI_int ha.1
    obtain ⟨y, rfl⟩ := isI_int hb.1
    have f0 := f 0 x y rfl rfl
    rw [Nat.add_zero] at f0
    have hm : min (D.int x :: as).length (D.int y :: bs).length = min as.length bs.length + 1 := by rw [List.length_cons, List.length_cons]; omega
    rw [hm, Ob.lexAt_succ, f0.1]
    unfold gtB
    by_cases he : x = y
    · rw [if_pos he, if_pos (decide_eq_true he)]
      refine lexg_of as bs e q z (i + 1) ha.2 hb.2 (fun j a' b' h1 h2 => ?_) ?_
      · have := f (j + 1) a' b' (by simpa using h1) (by simpa using h2)
        rwa [show i + (j + 1) = i + 1 + j by omega] at this
      · rw [hz]; simp
    · rw [if_neg he, if_neg (by rw [decide_eq_false he]; exact Bool.false_ne_true)]
      exact f0.2 he
/-- the model's > of tuples of numbers -/
theorem gt_of {pins : List (Addr × Obj)} {s : Shared} (I : Inv X pins σ H s) {A : Around} {as bs : List D} {va vb : V} {ua ub : Value} (hu : A.units + 120 < cLine) (ga : RelD L X.K H r (.tup as) va) (gb : RelD L X.K H r (.tup bs) vb) (ra : RelV va ua) (rb : RelV vb ub)
    (ea : as.all D.isI = true) (eb : bs.all D.isI = true) : Ob.RcOp .Gt A s ua ub (gtB as bs) := by
  obtain ⟨pa, xs, rfl, sa, gas⟩ := rel_tup ga
  obtain ⟨pb, ys, rfl, sb, gbs⟩ := rel_tup gb
  cases ra; cases rb
  obtain ⟨its, rv1, ip1, _⟩ := I.tuple sa
  obtain ⟨its2, rv2, ip2, _⟩ := I.tuple sb
  have len1 : as.length = its.length := gas.length.trans rv1.length
  have len2 : bs.length = its2.length := gbs.length.trans rv2.length
  have key : ∀ j (h1 : j < its.toArray.size) (h2 : j < its2.toArray.size), ∃ a b x y, as[j]? = some (.int a) ∧ bs[j]? = some (.int b) ∧ RelD L X.K H r (.int a) x ∧ RelD L X.K H r (.int b) y ∧ RelV x its.toArray[j] ∧ RelV y its2.toArray[j] := fun j h1 h2 => by
    rw [List.size_toArray] at h1 h2
    have ha : as[j]? = some as[j] := List.getElem?_eq_getElem (by omega)
    have hb : bs[j]? = some bs[j] := List.getElem?_eq_getElem (by omega)
    obtain ⟨a, ha2⟩ := all_at ea ha
    obtain ⟨b, hb2⟩ := all_at eb hb
    rw [ha2] at ha
    rw [hb2] at hb
    obtain ⟨x, ex, gx⟩ := gas.get ha
    obtain ⟨y, ey, gy⟩ := gbs.get hb
    obtain ⟨u, eu, ru⟩ := L2.Vals.get rv1 ex
    obtain ⟨v, ev, rv⟩ := L2.Vals.get rv2 ey
    refine ⟨_, _, x, y, ha, hb, gx, gy, ?_, ?_⟩
    · have : its[j] = u := by rw [List.getElem?_eq_getElem h1] at eu; exact Option.some.inj eu
      simpa [this] using ru
    · have : its2[j] = v := by rw [List.getElem?_eq_getElem h2] at ev; exact Option.some.inj ev
      simpa [this] using rv
  have fin := Ob.RcOp.tuples_gt (A := A) (s := s) (l := pa) (b := pb) (items := its.toArray) (items2 := its2.toArray) (e := fun j => match as[j]?, bs[j]? with | some (.int a), some (.int b) => decide (a = b) | _, _ => true)
    (r := fun j => match as[j]?, bs[j]? with | some (.int a), some (.int b) => decide (b < a) | _, _ => true) ip1 ip2 (by omega) (fun j h1 h2 => by
      obtain ⟨a, b, x, y, e1, e2, gx, gy, rx, ry⟩ := key j h1 h2
      simp only [e1, e2]
      have := eqAt_of (A := A.in1) I (by rw [in1_units]; omega) gx gy rx ry (m := 1) (k := 1) rfl rfl (by omega)
      exact this) (fun j h1 h2 hf => by
      obtain ⟨a, b, x, y, e1, e2, gx, gy, rx, ry⟩ := key j h1 h2
      simp only [e1, e2]
      cases rel_int gx; cases rel_int gy
      obtain ⟨t1, h1'⟩ := rx
      obtain ⟨t2, h2'⟩ := ry
      rw [h1', h2']
      exact Ob.RcOp.gt_int a b t1 t2)
  have hl := lexg_of as bs (fun j => match as[j]?, bs[j]? with | some (.int a), some (.int b) => decide (a = b) | _, _ => true) (fun j => match as[j]?, bs[j]? with | some (.int a), some (.int b) => decide (b < a) | _, _ => true)
    (decide (its2.toArray.size < its.toArray.size)) 0 ea eb (fun j a b e1 e2 => by
      simp only [Nat.zero_add, e1, e2]
      exact ⟨trivial, fun _ => trivial⟩) (by rw [List.size_toArray, List.size_toArray, ← len1, ← len2])
  rw [List.size_toArray, List.size_toArray, ← len1, ← len2] at fin
  rw [List.size_toArray, List.size_toArray, ← len1, ← len2] at hl
  rw [hl] at fin
  exact fin
/-- the model's < as ltD says -/
theorem lt_of {pins : List (Addr × Obj)} {s : Shared} (I : Inv X pins σ H s) : ∀ (m : Nat) {k : Nat} {A : Around} (a b : D) {va vb : V} {ua ub : Value} {t : Bool}, A.units + 120 + m < cLine → m ≤ 40 → RelD L X.K H r a va → RelD L X.K H r b vb → RelV va ua → RelV vb ub →
    dat m a = true → dat k b = true → ltD a b = some t → Ob.RcOp .Lt A s ua ub t
  | m, k, A, .int i, .int j, va, vb, ua, ub, t, hu, hm, ga, gb, ra, rb, ea, eb, e => by
    cases rel_int ga; cases rel_int gb
    obtain ⟨t1, rfl⟩ := ra; obtain ⟨t2, rfl⟩ := rb
    unfold ltD at e; cases e
    exact Ob.RcOp.lt_int i j t1 t2
  | m, k, A, .str p, .str q, va, vb, ua, ub, t, hu, hm, ga, gb, ra, rb, ea, eb, e => by
    obtain ⟨rfl, _⟩ := rel_str ga; obtain ⟨rfl, _⟩ := rel_str gb
    obtain ⟨t1, rfl⟩ := ra; obtain ⟨t2, rfl⟩ := rb
    unfold ltD at e; cases e
    exact fun prog w E Q hq => PyProof.Rows.lt_str (by rw [ltL_iff] at hq; exact hq)
  | 0, k, A, .tup as, .tup bs, va, vb, ua, ub, t, hu, hm, ga, gb, ra, rb, ea, eb, e => by
    unfold dat at ea; simp at ea
  | m + 1, k, A, .tup as, .tup bs, va, vb, ua, ub, t, hu, hm, ga, gb, ra, rb, ea, eb, e => by
    obtain ⟨pa, xs, rfl, sa, gas⟩ := rel_tup ga
    obtain ⟨pb, ys, rfl, sb, gbs⟩ := rel_tup gb
    cases ra; cases rb
    unfold dat at ea eb
    have ea := (Bool.and_eq_true_iff.mp ea).2
    have eb := (Bool.and_eq_true_iff.mp eb).2
    unfold ltD at e
    obtain ⟨its, rv1, ip1, _⟩ := I.tuple sa
    obtain ⟨its2, rv2, ip2, _⟩ := I.tuple sb
    have len1 : as.length = its.length := gas.length.trans rv1.length
    have len2 : bs.length = its2.length := gbs.length.trans rv2.length
    have key : ∀ j (h1 : j < its.toArray.size) (h2 : j < its2.toArray.size), ∃ a b x y, as[j]? = some a ∧ bs[j]? = some b ∧ RelD L X.K H r a x ∧ RelD L X.K H r b y ∧ RelV x its.toArray[j] ∧ RelV y its2.toArray[j] := fun j h1 h2 => by
      rw [List.size_toArray] at h1 h2
      have ha : as[j]? = some as[j] := List.getElem?_eq_getElem (by omega)
      have hb : bs[j]? = some bs[j] := List.getElem?_eq_getElem (by omega)
      obtain ⟨x, ex, gx⟩ := gas.get ha
      obtain ⟨y, ey, gy⟩ := gbs.get hb
      obtain ⟨u, eu, ru⟩ := L2.Vals.get rv1 ex
      obtain ⟨v, ev, rv⟩ := L2.Vals.get rv2 ey
      refine ⟨_, _, x, y, ha, hb, gx, gy, ?_, ?_⟩
      · have : its[j] = u := by rw [List.getElem?_eq_getElem h1] at eu; exact Option.some.inj eu
        simpa [this] using ru
      · have : its2[j] = v := by rw [List.getElem?_eq_getElem h2] at ev; exact Option.some.inj ev
        simpa [this] using rv
    have fin := Ob.RcOp.tuples_lt (A := A) (s := s) (l := pa) (b := pb) (items := its.toArray) (items2 := its2.toArray) (e := fun j => match as[j]?, bs[j]? with | some a, some b => eqB a b | _, _ => true)
      (r := fun j => match as[j]?, bs[j]? with | some a, some b => (ltD a b).getD true | _, _ => true) ip1 ip2 (by omega) (fun j h1 h2 => by
        obtain ⟨a, b, x, y, e1, e2, gx, gy, rx, ry⟩ := key j h1 h2
        simp only [e1, e2]
        exact eqAt_of I (by rw [in1_units]; omega) gx gy rx ry (dats_at ea e1) (dats_at eb e2) (by omega)) (fun j h1 h2 hf => by
        obtain ⟨a, b, x, y, e1, e2, gx, gy, rx, ry⟩ := key j h1 h2
        simp only [e1, e2] at hf ⊢
        rcases ltDs_pairs e j a b e1 e2 with z | ⟨u, z⟩
        · rw [z] at hf; cases hf
        · rw [z]
          exact lt_of I m a b (by rw [in1_units]; omega) (by omega) gx gy rx ry (dats_at ea e1) (dats_at eb e2) z)
    have hl := lex_of as bs t (fun j => match as[j]?, bs[j]? with | some a, some b => eqB a b | _, _ => true) (fun j => match as[j]?, bs[j]? with | some a, some b => (ltD a b).getD true | _, _ => true)
      (decide (its.toArray.size < its2.toArray.size)) 0 e (fun j a b e1 e2 => by
        simp only [Nat.zero_add, e1, e2]
        exact ⟨trivial, fun _ u hu => by rw [hu]; rfl⟩) (by rw [List.size_toArray, List.size_toArray, ← len1, ← len2])
    rw [List.size_toArray, List.size_toArray, ← len1, ← len2] at fin
    rw [List.size_toArray, List.size_toArray, ← len1, ← len2] at hl
    rw [hl] at fin
    exact fin
  | _, _, _, .non, b, _, _, _, _, _, _, _, _, _, _, _, _, _, e => by cases b <;> (unfold ltD at e; cases e)
  | _, _, _, .bl _, b, _, _, _, _, _, _, _, _, _, _, _, _, _, e => by cases b <;> (unfold ltD at e; cases e)
  | _, _, _, .ref _, b, _, _, _, _, _, _, _, _, _, _, _, _, _, e => by cases b <;> (unfold ltD at e; cases e)
  | _, _, _, .fn _, b, _, _, _, _, _, _, _, _, _, _, _, _, _, e => by cases b <;> (unfold ltD at e; cases e)
  | _, _, _, .clo _ _, b, _, _, _, _, _, _, _, _, _, _, _, _, _, e => by cases b <;> (unfold ltD at e; cases e)
  | _, _, _, .frz _, b, _, _, _, _, _, _, _, _, _, _, _, _, _, e => by cases b <;> (unfold ltD at e; cases e)
  | _, _, _, .int _, .non, _, _, _, _, _, _, _, _, _, _, _, _, _, e => by unfold ltD at e; cases e
  | _, _, _, .int _, .bl _, _, _, _, _, _, _, _, _, _, _, _, _, _, e => by unfold ltD at e; cases e
  | _, _, _, .int _, .str _, _, _, _, _, _, _, _, _, _, _, _, _, _, e => by unfold ltD at e; cases e
  | _, _, _, .int _, .tup _, _, _, _, _, _, _, _, _, _, _, _, _, _, e => by unfold ltD at e; cases e
  | _, _, _, .int _, .ref _, _, _, _, _, _, _, _, _, _, _, _, _, _, e => by unfold ltD at e; cases e
  | _, _, _, .int _, .fn _, _, _, _, _, _, _, _, _, _, _, _, _, _, e => by unfold ltD at e; cases e
  | _, _, _, .int _, .clo _ _, _, _, _, _, _, _, _, _, _, _, _, _, _, e => by unfold ltD at e; cases e
  | _, _, _, .int _, .frz _, _, _, _, _, _, _, _, _, _, _, _, _, _, e => by unfold ltD at e; cases e
  | _, _, _, .str _, .non, _, _, _, _, _, _, _, _, _, _, _, _, _, e => by unfold ltD at e; cases e
  | _, _, _, .str _, .bl _, _, _, _, _, _, _, _, _, _, _, _, _, _, e => by unfold ltD at e; cases e
  | _, _, _, .str _, .int _, _, _, _, _, _, _, _, _, _, _, _, _, _, e => by unfold ltD at e; cases e
  | _, _, _, .str _, .tup _, _, _, _, _, _, _, _, _, _, _, _, _, _, e => by unfold ltD at e; cases e
  | _, _, _, .str _, .ref _, _, _, _, _, _, _, _, _, _, _, _, _, _, e => by unfold ltD at e; cases e
  | _, _, _, .str _, .fn _, _, _, _, _, _, _, _, _, _, _, _, _, _, e => by unfold ltD at e; cases e
  | _, _, _, .str _, .clo _ _, _, _, _, _, _, _, _, _, _, _, _, _, _, e => by unfold ltD at e; cases e
  | _, _, _, .str _, .frz _, _, _, _, _, _, _, _, _, _, _, _, _, _, e => by unfold ltD at e; cases e
  | _, _, _, .tup _, .non, _, _, _, _, _, _, _, _, _, _, _, _, _, e => by unfold ltD at e; cases e
  | _, _, _, .tup _, .bl _, _, _, _, _, _, _, _, _, _, _, _, _, _, e => by unfold ltD at e; cases e
  | _, _, _, .tup _, .int _, _, _, _, _, _, _, _, _, _, _, _, _, _, e => by unfold ltD at e; cases e
  | _, _, _, .tup _, .str _, _, _, _, _, _, _, _, _, _, _, _, _, _, e => by unfold ltD at e; cases e
  | _, _, _, .tup _, .ref _, _, _, _, _, _, _, _, _, _, _, _, _, _, e => by unfold ltD at e; cases e
  | _, _, _, .tup _, .fn _, _, _, _, _, _, _, _, _, _, _, _, _, _, e => by unfold ltD at e; cases e
  | _, _, _, .tup _, .clo _ _, _, _, _, _, _, _, _, _, _, _, _, _, _, e => by unfold ltD at e; cases e
  | _, _, _, .tup _, .frz _, _, _, _, _, _, _, _, _, _, _, _, _, _, e => by unfold ltD at e; cases e
end Y
set_option Elab.async false
set_option linter.all false
set_option maxRecDepth 100000
set_option maxHeartbeats 4000000
namespace Y
open PySem PySem.Spec PyProof.Rows
open L2 (V Hp upd upd_same upd_ne ne_of ne_of_none RelV Vals SqL SqT Rd Cx Inv PE PT PW PS PSs PA PG PI TE TT TS TA TG TI VK XK Ends EP)
section
variable {L : Lk} {C : Ctx} {n : Nat} {W : XK} {K : PySem.W.Frag}
theorem to_tOp {rr : L2.R2} {ma mb m : Env → Heap → Res D} {k : D → D → Heap → Res D} (hm : ∀ env h, m env h = (ma env h).bind fun x h => (mb env h).bind fun y h => k x y h)
    (hk : ∀ (env : Env) (h : Heap) (r : List Addr) (σ : Sg) (H : Hp) (Q : VK) (dx dy : D) (x y : V), SR L K env h r σ H → RelD L K H r dx x → RelD L K H r dy y → Post L K (RV L K) W env σ r H Q (k dx dy h) → rr x y H Q)
    (σ : Sg) (H : Hp) (Q : VK) (q : rd L K W m σ H Q) : L2.tOp rr (rd L K W ma) (rd L K W mb) σ H Q := by
  obtain ⟨env, h, r, s, p⟩ := q
  rw [hm] at p
  refine ⟨env, h, r, s, (Post.bind (R := RV L K) p).mono fun x H1 ⟨dx, h1, r1, a1, p1⟩ => ?_⟩
  refine ⟨env, h1, r1, a1.s, (Post.bind (R := RV L K) p1).mono fun y H2 ⟨dy, h2, r2, a2, p2⟩ => ?_⟩
  exact hk env h2 r2 σ H2 Q dx dy x y a2.s (a1.rel.mono a2.k a2.pr) a2.rel p2
theorem to_tUn {rr : V → Hp → VK → Prop} {ma m : Env → Heap → Res D} {k : D → Heap → Res D} (hm : ∀ env h, m env h = (ma env h).bind fun x h => k x h)
    (hk : ∀ (env : Env) (h : Heap) (r : List Addr) (σ : Sg) (H : Hp) (Q : VK) (dx : D) (x : V), SR L K env h r σ H → RelD L K H r dx x → Post L K (RV L K) W env σ r H Q (k dx h) → rr x H Q)
    (σ : Sg) (H : Hp) (Q : VK) (q : rd L K W m σ H Q) : L2.tUn rr (rd L K W ma) σ H Q := by
  obtain ⟨env, h, r, s, p⟩ := q
  rw [hm] at p
  refine ⟨env, h, r, s, (Post.bind (R := RV L K) p).mono fun x H1 ⟨dx, h1, r1, a1, p1⟩ => ?_⟩
  exact hk env h1 r1 σ H1 Q dx x a1.s a1.rel p1
/-- a list of arguments, then what is made of them -/
theorem to_tA {T : List V → Hp → VK → Prop} {ma : Env → Heap → Res (List D)} {m : Env → Heap → Res D} {k : List D → Env → Heap → Res D} (hm : ∀ env h, m env h = (ma env h).bind fun x h => k x env h)
    (hk : ∀ (env : Env) (h : Heap) (r : List Addr) (σ : Sg) (H : Hp) (Q : VK) (ds : List D) (xs : List V), SR L K env h r σ H → RelDs L K H r ds xs → Post L K (RV L K) W env σ r H Q (k ds env h) → T xs H Q)
    (σ : Sg) (H : Hp) (Q : VK) (q : rd L K W m σ H Q) : rdA L K W ma σ H fun xs H1 => T xs H1 Q := by
  obtain ⟨env, h, r, s, p⟩ := q
  rw [hm] at p
  refine ⟨env, h, r, s, (Post.bind (R := RVs L K) p).mono fun x H1 ⟨dx, h1, r1, a1, p1⟩ => ?_⟩
  exact hk env h1 r1 σ H1 Q dx x a1.s a1.rel p1
end
section
variable {L : Lk} {C : Ctx} {n : Nat}
/-- an expression of mine that stands for none with a star -/
theorem star_of {nm : Nm} {N : List Str} {sc : Scope} {e : E} {pe : Expr} (h : chkE nm N sc e pe = true) (env : PySem.Env) (pes : List Expr) : starEach (pe :: pes) env = (false, eval pe env) :: starEach pes env := by
  cases e <;> cases pe <;> first
    | rfl
    | (exfalso; unfold chkE at h; simp at h; done)
theorem back_of {nm : Nm} {N : List Str} {sc : Scope} : ∀ {es : List E} {pes : List Expr}, chkEs nm N sc es pes = true → ∀ (env : PySem.Env) (pos : Pos), (backTo pos (starEach pes env)).any (·.1) = false
  | [], [], _, env, pos => rfl
  | [], _ :: _, h, _, _ => by unfold chkEs at h; cases h
  | _ :: _, [], h, _, _ => by unfold chkEs at h; cases h
  | e :: es, pe :: pes, h, env, pos => by
    unfold chkEs at h
    obtain ⟨h1, h2⟩ := Bool.and_eq_true_iff.mp h
    rw [star_of h1]
    have ih := back_of h2 env pos
    show ((false, eval pe env) :: backTo pos (starEach pes env)).any (·.1) = false
    rw [List.any_cons, ih]
    rfl
theorem noset_of {nm : Nm} {N : List Str} {sc : Scope} {e : E} {pe : Expr} (h : chkE nm N sc e pe = true) (op : CmpOp) : behindInMarks op pe = false := by
  cases e <;> cases pe <;> first
    | rfl
    | (exfalso; unfold chkE at h; simp at h; done)
end
end Y
set_option Elab.async false
set_option linter.all false
set_option maxRecDepth 100000
set_option maxHeartbeats 4000000
namespace Y
open PySem PySem.Spec PyProof.Rows
open L2 (V Hp upd upd_same upd_ne ne_of ne_of_none RelV Vals SqL SqT Rd Cx Inv PE PT PW PS PSs PA PG PI TE TT TS TA TG TI VK XK Ends EP)
variable {L : Lk} {C : Ctx} {n : Nat} {W : XK} {X : Cx} {H : Hp} {r : List Addr} {h : Heap} {env : Env} {σ : Sg} {Q : VK} {x y : V} {dx dy : D}
theorem Good.units (g : Good L C n W X) : X.A.units + 200 < cLine := by have := g.room.un; omega
theorem Good.units64 (g : Good L C n W X) : X.A.units + 64 < cLine := by have := g.room.un; omega
theorem Post.opt {α : Type} {R : Hp → List Addr → D → V → Prop} {o : Option α} {f : α → D} (p : Post L X.K R W env σ r H Q (optR (o.map f) h)) : ∃ k, o = some k ∧ Post L X.K R W env σ r H Q (.ok (f k) h) := by
  unfold optR at p
  cases o with
  | none => exact p.elim
  | some k => exact ⟨k, rfl, p⟩
theorem isIn_some {x : D} : ∀ {ds : List D} {k : Bool}, isIn x ds = some k → dat 20 x = true ∨ ds = [] 
  | [], _, _ => .inr rfl
  | d :: ds, k, e => by
    unfold isIn at e
    split at e
    · rename_i a b e1 e2
      exact .inl (eqW_some e1).2.1
    · cases e
theorem isIn_any {x : D} : ∀ {ds : List D} {k : Bool}, isIn x ds = some k → dats 20 ds = true ∧ k = ds.any fun d => eqB d x
  | [], _, e => by unfold isIn at e; cases e; exact ⟨rfl, rfl⟩
  | d :: ds, k, e => by
    unfold isIn at e
    split at e
    · rename_i a b e1 e2
      cases e
      obtain ⟨h1, h2, h3⟩ := eqW_some e1
      obtain ⟨h4, h5⟩ := isIn_any e2
      refine ⟨?_, ?_⟩
      · unfold dats; rw [h1, h4]; rfl
      · rw [List.any_cons, h3, ← h5]
    · cases e
mutual
/-- data is told by its value -/
theorem rel_fun {pins : List (Addr × Obj)} {s : Shared} (I : Inv X pins σ H s) : ∀ {m k : Nat} {a b : D} {v : V}, RelD L X.K H r a v → RelD L X.K H r b v → dat m a = true → dat k b = true → a = b
  | _, k, .non, b, v, g, g', _, e => by
    unfold RelD at g; subst g
    cases b <;> unfold RelD at g' <;> first | rfl | (cases g'; done) | (obtain ⟨z, _⟩ := g'; cases z; done) | (obtain ⟨_, _, z, _⟩ := g'; cases z; done) | (unfold dat at e; cases e; done)
  | _, k, .bl c, b, v, g, g', _, e => by
    unfold RelD at g; subst g
    cases b <;> unfold RelD at g' <;> first | (cases g'; done) | (cases g'; rfl) | (obtain ⟨z, _⟩ := g'; cases z; done) | (obtain ⟨_, _, z, _⟩ := g'; cases z; done) | (unfold dat at e; cases e; done)
  | _, k, .int c, b, v, g, g', _, e => by
    unfold RelD at g; subst g
    cases b <;> unfold RelD at g' <;> first | (cases g'; done) | (cases g'; rfl) | (obtain ⟨z, _⟩ := g'; cases z; done) | (obtain ⟨_, _, z, _⟩ := g'; cases z; done) | (unfold dat at e; cases e; done)
  | _, k, .str c, b, v, g, g', _, e => by
    unfold RelD at g; obtain ⟨rfl, _⟩ := g
    cases b with
    | str q =>
      unfold RelD at g'
      obtain ⟨z, _⟩ := g'
      injection z with z
      exact congrArg D.str (toS_inj.mp z)
    | _ => unfold RelD at g'; first | (cases g'; done) | (obtain ⟨_, _, z, _⟩ := g'; cases z; done) | (obtain ⟨_, z, _⟩ := g'; cases z; done) | (unfold dat at e; cases e; done)
  | _, k, .tup as, b, v, g, g', e0, e => by
    unfold RelD at g; obtain ⟨p, xs, rfl, sp, gs⟩ := g
    cases b with
    | tup bs =>
      unfold RelD at g'
      obtain ⟨q, ys, z, sq, gs'⟩ := g'
      cases z
      cases I.tuple_inj sp sq
      unfold dat at e e0
      exact congrArg D.tup (rels_fun I gs gs' (Bool.and_eq_true_iff.mp e0).2 (Bool.and_eq_true_iff.mp e).2)
    | _ => unfold RelD at g'; first | (cases g'; done) | (obtain ⟨z, _⟩ := g'; cases z; done) | (unfold dat at e; cases e; done)
  | _, _, .ref _, _, _, _, _, e, _ => by unfold dat at e; cases e
  | _, _, .fn _, _, _, _, _, e, _ => by unfold dat at e; cases e
  | _, _, .clo _ _, _, _, _, _, e, _ => by unfold dat at e; cases e
  | _, _, .frz _, _, _, _, _, e, _ => by unfold dat at e; cases e
theorem rels_fun {pins : List (Addr × Obj)} {s : Shared} (I : Inv X pins σ H s) : ∀ {m k : Nat} {as bs : List D} {vs : List V}, RelDs L X.K H r as vs → RelDs L X.K H r bs vs → dats m as = true → dats k bs = true → as = bs
  | _, _, [], [], _, _, _, _, _ => rfl
  | _, _, [], b :: bs, _, g, g', _, _ => by
    unfold RelDs at g g'; subst g
    obtain ⟨_, _, z, _⟩ := g'
    cases z
  | _, _, a :: as, [], _, g, g', _, _ => by
    unfold RelDs at g g'; subst g'
    obtain ⟨_, _, z, _⟩ := g
    cases z
  | _, _, a :: as, b :: bs, _, g, g', e0, e => by
    unfold RelDs at g g'
    obtain ⟨x, ys, rfl, g1, g2⟩ := g
    obtain ⟨x', ys', z, g3, g4⟩ := g'
    cases z
    unfold dats at e e0
    rw [rel_fun I g1 g3 (Bool.and_eq_true_iff.mp e0).1 (Bool.and_eq_true_iff.mp e).1, rels_fun I g2 g4 (Bool.and_eq_true_iff.mp e0).2 (Bool.and_eq_true_iff.mp e).2]
end
open Classical in
/-- what the items answer, told by the values -/
theorem any_of {pins : List (Addr × Obj)} {s : Shared} (I : Inv X pins σ H s) {A : Around} (hu : A.units + 64 < cLine) {x : V} {u : Value} (gx : RelD L X.K H r dx x) (rx : RelV x u) (ex : dat 20 dx = true) {ds : List D} {xs : List V} {us : List Value} (gs : RelDs L X.K H r ds xs) (rs : Vals xs us) (es : dats 20 ds = true) :
    ∃ e : Value → Bool, (∀ y, y ∈ us → SeqAt.EqAt A s y u (e y)) ∧ us.any e = ds.any fun d => eqB d dx := by
  have at_ : ∀ (j : Nat) (w : Value), us[j]? = some w → ∃ d v, ds[j]? = some d ∧ RelD L X.K H r d v ∧ RelV v w ∧ dat 20 d = true := fun j w e => by
    have hj : j < ds.length := by rw [gs.length, rs.length]; exact (List.getElem?_eq_some_iff.mp e).1
    have e1 : ds[j]? = some ds[j] := List.getElem?_eq_getElem hj
    obtain ⟨v, ev, gv⟩ := gs.get e1
    obtain ⟨w', ew, rw'⟩ := L2.Vals.get rs ev
    rw [e] at ew; cases ew
    exact ⟨_, v, e1, gv, rw', dats_at es e1⟩
  refine ⟨fun w => decide (∃ (j : Nat) (d : D), us[j]? = some w ∧ ds[j]? = some d ∧ eqB d dx = true), fun y hy => ?_, ?_⟩
  · obtain ⟨j, hj, ej⟩ := List.getElem_of_mem hy
    have e0 : us[j]? = some y := by rw [List.getElem?_eq_getElem hj, ej]
    obtain ⟨d, v, e1, gv, rv, ed⟩ := at_ j y e0
    have hb : decide (∃ (j : Nat) (d : D), us[j]? = some y ∧ ds[j]? = some d ∧ eqB d dx = true) = eqB d dx := by
      cases hd : eqB d dx with
      | true => exact decide_eq_true ⟨j, d, e0, e1, hd⟩
      | false =>
        refine decide_eq_false ?_
        rintro ⟨k, d', f0, f1, f2⟩
        obtain ⟨d2, v2, g1, gv2, rv2, ed2⟩ := at_ k y f0
        rw [f1] at g1; cases g1
        cases rv.inj rv2
        rw [rel_fun I gv gv2 ed ed2] at hd
        rw [hd] at f2; cases f2
    show SeqAt.EqAt A s y u (decide (∃ (j : Nat) (d : D), us[j]? = some y ∧ ds[j]? = some d ∧ eqB d dx = true))
    rw [hb]
    exact eqAt_of I hu gv gx rv rx ed ex (by decide)
  · rw [Bool.eq_iff_iff, List.any_eq_true, List.any_eq_true]
    constructor
    · rintro ⟨w, hw, hd⟩
      obtain ⟨j, d, f0, f1, f2⟩ := of_decide_eq_true hd
      exact ⟨d, List.mem_of_getElem? f1, f2⟩
    · rintro ⟨d, hd, f2⟩
      obtain ⟨j, hj, ej⟩ := List.getElem_of_mem hd
      have f1 : ds[j]? = some d := by rw [List.getElem?_eq_getElem hj, ej]
      have hu' : j < us.length := by rw [← rs.length, ← gs.length]; exact hj
      have f0 : us[j]? = some us[j] := List.getElem?_eq_getElem hu'
      exact ⟨us[j], List.getElem_mem hu', decide_eq_true ⟨j, d, f0, f1, f2⟩⟩
/-- truth -/
theorem tru_of {b : Bool} (s : SR L X.K env h r σ H) (g : RelD L X.K H r dx x) (e : truth h dx = some b) : L2.TruV X.K x H b := by
  cases dx with
  | non => unfold RelD at g; unfold truth at e; cases e; subst g; exact rfl
  | bl c => cases rel_bl g; unfold truth at e; cases e; exact rfl
  | int i => cases rel_int g; unfold truth at e; cases e; exact rfl
  | str a =>
    obtain ⟨rfl, ha⟩ := rel_str g
    unfold truth at e; cases e
    refine ⟨by rw [toS_len]; exact ha.1, ?_⟩
    rw [toS_len]
    cases a <;> simp
    omega
  | tup ds =>
    obtain ⟨p, xs, rfl, sp, gs⟩ := rel_tup g
    unfold truth at e; cases e
    refine .inr (.inl ⟨xs, sp, ?_⟩)
    have := gs.length
    cases ds <;> cases xs <;> simp at this ⊢
  | ref a =>
    unfold truth Heap.at at e
    dsimp only at e
    split at e
    · rename_i ds ea
      cases e
      obtain ⟨p, xs, rfl, _, hp, gs⟩ := rel_lst s g ea
      refine .inl ⟨xs, L2.SqL.of hp, ?_⟩
      have := gs.length
      cases ds <;> cases xs <;> simp at this ⊢
    · rename_i kvs ea
      cases e
      unfold RelD at g
      obtain ⟨p, rfl, ep⟩ := g
      obtain ⟨ks, h1, h2⟩ := s.hr.at_ a _ p ea ep
      refine .inr (.inr ⟨ks, h1, ?_⟩)
      cases kvs with
      | nil => unfold RelK at h2; subst h2; rfl
      | cons q kvs =>
        obtain ⟨a', d'⟩ := q
        unfold RelK at h2
        obtain ⟨_, _, _, rfl, _⟩ := h2
        rfl
    · cases e
  | fn _ => unfold truth at e; cases e
  | clo _ _ => unfold truth at e; cases e
  | frz _ => unfold truth at e; cases e
theorem non_iff {v : V} (g : RelD L X.K H r dx v) : decide (v = .non) = (match dx with | .non => true | _ => false) := by
  cases dx with
  | non => unfold RelD at g; subst g; rfl
  | bl c => cases rel_bl g; rfl
  | int i => cases rel_int g; rfl
  | str a => obtain ⟨rfl, _⟩ := rel_str g; rfl
  | tup ds => obtain ⟨p, xs, rfl, _⟩ := rel_tup g; rfl
  | ref a => unfold RelD at g; obtain ⟨p, rfl, _⟩ := g; rfl
  | fn k => unfold RelD at g; obtain ⟨rfl, _⟩ := g; rfl
  | clo _ _ => unfold RelD at g; exact g.elim
  | frz ds => unfold RelD at g; obtain ⟨p, xs, rfl, _⟩ := g; rfl
theorem fin_b {pins : List (Addr × Obj)} {s : Shared} {k : Bool} (I : Inv X pins σ H s) (q : Q (.bl k) H) : EP X pins σ Q (.bool k) s := ⟨.bl k, H, I, rfl, q⟩
theorem toS_toList (a : List Nat) : (toS a).cps.toList = a := by unfold toS; simp
def keyJ : D → Option L2.Key
  | .int i => some (.inl i)
  | .str s => some (.inr (toS s))
  | _ => none
theorem keyJ_of {d : D} (h : d.keyK = true) : ∃ j, keyJ d = some j := by
  cases d <;> first | exact ⟨_, rfl⟩ | (unfold D.keyK at h; cases h)
theorem keyV {v : V} {d : D} {j : L2.Key} (g : RelD L X.K H r d v) (e : keyJ d = some j) : v = L2.kV j := by
  cases d <;> first | (unfold keyJ at e; cases e; done) | skip
  · unfold keyJ at e; cases e; exact rel_int g
  · unfold keyJ at e; cases e; exact (rel_str g).1
theorem key_eq {a b : D} {i j : L2.Key} (ea : keyJ a = some i) (eb : keyJ b = some j) : eqB a b = decide (j = i) := by
  cases a <;> first | (unfold keyJ at ea; cases ea; done) | skip
  · cases b <;> first | (unfold keyJ at eb; cases eb; done) | skip
    · unfold keyJ at ea eb; cases ea; cases eb
      unfold eqB
      rw [Bool.eq_iff_iff, decide_eq_true_eq, decide_eq_true_eq]
      exact ⟨fun h => by rw [h], fun h => (Sum.inl.inj h).symm⟩
    · unfold keyJ at ea eb; cases ea; cases eb
      unfold eqB
      exact (decide_eq_false (fun h => by cases h)).symm
  · cases b <;> first | (unfold keyJ at eb; cases eb; done) | skip
    · unfold keyJ at ea eb; cases ea; cases eb
      unfold eqB
      exact (decide_eq_false (fun h => by cases h)).symm
    · unfold keyJ at ea eb; cases ea; cases eb
      unfold eqB
      rw [eqL_iff, Bool.eq_iff_iff, decide_eq_true_eq, decide_eq_true_eq]
      exact ⟨fun h => by rw [h], fun h => (toS_inj.mp (Sum.inr.inj h)).symm⟩
theorem relK_cons {K : PySem.W.Frag} {k d : D} {kvs : List (D × D)} {ks : List (L2.Key × V)} (h : RelK (L := L) (K := K) H r ((k, d) :: kvs) ks) : ∃ j v t, ks = (j, v) :: t ∧ keyJ k = some j ∧ RelD L K H r d v ∧ RelK (L := L) (K := K) H r kvs t := by
  unfold RelK at h
  obtain ⟨j, v, t, e, h1, h2, h3⟩ := h
  refine ⟨j, v, t, e, ?_, h2, h3⟩
  rcases h1 with ⟨i, rfl, rfl⟩ | ⟨s, rfl, rfl⟩ <;> rfl
theorem relK_mk {K : PySem.W.Frag} {k d : D} {j : L2.Key} {v : V} {kvs : List (D × D)} {ks : List (L2.Key × V)} (e : keyJ k = some j) (g : RelD L K H r d v) (h : RelK (L := L) (K := K) H r kvs ks) : RelK (L := L) (K := K) H r ((k, d) :: kvs) ((j, v) :: ks) := by
  unfold RelK
  refine ⟨j, v, ks, rfl, ?_, g, h⟩
  cases k <;> first | (unfold keyJ at e; cases e; done) | skip
  · unfold keyJ at e; cases e; exact .inl ⟨_, rfl, rfl⟩
  · unfold keyJ at e; cases e; exact .inr ⟨_, rfl, rfl⟩
theorem look_of {d : D} {j : L2.Key} (e : keyJ d = some j) : ∀ {kvs : List (D × D)} {ks : List (L2.Key × V)}, RelK (L := L) (K := X.K) H r kvs ks → (∃ c v, lookD d kvs = some c ∧ L2.valV ks j = some v ∧ RelD L X.K H r c v) ∨ (lookD d kvs = none ∧ L2.valV ks j = none)
  | [], ks, h => by unfold RelK at h; subst h; exact .inr ⟨rfl, rfl⟩
  | (k, c) :: kvs, ks, h => by
    obtain ⟨i, v, t, rfl, e1, g, h'⟩ := relK_cons h
    unfold lookD
    rw [key_eq e e1]
    by_cases hij : i = j
    · rw [decide_eq_true hij]
      exact .inl ⟨c, v, rfl, L2.valV_pos hij, g⟩
    · rw [decide_eq_false hij, L2.valV_neg hij]
      exact look_of e h'
theorem rel_dic {a : Nat} {v : V} {kvs : List (D × D)} (s : SR L X.K env h r σ H) (g : RelD L X.K H r (.ref a) v) (e : h[a]? = some (.dic kvs)) : ∃ p ks, v = .ref p ∧ r[a]? = some p ∧ H p = some (.dK ks) ∧ RelK (L := L) (K := X.K) H r kvs ks := by
  unfold RelD at g
  obtain ⟨p, e1, e2⟩ := g
  obtain ⟨xs, h1, h2⟩ := s.hr.at_ a _ p e e2
  exact ⟨p, xs, e1, e2, h1, h2⟩
theorem cmp_ok {op : CmpOp} {k : Bool} (g : Good L C n W X) (s : SR L X.K env h r σ H) (gx : RelD L X.K H r dx x) (gy : RelD L X.K H r dy y) (e : cmpop op dx dy h = some k) (q : Q (.bl k) H) : wOp X (compareOp op) x y H Q := by
  have hin : ∀ k, inop dx dy h = some k → (wOp X (compareOp .In) x y H Q ∨ ¬ Q (.bl k) H) ∧ (wOp X (compareOp .NotIn) x y H Q ∨ ¬ Q (.bl (!k)) H) := by
    clear e q
    intro k e
    cases dy with
    | str b =>
      obtain ⟨rfl, hb⟩ := rel_str gy
      unfold inop at e
      dsimp only at e
      split at e
      · rename_i c
        obtain ⟨rfl, _⟩ := rel_str gx
        cases e
        have ek : b.any (· == c) = decide (c ∈ (toS b).cps.toList) := by
          rw [toS_toList, Bool.eq_iff_iff, List.any_eq_true, decide_eq_true_eq]
          constructor
          · rintro ⟨z, h1, h2⟩; rw [beq_iff_eq] at h2; exact h2 ▸ h1
          · intro h1; exact ⟨c, h1, by simp⟩
        refine ⟨?_, ?_⟩
        · by_cases hq : Q (.bl (b.any (· == c))) H
          · exact .inl (wOp.of L2.op_in_sign ⟨c, _, rfl, rfl, by rw [← ek]; exact hq⟩)
          · exact .inr hq
        · by_cases hq : Q (.bl (!b.any (· == c))) H
          · exact .inl (wOp.of L2.op_notIn_sign ⟨c, _, rfl, rfl, by rw [← ek]; exact hq⟩)
          · exact .inr hq
      · cases e
    | tup ds =>
      obtain ⟨p, ys, rfl, sp, gs⟩ := rel_tup gy
      unfold inop at e
      dsimp only at e
      obtain ⟨es, ek⟩ := isIn_any e
      refine ⟨?_, ?_⟩
      · by_cases hq : Q (.bl k) H
        · refine .inl fun pins s' σ' v u I rx ry => ?_
          cases ry
          obtain ⟨its, rv, ip, _⟩ := I.tuple sp
          rcases isIn_some e with z | z
          · obtain ⟨ee, h1, h2⟩ := any_of I (A := X.A.in1) (by rw [in1_units]; have := g.units; omega) gx rx z gs rv es
            refine SeqAt.in_tupleAt ee ip (fun y hy => h1 y (by simpa using hy)) (fin_b I ?_)
            rw [show its.toArray.any ee = its.any ee by simp, h2, ← ek]; exact hq
          · subst z
            obtain rfl : ys = [] := List.length_eq_zero_iff.mp gs.length.symm
            cases rv
            refine SeqAt.in_tupleAt (fun _ => false) ip (fun y hy => by simp at hy) (fin_b I ?_)
            subst ek; simpa using hq
        · exact .inr hq
      · by_cases hq : Q (.bl (!k)) H
        · refine .inl fun pins s' σ' v u I rx ry => ?_
          cases ry
          obtain ⟨its, rv, ip, _⟩ := I.tuple sp
          rcases isIn_some e with z | z
          · obtain ⟨ee, h1, h2⟩ := any_of I (A := X.A.in1) (by rw [in1_units]; have := g.units; omega) gx rx z gs rv es
            refine SeqAt.notIn_tupleAt ee ip (fun y hy => h1 y (by simpa using hy)) (fin_b I ?_)
            rw [show its.toArray.any ee = its.any ee by simp, h2, ← ek]; exact hq
          · subst z
            obtain rfl : ys = [] := List.length_eq_zero_iff.mp gs.length.symm
            cases rv
            refine SeqAt.notIn_tupleAt (fun _ => false) ip (fun y hy => by simp at hy) (fin_b I ?_)
            subst ek; simpa using hq
        · exact .inr hq
    | ref a =>
      unfold inop Heap.at at e
      dsimp only at e
      split at e
      · rename_i ds ea
        obtain ⟨p, ys, rfl, _, hp, gs⟩ := rel_lst s gy ea
        obtain ⟨es, ek⟩ := isIn_any e
        refine ⟨?_, ?_⟩
        · by_cases hq : Q (.bl k) H
          · refine .inl fun pins s' σ' v u I rx ry => ?_
            cases ry
            obtain ⟨its, rv, ip, _⟩ := I.list (L2.SqL.of hp)
            rcases isIn_some e with z | z
            · obtain ⟨ee, h1, h2⟩ := any_of I (A := X.A.in1) (by rw [in1_units]; have := g.units; omega) gx rx z gs rv es
              refine SeqAt.in_listAt ee ip.isList (fun y hy => h1 y (by simpa using hy)) (fin_b I ?_)
              rw [show its.toArray.any ee = its.any ee by simp, h2, ← ek]; exact hq
            · subst z
              obtain rfl : ys = [] := List.length_eq_zero_iff.mp gs.length.symm
              cases rv
              refine SeqAt.in_listAt (fun _ => false) ip.isList (fun y hy => by simp at hy) (fin_b I ?_)
              subst ek; simpa using hq
          · exact .inr hq
        · by_cases hq : Q (.bl (!k)) H
          · refine .inl fun pins s' σ' v u I rx ry => ?_
            cases ry
            obtain ⟨its, rv, ip, _⟩ := I.list (L2.SqL.of hp)
            rcases isIn_some e with z | z
            · obtain ⟨ee, h1, h2⟩ := any_of I (A := X.A.in1) (by rw [in1_units]; have := g.units; omega) gx rx z gs rv es
              refine SeqAt.notIn_listAt ee ip.isList (fun y hy => h1 y (by simpa using hy)) (fin_b I ?_)
              rw [show its.toArray.any ee = its.any ee by simp, h2, ← ek]; exact hq
            · subst z
              obtain rfl : ys = [] := List.length_eq_zero_iff.mp gs.length.symm
              cases rv
              refine SeqAt.notIn_listAt (fun _ => false) ip.isList (fun y hy => by simp at hy) (fin_b I ?_)
              subst ek; simpa using hq
          · exact .inr hq
      · rename_i kvs ea
        split at e
        · rename_i hk
          cases e
          obtain ⟨p, ks, rfl, _, hp, gk⟩ := rel_dic s gy ea
          obtain ⟨j, ej⟩ := keyJ_of hk
          obtain rfl := keyV gx ej
          have hu : X.A.units + 1 < cLine := by have := g.units; omega
          have hb : (lookD dx kvs).isSome = (L2.valV ks j).isSome := by
            rcases look_of (X := X) ej gk with ⟨c, v, e1, e2, _⟩ | ⟨e1, e2⟩
            · rw [e1, e2]; rfl
            · rw [e1, e2]; rfl
          refine ⟨?_, ?_⟩
          · by_cases hq : Q (.bl (lookD dx kvs).isSome) H
            · refine .inl fun pins s' σ' v u I rx ry => ?_
              cases ry
              exact L2.d_in hu I (L2.DGet.k (k := j) hp) rx fun s2 I2 => fin_b I2 (by rw [← hb]; exact hq)
            · exact .inr hq
          · by_cases hq : Q (.bl (!(lookD dx kvs).isSome)) H
            · refine .inl fun pins s' σ' v u I rx ry => ?_
              cases ry
              exact L2.d_notIn hu I (L2.DGet.k (k := j) hp) rx fun s2 I2 => fin_b I2 (by rw [← hb]; exact hq)
            · exact .inr hq
        · cases e
      · cases e
    | _ => unfold inop at e; cases e
  cases op with
  | Eq =>
    obtain ⟨d, e', h1, h2, h3, h4, h5⟩ := eq_ok g s gx gy (show eqO dx dy h = some k from e)
    exact wOp.of (L2.op_eqD g.units64) ⟨d, e', h1, h2, h3, h4, by rw [h5]; exact q⟩
  | NotEq =>
    have e : (eqO dx dy h).map not = some k := e
    cases e0 : eqO dx dy h with
    | none => rw [e0] at e; cases e
    | some k0 =>
      rw [e0] at e; cases e
      obtain ⟨d, e', h1, h2, h3, h4, h5⟩ := eq_ok g s gx gy e0
      exact wOp.of (L2.op_neD g.units64) ⟨d, e', h1, h2, h3, h4, by rw [h5]; exact q⟩
  | Lt =>
    have e : ltW dx dy = some k := e
    unfold ltW at e
    split at e
    · rename_i hd
      obtain ⟨d1, d2⟩ := Bool.and_eq_true_iff.mp hd
      intro pins s' σ' v u I rx ry
      exact lt_of I 20 dx dy (by have := g.units; omega) (by decide) gx gy rx ry d1 d2 e _ _ _ _ (fin_b I q)
    · cases e
  | Gt =>
    have e : gtS dx dy = some k := e
    unfold gtS at e
    split at e
    · cases e; cases rel_int gx; cases rel_int gy
      exact wOp.of L2.op_gt ⟨_, _, rfl, rfl, q⟩
    · cases e
      obtain ⟨rfl, _⟩ := rel_str gx; obtain ⟨rfl, _⟩ := rel_str gy
      exact wOp.of L2.op_gt_str ⟨_, _, rfl, rfl, by rw [toS_toList, toS_toList, ← ltL_iff]; exact q⟩
    · split at e
      · rename_i hd
        obtain ⟨d1, d2⟩ := Bool.and_eq_true_iff.mp hd
        cases e
        intro pins s' σ' v u I rx ry
        exact gt_of I (by have := g.units; omega) gx gy rx ry d1 d2 _ _ _ _ (fin_b I q)
      · cases e
    · cases e
  | LtE =>
    unfold cmpop at e
    dsimp only at e
    split at e
    · cases e; cases rel_int gx; cases rel_int gy
      exact wOp.of L2.op_le ⟨_, _, rfl, rfl, q⟩
    · cases e
      obtain ⟨rfl, _⟩ := rel_str gx; obtain ⟨rfl, _⟩ := rel_str gy
      exact wOp.of L2.op_le_str ⟨_, _, rfl, rfl, by rw [toS_toList, toS_toList, ← ltL_iff]; exact q⟩
    · cases e
  | GtE =>
    unfold cmpop at e
    dsimp only at e
    split at e
    · cases e; cases rel_int gx; cases rel_int gy
      exact wOp.of L2.op_ge ⟨_, _, rfl, rfl, q⟩
    · cases e
      obtain ⟨rfl, _⟩ := rel_str gx; obtain ⟨rfl, _⟩ := rel_str gy
      exact wOp.of L2.op_ge_str ⟨_, _, rfl, rfl, by rw [toS_toList, toS_toList, ← ltL_iff]; exact q⟩
    · cases e
  | Is =>
    unfold cmpop at e
    dsimp only at e
    split at e
    · have ey : y = .non := by unfold RelD at gy; exact gy
      refine wOp.of L2.op_isN ⟨ey, ?_⟩
      rw [non_iff gx]
      cases dx <;> (cases e; exact q)
    · cases e
  | IsNot =>
    unfold cmpop at e
    dsimp only at e
    split at e
    · have ey : y = .non := by unfold RelD at gy; exact gy
      refine wOp.of L2.op_notN ⟨ey, ?_⟩
      rw [non_iff gx]
      cases dx <;> (cases e; exact q)
    · cases e
  | In => exact (hin k e).1.resolve_right fun z => z q
  | NotIn =>
    have e : (inop dx dy h).map not = some k := e
    cases e0 : inop dx dy h with
    | none => rw [e0] at e; cases e
    | some k0 =>
      rw [e0] at e; cases e
      exact (hin k0 e0).2.resolve_right fun z => z q
end Y
set_option Elab.async false
set_option linter.all false
set_option maxRecDepth 100000
set_option maxHeartbeats 4000000
namespace Y
open PySem PySem.Spec PyProof.Rows
open L2 (V Hp upd upd_same upd_ne ne_of ne_of_none RelV Vals SqL SqT Rd Cx Inv PE PT PW PS PSs PA PG PI TE TT TS TA TG TI VK XK Ends EP)
variable {L : Lk} {C : Ctx} {n : Nat} {W : XK} {X : Cx} {H : Hp} {r : List Addr} {h : Heap} {env : Env} {σ : Sg} {Q : VK} {x y : V} {dx dy : D}
theorem neg_ok (g : Good L C n W X) (s : SR L X.K env h r σ H) (gx : RelD L X.K H r dx x) (p : Post L X.K (RV L X.K) W env σ r H Q (negF dx h)) : wUn X (unaryOp .USub) x H Q := by
  unfold negF at p
  split at p
  · cases rel_int gx
    exact wUn.of L2.un_neg ⟨_, rfl, p.here s mk_int⟩
  · exact p.elim
theorem ixN_eq : @idxN = @L2.ixN := rfl
theorem idx_ok (g : Good L C n W X) (s : SR L X.K env h r σ H) (gx : RelD L X.K H r dx x) (gy : RelD L X.K H r dy y) (p : Post L X.K (RV L X.K) W env σ r H Q (idxF dx dy h)) : wIx X x y H Q := by
  unfold idxF at p
  split at p
  · rename_i a i
    obtain ⟨rfl, ha⟩ := rel_str gx
    cases rel_int gy
    split at p
    · rename_i k ek
      split at p
      · rename_i c ec
        refine wIx.of L2.ix_str ⟨toS a, i, c, rfl, rfl, by rw [toS_len]; exact ha.1, ?_, p.here s (mk_str ⟨by show 1 ≤ PySem.sizeLine; rw [szl]; decide, fun z hz => ?_⟩)⟩
        · rw [toS_toList]
          unfold L2.atI
          rw [← ixN_eq, ek]
          exact ec
        · simp at hz
          subst hz
          exact ha.2 _ (List.mem_of_getElem? ec)
      · exact p.elim
    · exact p.elim
  · rename_i ds i
    obtain ⟨q, xs, rfl, sq, gs⟩ := rel_tup gx
    cases rel_int gy
    split at p
    · rename_i k ek
      unfold optR at p
      split at p
      · rename_i d ed
        obtain ⟨v, ev, gv⟩ := gs.get ed
        refine wIx.of L2.ix_tup ⟨q, xs, i, v, rfl, rfl, sq, ?_, p.here s gv⟩
        unfold L2.atI
        rw [← ixN_eq, ← gs.length, ek]
        exact ev
      · exact p.elim
    · exact p.elim
  · rename_i a
    unfold Heap.at at p
    split at p
    · rename_i ds i ea
      obtain ⟨q, xs, rfl, _, hp, gs⟩ := rel_lst s gx ea
      cases rel_int gy
      split at p
      · rename_i k ek
        unfold optR at p
        split at p
        · rename_i d ed
          obtain ⟨v, ev, gv⟩ := gs.get ed
          refine wIx.of L2.ix_list ⟨q, xs, i, v, rfl, rfl, L2.SqL.of hp, ?_, p.here s gv⟩
          unfold L2.atI
          rw [← ixN_eq, ← gs.length, ek]
          exact ev
        · exact p.elim
      · exact p.elim
    · rename_i kvs ea
      split at p
      · rename_i hk
        unfold optR at p
        split at p
        · rename_i d ed
          obtain ⟨q, ks, rfl, _, hp, gk⟩ := rel_dic s gx ea
          obtain ⟨j, ej⟩ := keyJ_of hk
          obtain rfl := keyV gy ej
          rcases look_of (X := X) ej gk with ⟨c, v, e1, e2, gv⟩ | ⟨e1, _⟩
          · rw [e1] at ed; cases ed
            intro value slice pins s' σ' vv u I rx ry hs
            cases rx
            have hd : L2.DGet H q (L2.kV j) (some v) := by rw [← e2]; exact L2.DGet.k (k := j) hp
            have hu : X.A.units + 1 < cLine := by have := g.units; omega
            exact tail_any (L2.dict_typeIs I hd) PySem.F.slot_dict_getitem.lookup (L2.d_getItem hu I hd ry fun w' s2 I2 rw' => ⟨v, H, I2, rw', p.here s gv⟩) hs
          · rw [e1] at ed; cases ed
        · exact p.elim
      · exact p.elim
    · exact p.elim
  · exact p.elim
theorem clip_eq (m : Nat) (i : Int) (d : Nat) : clip m i = HT.sIx m d (some i) := by
  unfold clip HT.sIx
  dsimp only
  split <;> split <;> (try split) <;> omega
theorem cut_eq {α : Type} (xs : List α) (lo hi : Option Int) : cut xs lo hi = (xs.drop (HT.sIx xs.length 0 lo)).take (HT.sIx xs.length xs.length hi - HT.sIx xs.length 0 lo) := by
  have e1 : cutLo xs.length lo = HT.sIx xs.length 0 lo := by
    cases lo with
    | none => rfl
    | some i => exact clip_eq _ _ _
  have e2 : cutHi xs.length hi = HT.sIx xs.length xs.length hi := by
    cases hi with
    | none => rfl
    | some i => exact clip_eq _ _ _
  unfold cut
  rw [e1, e2, List.drop_take]
theorem RelDs.cut {ds : List D} {xs : List V} (g : RelDs L X.K H r ds xs) (lo hi : Option Int) : RelDs L X.K H r (cut ds lo hi) (L2.cutV xs lo hi) := by
  rw [cut_eq]
  unfold L2.cutV
  rw [← g.length]
  exact (g.drop _).take _
def wSl (X : Cx) : V → Option Int → Option Int → Hp → VK → Prop := fun x lo hi H Q => ∀ (pins : List (Addr × Obj)) (s : Shared) (σ : Sg) (v vl vu : Value) (sl : Addr), Inv X pins σ H s → RelV x v → s.heap.IsSliceOf sl vl vu .none → IsPart vl lo → IsPart vu hi →
    ∃ T id, typeLookup (.type T) "__getitem__" = pure (some (.builtin id)) ∧ s.TypeIs v T ∧ wpAny (model X.prog X.w) X.A (getItem v (.ref sl)) (EP X pins σ Q) X.xe s
theorem sl_w {X : Cx} : L2.SlR X (wSl X) := fun pins s σ H x v vl vu lo hi sl Q I rx hs pl pu h => h pins s σ v vl vu sl I rx hs pl pu
theorem wSl.of {X : Cx} {t : V → Option Int → Option Int → Hp → VK → Prop} (h : L2.SlR X t) {x : V} {lo hi : Option Int} {H : Hp} {Q : VK} (q : t x lo hi H Q) : wSl X x lo hi H Q := fun pins s σ v vl vu sl I rx hs pl pu => h pins s σ H x v vl vu lo hi sl Q I rx hs pl pu q
theorem slc_ok {lo hi : Option Int} (g : Good L C n W X) (s : SR L X.K env h r σ H) (gx : RelD L X.K H r dx x) (p : Post L X.K (RV L X.K) W env σ r H Q (slcV dx lo hi h)) : wSl X x lo hi H Q := by
  unfold slcV at p
  split at p
  · rename_i a
    obtain ⟨rfl, ha⟩ := rel_str gx
    have e : L2.cutS (toS a) lo hi = toS (cut a lo hi) := by
      unfold L2.cutS
      refine TL.ext_tl ?_
      rw [cut_eq]
      show _ = ((a.drop _).take _)
      simp [TL.tl, toS, Str.length]
    refine wSl.of L2.sl_str ⟨_, rfl, by rw [toS_len]; exact ha.1, ?_⟩
    rw [e]
    refine p.here s (mk_str ⟨?_, fun c hc => ha.2 c ?_⟩)
    · rw [cut_eq]
      have := ha.1
      rw [List.length_take, List.length_drop]
      omega
    · rw [cut_eq] at hc
      exact List.mem_of_mem_drop (List.mem_of_mem_take hc)
  · rename_i ds
    obtain ⟨q, xs, rfl, sq, gs⟩ := rel_tup gx
    have gc := gs.cut lo hi
    refine wSl.of L2.sl_tupA ⟨q, xs, rfl, sq, fun hw => ?_, fun _ q' hq => ?_⟩
    · have e : cut ds lo hi = ds := by
        rw [cut_eq, gs.length, hw.1, hw.2, List.drop_zero, ← gs.length]
        simp
      rw [e] at p
      exact p.here s gx
    · obtain ⟨s', g'⟩ := new_tup s gc hq
      exact p _ _ r (List.prefix_refl r) (Keep.new hq) s' g'
  · rename_i ds
    unfold RelD at gx
    obtain ⟨q, xs, rfl, sq, gs⟩ := gx
    obtain ⟨_, q'⟩ := p.lst s (gs.cut lo hi)
    exact wSl.of L2.sl_list ⟨q, xs, rfl, sq.l, q'⟩
  · split at p
    · rename_i ds e
      obtain ⟨q, xs, rfl, hp, gs⟩ := rel_ref (a := 0) s gx e
      obtain ⟨_, q'⟩ := p.lst s (gs.cut lo hi)
      exact wSl.of L2.sl_list ⟨q, xs, rfl, L2.SqL.of hp, q'⟩
    · exact p.elim
end Y
set_option Elab.async false
set_option linter.all false
set_option maxRecDepth 100000
namespace Y
open PySem PySem.Spec PyProof.Rows
section
variable {prog : Program} {w : World} {A : Around} {E : Value → Shared → Prop} {s : Shared} {l : Addr} {xs : Array (Int × Tok)}
theorem sum_tupG {Q : Value → Shared → Prop} (hh : A.handled = none) (hl : s.heap.IsTuple l (intItems xs))
    (h : ∀ h' tk t', (∀ b o, s.heap.get? b = some o → h'.get? b = some o) → Q (.int (preSum (numAt xs) xs.size) t') { s with heap := h', toks := tk }) :
    wpAny (model prog w) A (call (.builtin "sum") [.ref l]) Q E s := by
  have hlt : l < s.heap.objs.size := by obtain ⟨_, e, _⟩ := hl; exact Heap.lt_size e
  refine call_sum_walkG (wpAny_pyIter_tuple hl ?_)
  refine ⟨_, [_, l], [_], _, _, _, numAt xs, rfl, Walks.tuple (A := A.in1) hh _ l (Nat.ne_of_lt hlt) (intItems xs), ⟨⟨_, Heap.get?_push_size _ rfl, rfl, rfl⟩, hl.push _⟩, fun c hc => ?_, (fun _ _ => intItems_at), fun h' tk t' hk => ?_⟩
  · show c < (s.heap.push _).objs.size
    rw [Heap.size_push]
    rcases List.mem_cons.mp hc with rfl | hc
    · exact Nat.lt_succ_self _
    · rcases List.mem_cons.mp hc with rfl | hc
      · exact Nat.lt_succ_of_lt hlt
      · cases hc
  · have hold : ∀ c o, s.heap.get? c = some o → h'.get? c = some o := fun c o e => by
      refine hk c o (fun hm => ?_) (Heap.get?_push_of_some _ e)
      rcases List.mem_cons.mp hm with e1 | hm
      · have := Heap.lt_size e; rw [e1] at this; exact Nat.lt_irrefl _ this
      · cases hm
    have := h h' tk t' hold
    simpa [intItems] using this
theorem sum_rawT {its : List Value} {ns : List Int} {Q : Value → Shared → Prop} (hh : A.handled = none) (hl : s.heap.IsTuple l its.toArray) (hi : IntsAre its ns)
    (h : ∀ h' tk t', (∀ b o, s.heap.get? b = some o → h'.get? b = some o) → Q (.int ns.sum t') { s with heap := h', toks := tk }) : wpAny (model prog w) A (call (.builtin "sum") [.ref l]) Q E s := by
  obtain ⟨xs, e⟩ := hi.allInts.items
  have hn : numsOf (intItems xs).toList = ns := by rw [← e]; exact hi.numsOf
  rw [nums_intItems] at hn
  rw [e] at hl
  refine sum_tupG hh hl fun h' tk t' hk => ?_
  have := h h' tk t' hk
  rw [preSum_eq, List.take_of_length_le (by simp), hn]; exact this
end
section
variable {X : L2.Cx}
def rSumT (K : PySem.W.Frag) : List L2.V → L2.Hp → L2.VK → Prop := fun vs H Q => ∃ (a : Addr) (ns : List Int), vs = [L2.V.ref a] ∧ L2.SqT K H a (ns.map L2.V.int) ∧ Q (.int ns.sum) H
theorem cr_sumT (hc : X.calm = true) : L2.CallR X (.builtin "sum") (rSumT X.K) := by
  intro pins s σ H vs us Q I r h
  obtain ⟨a, ns, rfl, hs, q⟩ := h
  obtain ⟨its, rv, hl, _⟩ := I.tuple hs
  rw [L2.Vals.ref1 r]
  exact sum_rawT (I.ok.hd hc) hl rv.ints fun h' tk t' hk => ⟨.int _, H, I.kept hk, ⟨_, rfl⟩, q⟩
end
end Y
set_option Elab.async false
set_option linter.all false
set_option maxRecDepth 100000
set_option maxHeartbeats 4000000
namespace Y
open PySem PySem.Spec PyProof.Rows
open L2 (V Hp upd upd_same upd_ne ne_of ne_of_none RelV Vals SqL SqT Rd Cx Inv PE PT PW PS PSs PA PG PI TE TT TS TA TG TI VK XK Ends EP)
variable {L : Lk} {C : Ctx} {n : Nat} {W : XK} {X : Cx} {H : Hp} {r : List Addr} {h : Heap} {env : Env} {σ : Sg} {Q : VK} {x y : V} {dx dy : D} {ds : List D} {xs : List V}
theorem rels0 {K : PySem.W.Frag} {xs : List V} (g : RelDs L K H r [] xs) : xs = [] := by unfold RelDs at g; exact g
theorem rels1 {K : PySem.W.Frag} {d : D} {ds : List D} {xs : List V} (g : RelDs L K H r (d :: ds) xs) : ∃ v ys, xs = v :: ys ∧ RelD L K H r d v ∧ RelDs L K H r ds ys := by
  unfold RelDs at g; exact g
theorem alls_of {K : PySem.W.Frag} : ∀ {ds : List D} {xs : List V}, RelDs L K H r ds xs → ∀ k, allB ds = some k → ∃ bs : List Bool, xs = bs.map V.bl ∧ k = bs.all id
  | [], xs, g, k, e => by
    cases rels0 g
    unfold allB at e; cases e
    exact ⟨[], rfl, rfl⟩
  | d :: ds, xs, g, k, e => by
    obtain ⟨v, ys, rfl, g1, g2⟩ := rels1 g
    cases d <;> first | (unfold allB at e; cases e; done) | skip
    rename_i b
    unfold allB at e
    cases e1 : allB ds with
    | none => rw [e1] at e; cases e
    | some k1 =>
      rw [e1] at e; cases e
      obtain ⟨bs, rfl, rfl⟩ := alls_of g2 _ e1
      have g1 : v = .bl b := by unfold RelD at g1; exact g1
      subst g1
      exact ⟨b :: bs, rfl, rfl⟩
theorem anys_of {K : PySem.W.Frag} : ∀ {ds : List D} {xs : List V}, RelDs L K H r ds xs → ∀ k, anyB ds = some k → ∃ bs : List Bool, xs = bs.map V.bl ∧ k = bs.any id
  | [], xs, g, k, e => by
    cases rels0 g
    unfold anyB at e; cases e
    exact ⟨[], rfl, rfl⟩
  | d :: ds, xs, g, k, e => by
    obtain ⟨v, ys, rfl, g1, g2⟩ := rels1 g
    cases d <;> first | (unfold anyB at e; cases e; done) | skip
    rename_i b
    unfold anyB at e
    cases e1 : anyB ds with
    | none => rw [e1] at e; cases e
    | some k1 =>
      rw [e1] at e; cases e
      obtain ⟨bs, rfl, rfl⟩ := anys_of g2 _ e1
      have g1 : v = .bl b := by unfold RelD at g1; exact g1
      subst g1
      exact ⟨b :: bs, rfl, rfl⟩
theorem sums_of {K : PySem.W.Frag} : ∀ {ds : List D} {xs : List V}, RelDs L K H r ds xs → ∀ k, sumI ds = some k → ∃ is : List Int, xs = is.map V.int ∧ k = is.sum
  | [], xs, g, k, e => by
    cases rels0 g
    unfold sumI at e; cases e
    exact ⟨[], rfl, rfl⟩
  | d :: ds, xs, g, k, e => by
    obtain ⟨v, ys, rfl, g1, g2⟩ := rels1 g
    cases d <;> first | (unfold sumI at e; cases e; done) | skip
    rename_i b
    unfold sumI at e
    cases e1 : sumI ds with
    | none => rw [e1] at e; cases e
    | some k1 =>
      rw [e1] at e; cases e
      obtain ⟨bs, rfl, rfl⟩ := sums_of g2 _ e1
      have g1 : v = .int b := by unfold RelD at g1; exact g1
      subst g1
      exact ⟨b :: bs, rfl, by rw [List.sum_cons]⟩
theorem digitsN_num : ∀ (f m : Nat) (acc : List Nat), m < f → digitsN f m acc = TL.numL m ++ acc
  | 0, m, acc, hf => absurd hf (Nat.not_lt_zero _)
  | f + 1, m, acc, hf => by
    unfold digitsN
    split
    · rename_i hm
      rw [TL.numL_lt hm]
      rfl
    · rename_i hm
      rw [digitsN_num f (m / 10) _ (by omega), TL.numL_step (n := m) (by omega), List.append_assoc]
      rfl
theorem natStr_num (m : Nat) : natStr m = TL.numL m := by
  unfold natStr
  rw [digitsN_num _ _ _ (Nat.lt_succ_self m), List.append_nil]
theorem intStr_tl (i : Int) : Str.ofString (toString i) = toS (intStr i) := by
  refine TL.ext_tl ?_
  cases i with
  | ofNat m => exact (TL.tl_num m).trans (natStr_num m).symm
  | negSucc m =>
    show TL.tl (Str.ofString (toString (Int.negSucc m))) = intStr (Int.negSucc m)
    have e : (toString (Int.negSucc m) : String) = "-" ++ toString ((m + 1 : Nat) : Int) := rfl
    rw [TL.tl_ofString, e, String.toList_append, List.map_append, ← TL.tl_ofString, ← TL.tl_ofString, TL.tl_num]
    show _ = 45 :: natStr (m + 1)
    rw [natStr_num]
    rfl
theorem numL_lt128 {m c : Nat} (hc : c ∈ TL.numL m) : c < 128 := by have := TL.numL_digits m c hc; omega
theorem okS_int {i : Int} (hi : i.natAbs < 1000000000000000000) : okS (intStr i) := by
  cases i with
  | ofNat m =>
    have e : intStr (.ofNat m) = TL.numL m := natStr_num m
    rw [e]
    refine ⟨Nat.le_trans (TL.numL_len (k := 18) (by decide) (by simpa using hi)) (by rw [szl]; decide), fun c hc => numL_lt128 hc⟩
  | negSucc m =>
    have e : intStr (.negSucc m) = 45 :: TL.numL (m + 1) := by rw [← natStr_num]; rfl
    rw [e]
    refine ⟨?_, fun c hc => ?_⟩
    · have := TL.numL_len (n := m + 1) (k := 18) (by decide) (by simpa using hi)
      rw [List.length_cons, szl]; omega
    · rcases List.mem_cons.mp hc with rfl | hc
      · decide
      · exact numL_lt128 hc
theorem log2_of {i : Int} (hi : i.natAbs < 1000000000000000000) : i.natAbs.log2 < 1920 := by
  by_cases h0 : i.natAbs = 0
  · rw [h0]; decide
  · refine (Nat.log2_lt h0).mpr (Nat.lt_of_lt_of_le hi ?_)
    exact Nat.le_trans (show 1000000000000000000 ≤ 2 ^ 64 by decide) (Nat.pow_le_pow_right (by decide) (by decide))
theorem readN_of : ∀ {cs : List Nat} {acc k : Nat}, readN cs acc = some k → NumText.AllDigits cs ∧ k = cs.foldl (fun acc c => acc * 10 + (c - 48)) acc
  | [], acc, k, e => by unfold readN at e; cases e; exact ⟨fun c hc => by simp at hc, rfl⟩
  | c :: cs, acc, k, e => by
    unfold readN at e
    split at e
    · rename_i hc
      obtain ⟨h1, h2⟩ := readN_of e
      refine ⟨fun d hd => ?_, h2⟩
      rcases List.mem_cons.mp hd with rfl | hd
      · exact hc
      · exact h1 d hd
    · cases e
theorem readInt_of {s : List Nat} {i : Int} (hl : s.length ≤ 640) (e : readInt s = some i) : PySem.intText? (toS s) = some i := by
  unfold readInt at e
  split at e
  · cases e
  · rename_i c cs
    split at e
    · rename_i m em
      cases e
      obtain ⟨h1, h2⟩ := readN_of em
      rw [intText_digits (x := toS (c :: cs)) h1 (by intro z; cases z) (by rw [toS_len]; omega), h2]
      rfl
    · cases e
theorem bool_int (b : Bool) : (if b then (1 : Int) else 0) = (if b = true then 1 else 0) := rfl
theorem bi_len (s : SR L X.K env h r σ H) (g : RelDs L X.K H r ds xs) (p : Post L X.K (RV L X.K) W env σ r H Q (biF .len ds h)) : wCall X (.builtin "len") xs H Q := by
  rcases ds with _ | ⟨d, _ | ⟨d2, ds⟩⟩ <;> first | exact p.elim | skip
  obtain ⟨v, ys, rfl, g1, g2⟩ := rels1 g
  cases rels0 g2
  unfold biF at p
  dsimp only at p
  split at p
  · rename_i k ek
    unfold lenD at ek
    split at ek
    · cases ek
      obtain ⟨rfl, ha⟩ := rel_str g1
      exact wCall.of L2.call_len ⟨_, _, rfl, ⟨by rw [toS_len]; exact ha.1, rfl⟩, by rw [toS_len]; exact p.here s mk_int⟩
    · cases ek
      obtain ⟨q, us, rfl, sq, gs⟩ := rel_tup g1
      exact wCall.of L2.call_len ⟨_, _, rfl, .inr ⟨us, sq, rfl⟩, by rw [← gs.length]; exact p.here s mk_int⟩
    · rename_i a
      unfold Heap.at at ek
      split at ek
      · rename_i ds ea
        cases ek
        obtain ⟨q, us, rfl, _, hp, gs⟩ := rel_lst s g1 ea
        exact wCall.of L2.call_len ⟨_, _, rfl, .inl ⟨us, L2.SqL.of hp, rfl⟩, by rw [← gs.length]; exact p.here s mk_int⟩
      · rename_i kvs ea
        cases ek
        obtain ⟨q, ks, rfl, _, hp, gk⟩ := rel_dic s g1 ea
        have e : kvs.length = ks.length := by
          clear ea p hp g1 g
          induction kvs generalizing ks with
          | nil => unfold RelK at gk; subst gk; rfl
          | cons kv kvs ih =>
            obtain ⟨a, d⟩ := kv
            unfold RelK at gk
            obtain ⟨j, v, t, rfl, _, _, gk⟩ := gk
            rw [List.length_cons, List.length_cons, ih _ gk]
        intro pins s' σ' us I rs
        rw [Vals.ref1 rs]
        exact L2.d_len I (.inl hp) fun t s2 I2 => ⟨.int ks.length, H, I2, ⟨t, rfl⟩, by rw [← e]; exact p.here s mk_int⟩
      · rename_i ks ea
        obtain ⟨q, e1, e2⟩ := (show ∃ q, v = .ref q ∧ r[a]? = some q by unfold RelD at g1; exact g1)
        exact (s.hr.at_ a _ q ea e2).elim
      · cases ek
    · cases ek
  · exact p.elim
theorem bi_seq {h : Heap} {dx : D} {zs : List D} {v : V} (s : SR L X.K env h r σ H) (g1 : RelD L X.K H r dx v) (e : items? h dx = some zs) : ∃ q us, v = .ref q ∧ (SqL X.K H q us ∨ SqT X.K H q us) ∧ RelDs L X.K H r zs us := by
  unfold items? at e
  split at e
  · cases e
    obtain ⟨q, us, rfl, sq, gs⟩ := rel_tup g1
    exact ⟨q, us, rfl, .inr sq, gs⟩
  · unfold Heap.at at e
    split at e
    · rename_i ea
      cases e
      obtain ⟨q, us, rfl, _, hp, gs⟩ := rel_lst s g1 ea
      exact ⟨q, us, rfl, .inl (L2.SqL.of hp), gs⟩
    · cases e
  · cases e
theorem bi_lst {h : Heap} {dx : D} {zs : List D} {v : V} (s : SR L X.K env h r σ H) (g1 : RelD L X.K H r dx v) (e : list? h dx = some zs) : ∃ q us, v = .ref q ∧ SqL X.K H q us ∧ H q = some (.lst us) ∧ RelDs L X.K H r zs us := by
  unfold list? at e
  split at e
  · unfold Heap.at at e
    split at e
    · rename_i ea
      cases e
      obtain ⟨q, us, rfl, _, hp, gs⟩ := rel_lst s g1 ea
      exact ⟨q, us, rfl, L2.SqL.of hp, hp, gs⟩
    · cases e
  · cases e
theorem bi_all (gd : Good L C n W X) (s : SR L X.K env h r σ H) (g : RelDs L X.K H r ds xs) (p : Post L X.K (RV L X.K) W env σ r H Q (biF .all ds h)) : wCall X (.builtin "all") xs H Q := by
  rcases ds with _ | ⟨d, _ | ⟨d2, ds⟩⟩ <;> first | exact p.elim | skip
  obtain ⟨v, ys, rfl, g1, g2⟩ := rels1 g
  cases rels0 g2
  unfold biF at p
  dsimp only at p
  split at p
  · rename_i zs ez
    obtain ⟨q, us, rfl, sq, _, gs⟩ := bi_lst s g1 ez
    cases e1 : allB zs with
    | none => rw [e1] at p; exact p.elim
    | some k =>
      rw [e1] at p
      obtain ⟨bs, rfl, rfl⟩ := alls_of gs _ e1
      exact wCall.of (L2.cr_all gd.calm) ⟨q, bs, rfl, sq, p.here s mk_bl⟩
  · exact p.elim
theorem bi_any (gd : Good L C n W X) (s : SR L X.K env h r σ H) (g : RelDs L X.K H r ds xs) (p : Post L X.K (RV L X.K) W env σ r H Q (biF .any ds h)) : wCall X (.builtin "any") xs H Q := by
  rcases ds with _ | ⟨d, _ | ⟨d2, ds⟩⟩ <;> first | exact p.elim | skip
  obtain ⟨v, ys, rfl, g1, g2⟩ := rels1 g
  cases rels0 g2
  unfold biF at p
  dsimp only at p
  split at p
  · rename_i zs ez
    obtain ⟨q, us, rfl, sq, _, gs⟩ := bi_lst s g1 ez
    cases e1 : anyB zs with
    | none => rw [e1] at p; exact p.elim
    | some k =>
      rw [e1] at p
      obtain ⟨bs, rfl, rfl⟩ := anys_of gs _ e1
      exact wCall.of (L2.cr_any gd.calm) ⟨q, bs, rfl, sq, p.here s mk_bl⟩
  · exact p.elim
theorem bi_sum (gd : Good L C n W X) (s : SR L X.K env h r σ H) (g : RelDs L X.K H r ds xs) (p : Post L X.K (RV L X.K) W env σ r H Q (biF .sum ds h)) : wCall X (.builtin "sum") xs H Q := by
  rcases ds with _ | ⟨d, _ | ⟨d2, ds⟩⟩ <;> first | exact p.elim | skip
  obtain ⟨v, ys, rfl, g1, g2⟩ := rels1 g
  cases rels0 g2
  unfold biF at p
  dsimp only at p
  split at p
  · rename_i zs ez
    obtain ⟨q, us, rfl, sq, gs⟩ := bi_seq s g1 ez
    cases e1 : sumI zs with
    | none => rw [e1] at p; exact p.elim
    | some k =>
      rw [e1] at p
      obtain ⟨bs, rfl, rfl⟩ := sums_of gs _ e1
      rcases sq with sq | sq
      · exact wCall.of (L2.cr_sum gd.calm) ⟨q, bs, rfl, sq, p.here s mk_int⟩
      · exact wCall.of (cr_sumT gd.calm) ⟨q, bs, rfl, sq, p.here s mk_int⟩
  · exact p.elim
theorem bi_tuple (s : SR L X.K env h r σ H) (g : RelDs L X.K H r ds xs) (p : Post L X.K (RV L X.K) W env σ r H Q (biF .tuple ds h)) : wCall X (.type "tuple") xs H Q := by
  rcases ds with _ | ⟨d, _ | ⟨d2, ds⟩⟩ <;> first | exact p.elim | skip
  obtain ⟨v, ys, rfl, g1, g2⟩ := rels1 g
  cases rels0 g2
  unfold biF at p
  dsimp only at p
  split at p
  · rename_i zs ez
    obtain ⟨q, us, rfl, sq, gs⟩ := bi_seq s g1 ez
    refine wCall.of L2.call_tuple_of ⟨q, us, rfl, ?_⟩
    rcases sq with sq | sq
    · refine .inl ⟨sq, fun l hl => ?_⟩
      obtain ⟨s', g'⟩ := new_tup s gs hl
      exact p _ _ r (List.prefix_refl r) (Keep.new hl) s' g'
    · exact .inr ⟨sq, p.here s (by unfold RelD; exact ⟨q, us, rfl, sq, gs⟩)⟩
  · exact p.elim
theorem bi_list (s : SR L X.K env h r σ H) (g : RelDs L X.K H r ds xs) (p : Post L X.K (RV L X.K) W env σ r H Q (biF .list ds h)) : wCall X (.type "list") xs H Q := by
  rcases ds with _ | ⟨d, _ | ⟨d2, ds⟩⟩ <;> first | exact p.elim | skip
  obtain ⟨v, ys, rfl, g1, g2⟩ := rels1 g
  cases rels0 g2
  unfold biF at p
  dsimp only at p
  split at p
  · rename_i zs ez
    obtain ⟨q, us, rfl, sq, gs⟩ := bi_seq s g1 ez
    exact wCall.of L2.call_list_of ⟨q, us, rfl, sq, (p.lst s gs).2⟩
  · exact p.elim
theorem bi_int (s : SR L X.K env h r σ H) (g : RelDs L X.K H r ds xs) (p : Post L X.K (RV L X.K) W env σ r H Q (biF .int ds h)) : wCall X (.type "int") xs H Q := by
  rcases ds with _ | ⟨d, _ | ⟨d2, ds⟩⟩ <;> first | exact p.elim | (cases d <;> first | exact p.elim | skip)
  · obtain ⟨v, ys, rfl, g1, g2⟩ := rels1 g
    cases rels0 g2
    cases rel_bl g1
    exact wCall.of L2.call_int1 (.inr ⟨_, rfl, p.here s mk_int⟩)
  · obtain ⟨v, ys, rfl, g1, g2⟩ := rels1 g
    cases rels0 g2
    cases rel_int g1
    exact wCall.of L2.call_int1 (.inl ⟨_, rfl, p.here s mk_int⟩)
  · rename_i a
    obtain ⟨v, ys, rfl, g1, g2⟩ := rels1 g
    cases rels0 g2
    obtain ⟨rfl, ha⟩ := rel_str g1
    unfold biF at p
    dsimp only at p
    split at p
    · rename_i hl
      cases e : readInt a with
      | none => rw [e] at p; exact p.elim
      | some i =>
        rw [e] at p
        exact wCall.of L2.call_int_str ⟨_, i, rfl, readInt_of hl e, by rw [toS_len]; exact hl, p.here s mk_int⟩
    · exact p.elim
  all_goals (rcases ds with _ | ⟨d3, ds⟩ <;> exact p.elim)
theorem bi_str (s : SR L X.K env h r σ H) (g : RelDs L X.K H r ds xs) (p : Post L X.K (RV L X.K) W env σ r H Q (biF .str ds h)) : wCall X (.type "str") xs H Q := by
  rcases ds with _ | ⟨d, _ | ⟨d2, ds⟩⟩ <;> first | exact p.elim | (cases d <;> first | exact p.elim | skip)
  · rename_i i
    obtain ⟨v, ys, rfl, g1, g2⟩ := rels1 g
    cases rels0 g2
    cases rel_int g1
    unfold biF at p
    dsimp only at p
    split at p
    · rename_i hi
      refine wCall.of L2.call_str_int ⟨i, rfl, log2_of hi, ?_⟩
      rw [intStr_tl]
      exact p.here s (mk_str (okS_int hi))
    · exact p.elim
  · obtain ⟨v, ys, rfl, g1, g2⟩ := rels1 g
    cases rels0 g2
    obtain ⟨rfl, ha⟩ := rel_str g1
    exact wCall.of SkE.call_str_str ⟨_, rfl, p.here s g1⟩
theorem bi_ord (s : SR L X.K env h r σ H) (g : RelDs L X.K H r ds xs) (p : Post L X.K (RV L X.K) W env σ r H Q (biF .ord ds h)) : wCall X (.builtin "ord") xs H Q := by
  rcases ds with _ | ⟨d, _ | ⟨d2, ds⟩⟩ <;> first | exact p.elim | (cases d <;> first | exact p.elim | skip)
  all_goals rename_i a
  all_goals rcases a with _ | ⟨c, _ | ⟨c2, cs⟩⟩
  all_goals first | exact p.elim | skip
  obtain ⟨v, ys, rfl, g1, g2⟩ := rels1 g
  cases rels0 g2
  obtain ⟨rfl, ha⟩ := rel_str g1
  exact wCall.of L2.call_ord ⟨_, rfl, rfl, p.here s mk_int⟩
theorem bi_abs (s : SR L X.K env h r σ H) (g : RelDs L X.K H r ds xs) (p : Post L X.K (RV L X.K) W env σ r H Q (biF .abs ds h)) : wCall X (.builtin "abs") xs H Q := by
  rcases ds with _ | ⟨d, _ | ⟨d2, ds⟩⟩ <;> first | exact p.elim | (cases d <;> first | exact p.elim | skip)
  rename_i i
  obtain ⟨v, ys, rfl, g1, g2⟩ := rels1 g
  cases rels0 g2
  cases rel_int g1
  refine wCall.of L2.call_abs ⟨i, rfl, ?_⟩
  have e : (if i < 0 then -i else i) = (i.natAbs : Int) := by split <;> omega
  rw [e]
  exact p.here s mk_int
theorem two_int {f : Int → Int → Res D} {b : Bi} (hb : ∀ ds, (∃ i j, ds = [.int i, .int j] ∧ biF b ds h = f i j) ∨ biF b ds h = .err) (g : RelDs L X.K H r ds xs) (p : Post L X.K (RV L X.K) W env σ r H Q (biF b ds h)) : ∃ i j, xs = [.int i, .int j] ∧ Post L X.K (RV L X.K) W env σ r H Q (f i j) := by
  rcases hb ds with ⟨i, j, rfl, e⟩ | e
  · obtain ⟨v, ys, rfl, g1, g2⟩ := rels1 g
    obtain ⟨u, ys, rfl, g3, g4⟩ := rels1 g2
    cases rels0 g4
    cases rel_int g1
    cases rel_int g3
    rw [e] at p
    exact ⟨i, j, rfl, p⟩
  · rw [e] at p; exact p.elim
theorem bi_min (gd : Good L C n W X) (s : SR L X.K env h r σ H) (g : RelDs L X.K H r ds xs) (p : Post L X.K (RV L X.K) W env σ r H Q (biF .min ds h)) : wCall X (.builtin "min") xs H Q := by
  obtain ⟨i, j, rfl, p⟩ := two_int (f := fun i j => .ok (.int (if j < i then j else i)) h) (fun ds => by unfold biF; split <;> first | exact .inl ⟨_, _, rfl, rfl⟩ | (exfalso; simp_all; done) | exact .inr rfl) g p
  exact wCall.of (L2.call_min2 gd.calm) ⟨i, j, rfl, p.here s mk_int⟩
theorem bi_max (gd : Good L C n W X) (s : SR L X.K env h r σ H) (g : RelDs L X.K H r ds xs) (p : Post L X.K (RV L X.K) W env σ r H Q (biF .max ds h)) : wCall X (.builtin "max") xs H Q := by
  obtain ⟨i, j, rfl, p⟩ := two_int (f := fun i j => .ok (.int (if i < j then j else i)) h) (fun ds => by unfold biF; split <;> first | exact .inl ⟨_, _, rfl, rfl⟩ | (exfalso; simp_all; done) | exact .inr rfl) g p
  exact wCall.of (L2.call_max2 gd.calm) ⟨i, j, rfl, p.here s mk_int⟩
theorem bi_divmod (s : SR L X.K env h r σ H) (g : RelDs L X.K H r ds xs) (p : Post L X.K (RV L X.K) W env σ r H Q (biF .divmod ds h)) : wCall X (.builtin "divmod") xs H Q := by
  obtain ⟨i, j, rfl, p⟩ := two_int (f := fun a b => if 0 < b ∧ b < 1073741824 then .ok (.tup [.int (a / b), .int (a % b)]) h else .err) (fun ds => by unfold biF; split <;> first | exact .inl ⟨_, _, rfl, rfl⟩ | (exfalso; simp_all; done) | exact .inr rfl) g p
  split at p
  · rename_i hj
    refine wCall.of L2.call_divmod ⟨i, j, rfl, hj, fun l hl => ?_⟩
    obtain ⟨s', g'⟩ := new_tup s (ds := [.int (i / j), .int (i % j)]) (xs := [.int (i / j), .int (i % j)]) (.cons mk_int (.cons mk_int .nil)) hl
    exact p _ _ r (List.prefix_refl r) (Keep.new hl) s' g'
  · exact p.elim
end Y
set_option Elab.async false
set_option linter.all false
set_option maxRecDepth 100000
set_option maxHeartbeats 4000000
namespace Y
open PySem PySem.Spec PyProof.Rows
section
variable {prog : Program} {w : World} {A : Around} {R : Result → Shared → Prop} {I : Addr} {fp wr : List Addr} {G : Array GenState → Array GenState → Prop} {n : Nat} {P : Nat → Value → Prop} {St : Nat → Shared → Prop}
def addK (l : List L2.Key) (k : L2.Key) : List L2.Key := if l.any (fun a => decide (a = k)) then l else l ++ [k]
def metK (ks : List L2.Key) : List L2.Key := ks.foldl addK []
theorem addK_len (l : List L2.Key) (k : L2.Key) : (addK l k).length = if l.any (fun a => decide (a = k)) then l.length else l.length + 1 := by unfold addK; split <;> simp
theorem addK_any (l : List L2.Key) (v k : L2.Key) : (addK l v).any (fun a => decide (a = k)) = (l.any (fun a => decide (a = k)) || decide (k = v)) := by
  unfold addK
  by_cases h : l.any (fun a => decide (a = v)) = true
  · rw [if_pos h]
    by_cases e : k = v
    · subst e; rw [h]; simp
    · simp [e]
  · rw [if_neg h, List.any_append]
    by_cases e : k = v
    · subst e; simp
    · have : ¬ v = k := fun z => e z.symm
      simp [this, e]
theorem foldK_len : ∀ (ks l : List L2.Key), (ks.foldl addK l).length ≤ l.length + ks.length
  | [], l => by simp
  | k :: ks, l => by
    have := foldK_len ks (addK l k)
    rw [addK_len] at this
    simp only [List.foldl_cons, List.length_cons]
    split at this <;> omega
theorem metK_take {ks : List L2.Key} {i : Nat} {k : L2.Key} (h : ks[i]? = some k) : metK (ks.take (i + 1)) = addK (metK (ks.take i)) k := by
  unfold metK
  rw [List.take_add_one, h, List.foldl_append]
  rfl
theorem setCong {K : Type} [DecidableEq K] {knd : PySem.KeyKind prog w K} {h : PySem.Heap} {a : Addr} {S S' : K → Bool} {n n' : Nat} (hS : h.SetOf knd a S n) (e : ∀ k, S k = S' k) (en : n = n') : h.SetOf knd a S' n' := by
  obtain rfl : S = S' := funext e
  subst en; exact hS
abbrev setKO (h : PySem.Heap) (p : Program) (w : World) (S : Addr) (l : List L2.Key) : Prop := h.SetOf (L2.mixKind p w) S (fun k => l.any (fun a => decide (a = k))) l.length
theorem loopK (W : WalksS prog w A.in1 I fp wr G n P St) (S : Addr) (hSf : S ∉ fp) (ks : List L2.Key) (hn : ks.length = n) (hv : ∀ i v, P i v → ∃ k, ks[i]? = some k ∧ (L2.mixKind prog w).is k v = true) (hb : n + 1 < scanBound) (d : Nat) :
    ∀ (i : Nat) (s : Shared), n - i = d → i ≤ n → St i s → setKO s.heap prog w S (metK (ks.take i)) →
      (∀ s', Moved (S :: wr) G s s' → setKO s'.heap prog w S (metK ks) → R (.ok (.ret .none)) s') → codeAny (model prog w) A (.builtin "set.update.loop" ⟨[.ref S, .ref I], []⟩) R s := by
  have sub : ∀ b ∈ wr, b ∈ S :: wr := fun b hb => List.mem_cons_of_mem _ hb
  have hw : S ∉ wr := fun h => hSf (W.sub _ h)
  have mv : ∀ {s s' : Shared} {l : List L2.Key}, Moved wr G s s' → setKO s.heap prog w S l → setKO s'.heap prog w S l := fun {s s' l} m ⟨o, es, ep, t, ho, rest⟩ => ⟨o, es, ep, t, m.heap S _ hw ho, rest⟩
  induction d with
  | zero =>
    intro i s hd hi hst hS hR
    obtain rfl : i = n := by omega
    refine codeAny_builtin F.entry_set_update_loop ?_
    rw [Around.under_plainId F.plain_set_update_loop _]
    show wpAny _ A.in1 (pyNext (.ref I) >>= _) _ _ s
    refine wpAny_bind (W.done s _ _ hst fun s' hm => ?_)
    show wpAny _ A.in1 (ret Value.none) _ _ s'
    refine wpAny_pure (hR s' (hm.mono sub) (mv hm ?_))
    rwa [List.take_of_length_le (by omega)] at hS
  | succ d ih =>
    intro i s hd hi hst hS hR
    have hlt : i < n := by omega
    refine codeAny_builtin F.entry_set_update_loop ?_
    rw [Around.under_plainId F.plain_set_update_loop _]
    show wpAny _ A.in1 (pyNext (.ref I) >>= _) _ _ s
    refine wpAny_bind (W.item i s _ _ hlt hst fun v s' hP hst' hm => ?_)
    obtain ⟨k, hk, his⟩ := hv i v hP
    have hS' := mv hm hS
    show wpAny _ A.in1 (holding [v] (setAdd S v) >>= _) _ _ s'
    refine wpAny_bind (wpAny_holding ?_)
    unfold setAdd
    refine wpAny_holding (wpAny_bind ((L2.mixKind prog w).pyHash (k := k) his ?_))
    have room : (metK (ks.take i)).length + 1 < scanBound := by
      have := foldK_len (ks.take i) []
      have h2 : (ks.take i).length ≤ i := List.length_take_le _ _
      unfold metK
      simp only [List.length_nil] at this
      omega
    refine wpAny_setAddHashed_of (knd := L2.mixKind prog w) (s := { s' with toks := s'.toks + 1 }) his (by rcases L2.keyIs_shape his with ⟨i, t, rfl, rfl⟩ | ⟨i, t, rfl, rfl⟩ <;> rfl) hS' room fun h' hsb hS2 => ?_
    have hS3 : setKO h' prog w S (metK (ks.take (i + 1))) := setCong hS2 (fun k' => by rw [metK_take hk, addK_any]) (by rw [metK_take hk, addK_len])
    refine wpAny_pure ⟨plainId_quiet F.plain_set_update_loop _, ih (i + 1) _ (by omega) hlt (W.frame _ s' _ _ hst' (Nat.le_succ _) fun b hb o e => ?_) hS3 fun s'' m2 hS4 => hR s'' (Moved.trans W.gtrans ((hm.mono sub).then_heap (Nat.le_succ _) fun b o hb e => ?_) m2) hS4⟩
    · have : b ≠ S := fun z => hSf (by rw [← z]; exact hb)
      rw [hsb.2 b this]; exact e
    · have : b ≠ S := fun z => hb (by rw [z]; exact List.mem_cons_self)
      rw [hsb.2 b this]; exact e
end
abbrev setN (led : Bool) : Obj := { cls := .type "set", dict := none, data := .set #[] 0 (.fresh 0 0 led) }
section
variable {prog : Program} {w : World} {A : Around} {E : Value → Shared → Prop} {s : Shared}
set_option maxHeartbeats 6400000 in
theorem call_set_lst {l : Addr} {its : Array Value} (ks : List L2.Key) {Q : Value → Shared → Prop} (hh : A.handled = none) (hl : s.heap.IsList l its) (hn : ks.length = its.size) (hv : ∀ (i : Nat) (v : Value), its[i]? = some v → ∃ k, ks[i]? = some k ∧ (L2.mixKind prog w).is k v = true) (hb : its.size + 1 < scanBound)
    (h : ∀ (h' : PySem.Heap) (tk : Nat), setKO h' prog w s.heap.objs.size (metK ks) → (∀ b o, s.heap.get? b = some o → h'.get? b = some o) → Q (.ref s.heap.objs.size) { s with heap := h', toks := tk }) : wpAny (model prog w) A (call (.type "set") [.ref l]) Q E s := by
  have hmade := F.called_set.made; have hsub := F.called_set.sub
  obtain ⟨c, tl, hmro⟩ := F.called_set.mro
  refine wpAny_call (codeAny_of_tree ?_)
  show wpAny _ _ (callAny (.type "set") _) _ _ _
  refine wpAny_pure ⟨Code.quiet_builtin _ (by decide +kernel), codeAny_builtin F.entry_type_call ?_⟩
  rw [Around.under_plain (weight_type_call_type "set" [.ref l] []) rfl]
  have h1 := F.called_set.notType; have h2 := F.called_set.canCreate; have hct := F.typeCall_set_1 (.ref l)
  repeat (any_goals (first | assumption | wp_step))
  refine codeAny_mono (code_set_new_1 (.ref l) (E := E) (Q₁ := fun obj s₁ => ∃ led : Bool, obj = .ref s.heap.objs.size ∧ s₁ = { s with heap := s.heap.push (setN led) }) fun led => ⟨led, rfl, rfl⟩) fun r s₁ hr => ?_
  rcases r with e | fl
  · exact hr
  rcases fl with _ | _ | _ | obj <;> first | exact hr.elim | skip
  obtain ⟨led, rfl, rfl⟩ := hr
  have hS : (s.heap.push (setN led)).get? s.heap.objs.size = some (setN led) := Heap.get?_push_size _ rfl
  have hT : Shared.TypeIs { s with heap := s.heap.push (setN led) } (.ref s.heap.objs.size) "set" := ⟨_, hS, rfl⟩
  have hli := F.called_set.init.lookup; have hbi := F.called_set.init.bind (.ref s.heap.objs.size)
  repeat (any_goals (first | assumption | wp_step))
  refine codeAny_mono (codeAny_call_builtin (R := wants (fun r s₂ => r = .none ∧ ∃ h' tk, s₂ = { s with heap := h', toks := tk } ∧ setKO h' prog w s.heap.objs.size (metK ks) ∧ (∀ b o, s.heap.get? b = some o → h'.get? b = some o)) E) F.called_set.init.plain F.entry_set_init (check_set_init_1 hT ?_)) fun r₂ s₂ hr₂ => ?_
  · have hlS : l < s.heap.objs.size := by obtain ⟨_, e, _⟩ := hl; exact Heap.lt_size e
    obtain ⟨ol, hol, hcl, nl, hdl⟩ := hl
    obtain ⟨ocls, odict, odata, oslots⟩ := ol
    simp only at hcl hdl
    subst hcl hdl
    have hol' : (s.heap.push (setN led)).get? l = some { cls := .type "list", dict := odict, data := .seq its nl, slots := oslots } := Heap.get?_push_of_some _ hol
    have hsls := F.sub_list_set; have hslf := F.sub_list_frozenset; have hne : (Value.type "list" == Value.type "dict") = false := by decide
    have hl1 : (s.heap.push (setN led)).IsList l its := ⟨_, hol', rfl, nl, rfl⟩
    unfold Builtin.«set.__init__» noKeywords Builtin.Frozenset.updateFrom
    generalize hPI : pyIter = PI
    wp_walk
    subst hPI
    refine wpAny_pyIter_list hl1 ?_
    refine wpAny_bind (wpAny_runValue ?_)
    have hh3 : A.in1.in1.in1.handled = none := by simp [hh]
    have hz : (s.heap.push (setN led)).objs.size = s.heap.objs.size + 1 := Heap.size_push ..
    have hneI : l ≠ (s.heap.push (setN led)).objs.size := by rw [hz]; exact Nat.ne_of_lt (Nat.lt_succ_of_lt hlS)
    have hSf : s.heap.objs.size ∉ [(s.heap.push (setN led)).objs.size, l] := by
      rw [hz]; simp only [List.mem_cons, List.not_mem_nil, or_false, not_or]
      exact ⟨Nat.ne_of_lt (Nat.lt_succ_self _), Nat.ne_of_gt hlS⟩
    refine loopK ((Walks.list hh3 _ l hneI its).toS) s.heap.objs.size hSf ks hn hv hb (its.size - 0) 0 _ (by omega) (Nat.zero_le _) ⟨⟨_, Heap.get?_push_size _ rfl, rfl, rfl⟩, (hl1.push _)⟩ ?hS0 ?hR
    case hS0 =>
      exact ⟨_, #[], 0, _, Heap.get?_push_of_some _ hS, ⟨rfl, rfl, rfl⟩, rfl, fun e he => by simp at he, fun k => by simp [metK], by unfold scanBound; decide, by rfl, rfl⟩
    case hR =>
      intro s' hm hS'
      obtain ⟨h', g', d', tk', os'⟩ := s'
      obtain rfl : g' = s.gens := hm.gens
      obtain rfl : d' = s.drawn := hm.drawn
      obtain rfl : os' = s.os := hm.os
      show wpAny _ _ _ _ _ _
      refine wpAny_pure ?_
      show wpAny _ _ (ret Value.none) _ _ _
      refine wpAny_pure ⟨rfl, h', tk', rfl, hS', fun b o e => hm.heap b o ?_ (Heap.get?_push_of_some _ (Heap.get?_push_of_some _ e))⟩
      have hbS : b < s.heap.objs.size := Heap.lt_size e
      simp only [List.mem_cons, List.not_mem_nil, or_false, not_or]
      exact ⟨Nat.ne_of_lt hbS, by rw [hz]; exact Nat.ne_of_lt (Nat.lt_succ_of_lt hbS)⟩
  · rcases r₂ with e | fl₂
    · exact hr₂
    rcases fl₂ with _ | _ | _ | r <;> first | exact hr₂.elim | skip
    obtain ⟨rfl, h', tk, rfl, hS', hk'⟩ := hr₂
    repeat (any_goals (first | assumption | wp_step))
    exact h _ _ hS' hk'
set_option maxHeartbeats 6400000 in
theorem call_set_tup {l : Addr} {its : Array Value} (ks : List L2.Key) {Q : Value → Shared → Prop} (hh : A.handled = none) (hl : s.heap.IsTuple l its) (hn : ks.length = its.size) (hv : ∀ (i : Nat) (v : Value), its[i]? = some v → ∃ k, ks[i]? = some k ∧ (L2.mixKind prog w).is k v = true) (hb : its.size + 1 < scanBound)
    (h : ∀ (h' : PySem.Heap) (tk : Nat), setKO h' prog w s.heap.objs.size (metK ks) → (∀ b o, s.heap.get? b = some o → h'.get? b = some o) → Q (.ref s.heap.objs.size) { s with heap := h', toks := tk }) : wpAny (model prog w) A (call (.type "set") [.ref l]) Q E s := by
  have hmade := F.called_set.made; have hsub := F.called_set.sub
  obtain ⟨c, tl, hmro⟩ := F.called_set.mro
  refine wpAny_call (codeAny_of_tree ?_)
  show wpAny _ _ (callAny (.type "set") _) _ _ _
  refine wpAny_pure ⟨Code.quiet_builtin _ (by decide +kernel), codeAny_builtin F.entry_type_call ?_⟩
  rw [Around.under_plain (weight_type_call_type "set" [.ref l] []) rfl]
  have h1 := F.called_set.notType; have h2 := F.called_set.canCreate; have hct := F.typeCall_set_1 (.ref l)
  repeat (any_goals (first | assumption | wp_step))
  refine codeAny_mono (code_set_new_1 (.ref l) (E := E) (Q₁ := fun obj s₁ => ∃ led : Bool, obj = .ref s.heap.objs.size ∧ s₁ = { s with heap := s.heap.push (setN led) }) fun led => ⟨led, rfl, rfl⟩) fun r s₁ hr => ?_
  rcases r with e | fl
  · exact hr
  rcases fl with _ | _ | _ | obj <;> first | exact hr.elim | skip
  obtain ⟨led, rfl, rfl⟩ := hr
  have hS : (s.heap.push (setN led)).get? s.heap.objs.size = some (setN led) := Heap.get?_push_size _ rfl
  have hT : Shared.TypeIs { s with heap := s.heap.push (setN led) } (.ref s.heap.objs.size) "set" := ⟨_, hS, rfl⟩
  have hli := F.called_set.init.lookup; have hbi := F.called_set.init.bind (.ref s.heap.objs.size)
  repeat (any_goals (first | assumption | wp_step))
  refine codeAny_mono (codeAny_call_builtin (R := wants (fun r s₂ => r = .none ∧ ∃ h' tk, s₂ = { s with heap := h', toks := tk } ∧ setKO h' prog w s.heap.objs.size (metK ks) ∧ (∀ b o, s.heap.get? b = some o → h'.get? b = some o)) E) F.called_set.init.plain F.entry_set_init (check_set_init_1 hT ?_)) fun r₂ s₂ hr₂ => ?_
  · have hlS : l < s.heap.objs.size := by obtain ⟨_, e, _⟩ := hl; exact Heap.lt_size e
    obtain ⟨ol, hol, hcl, nl, hdl⟩ := hl
    obtain ⟨ocls, odict, odata, oslots⟩ := ol
    simp only at hcl hdl
    subst hcl hdl
    have hol' : (s.heap.push (setN led)).get? l = some { cls := .type "tuple", dict := odict, data := .seq its nl, slots := oslots } := Heap.get?_push_of_some _ hol
    have hsls := F.sub_tuple_set; have hslf := F.sub_tuple_frozenset; have hne : (Value.type "tuple" == Value.type "dict") = false := by decide
    have hl1 : (s.heap.push (setN led)).IsTuple l its := ⟨_, hol', rfl, nl, rfl⟩
    unfold Builtin.«set.__init__» noKeywords Builtin.Frozenset.updateFrom
    generalize hPI : pyIter = PI
    wp_walk
    subst hPI
    refine wpAny_pyIter_tuple hl1 ?_
    refine wpAny_bind (wpAny_runValue ?_)
    have hh3 : A.in1.in1.in1.handled = none := by simp [hh]
    have hz : (s.heap.push (setN led)).objs.size = s.heap.objs.size + 1 := Heap.size_push ..
    have hneI : l ≠ (s.heap.push (setN led)).objs.size := by rw [hz]; exact Nat.ne_of_lt (Nat.lt_succ_of_lt hlS)
    have hSf : s.heap.objs.size ∉ [(s.heap.push (setN led)).objs.size, l] := by
      rw [hz]; simp only [List.mem_cons, List.not_mem_nil, or_false, not_or]
      exact ⟨Nat.ne_of_lt (Nat.lt_succ_self _), Nat.ne_of_gt hlS⟩
    refine loopK ((Walks.tuple hh3 _ l hneI its).toS) s.heap.objs.size hSf ks hn hv hb (its.size - 0) 0 _ (by omega) (Nat.zero_le _) ⟨⟨_, Heap.get?_push_size _ rfl, rfl, rfl⟩, (hl1.push _)⟩ ?hS0 ?hR
    case hS0 =>
      exact ⟨_, #[], 0, _, Heap.get?_push_of_some _ hS, ⟨rfl, rfl, rfl⟩, rfl, fun e he => by simp at he, fun k => by simp [metK], by unfold scanBound; decide, by rfl, rfl⟩
    case hR =>
      intro s' hm hS'
      obtain ⟨h', g', d', tk', os'⟩ := s'
      obtain rfl : g' = s.gens := hm.gens
      obtain rfl : d' = s.drawn := hm.drawn
      obtain rfl : os' = s.os := hm.os
      show wpAny _ _ _ _ _ _
      refine wpAny_pure ?_
      show wpAny _ _ (ret Value.none) _ _ _
      refine wpAny_pure ⟨rfl, h', tk', rfl, hS', fun b o e => hm.heap b o ?_ (Heap.get?_push_of_some _ (Heap.get?_push_of_some _ e))⟩
      have hbS : b < s.heap.objs.size := Heap.lt_size e
      simp only [List.mem_cons, List.not_mem_nil, or_false, not_or]
      exact ⟨Nat.ne_of_lt hbS, by rw [hz]; exact Nat.ne_of_lt (Nat.lt_succ_of_lt hbS)⟩
  · rcases r₂ with e | fl₂
    · exact hr₂
    rcases fl₂ with _ | _ | _ | r <;> first | exact hr₂.elim | skip
    obtain ⟨rfl, h', tk, rfl, hS', hk'⟩ := hr₂
    repeat (any_goals (first | assumption | wp_step))
    exact h _ _ hS' hk'
end
end Y
set_option Elab.async false
set_option linter.all false
set_option maxRecDepth 100000
set_option maxHeartbeats 4000000
namespace Y
open PySem PySem.Spec PyProof.Rows PySem.W PySem.Calls
section
variable {prog : Program} {w : World} {A : Around} {E : Value → Shared → Prop} {s : Shared} {β : Type} {vs : List Value} {bs : List β} {enc : β → PyData} {R : Value → β → Prop} {κ : PyProof.Rows.KeyKind}
theorem collect_tup {l : Addr} {Q : List Value → Shared → Prop} (hl : s.heap.IsTuple l vs.toArray) (h : Q vs { s with heap := (s.heap.push (seqObj "list" #[] 0)).update s.heap.objs.size (Obj.mapSeq (· ++ vs.toArray)) }) (hsz : vs.length ≤ PySem.sizeLine) :
    wpAny (model prog w) A (collect (.ref l)) Q E s := by
  obtain ⟨o, ho, hc, n, hd⟩ := id hl
  have ho' : (s.heap.push (seqObj "list" #[] 0)).get? l = some o := Heap.get?_push_of_some _ ho
  have ht : ((Value.type "tuple" == Value.type "list") || (Value.type "tuple" == Value.type "tuple")) = true := by rfl
  unfold collect; refine wpAny_bind (wpAny_runValue (codeAny_builtin entry_proto_collect' ?_))
  show wpAny _ _ (do again (.builtin "list.__iadd__" ⟨[← newList [], .ref l], []⟩)) _ _ s; refine wpAny_bind (wpAny_newList (wpAny_pure ⟨Code.quiet_builtin _ (by decide +kernel), codeAny_builtin entry_list_iadd' ?_⟩))
  show wpAny _ _ (Builtin.List.listExtendWith (.ref s.heap.objs.size) (.ref l) (.ref s.heap.objs.size)) _ _ { s with heap := s.heap.push (seqObj "list" #[] 0) }; unfold Builtin.List.listExtendWith
  refine wpAny_bind (wpAny_typeOf (T := "tuple") ⟨o, ho', hc⟩ ?_); rw [if_pos (by rw [Bool.or_assoc, ht]; simp)]
  refine wpAny_bind (listItems_at ho' hd ?_); refine wpAny_bind (listItems_at (xs := #[]) (n := 0) (Heap.get?_push_size _ rfl) rfl ?_); rw [if_neg (by simp)]
  refine wpAny_bind (listUpdate_at (xs := #[]) (n := 0) (Heap.get?_push_size _ rfl) rfl ?_ (Nat.zero_le _) (by show (#[] ++ vs.toArray).size ≤ PySem.sizeLine + 1; simp only [Array.size_append, List.size_toArray, List.length_nil]; omega)); refine wpAny_pure ?_
  show wpAny (model prog w) A (do
      let o ← load s.heap.objs.size
      match o.data with
      | .seq xs _ => pure xs.toList
      | _ => unsupported "internal:collect") Q E { s with heap := (s.heap.push (seqObj "list" #[] 0)).update s.heap.objs.size (Obj.mapSeq (· ++ vs.toArray)) }
  refine wpAny_bind (wpAny_load (get?_update_seq (Heap.get?_push_size _ rfl) _) ?_); show wpAny _ _ (pure ((#[] : Array Value) ++ vs.toArray).toList) Q E _
  rw [show ((#[] : Array Value) ++ vs.toArray).toList = vs by simp]; exact wpAny_pure h
theorem sorted_tup_vals {l : Addr} {Q : Value → Shared → Prop} (hl : s.heap.IsTuple l vs.toArray) (S : SortsAt prog w A.in1.in1 { s with heap := sortingHeap (copyHeap s.heap vs) (s.heap.objs.size + 1) vs } κ vs) (hL : vs.length ≤ PySem.sizeLine)
    (h : Q (.ref (s.heap.objs.size + 1)) { s with heap := PyProof.Rows.sortedAll s.heap vs (sortVals κ false vs vs).toArray }) : wpAny (model prog w) A (call (.builtin "sorted") [.ref l]) Q E s := by
  refine call_function_entry_kw kind_sorted plain_sorted entry_sorted (args_sorted1 _) ?_; unfold Builtin.«sorted»
  refine wpAny_bind (m := checkCount "sorted" 1 1 _) (wpAny_pure ?_); refine wpAny_bind (collect_tup hl ?_ hL); refine wpAny_bind (wpAny_newList ?_ hL)
  have hsz : ((s.heap.push (seqObj "list" #[] 0)).update s.heap.objs.size (Obj.mapSeq (· ++ vs.toArray))).objs.size = s.heap.objs.size + 1 := by rw [Heap.size_update, size_push']
  show wpAny _ _ _ _ _ { s with heap := copyHeap s.heap vs }; rw [hsz]
  refine wpAny_bind (wpAny_holding (wpAny_call_entry_kw slot_list_sort ⟨_, copyHeap_at s.heap vs, rfl⟩ entry_list_sort ?body (args_list_sort _)))
  case body =>
    show wpAny (model prog w) A.in1.in1 (Builtin.«list.sort» ⟨[.ref (s.heap.objs.size + 1)], []⟩) _ _ _; refine list_sort_vals (s := { s with heap := copyHeap s.heap vs }) (copyHeap_at s.heap vs) S hL ?_
    exact ⟨_, rfl, wpAny_pure ⟨_, rfl, h⟩⟩
theorem sorted_tup_data {l : Addr} {Q : Value → Shared → Prop} (hl : s.heap.IsTuple l vs.toArray) (e : EachIs R vs bs) (er : EachIs (fun v b => ∃ as, Reads s.heap v (enc b) as) vs bs) (hal : AllAlike (bs.map enc)) (hk : Sortable (bs.map enc)) (hL : bs.length ≤ PySem.sizeLine)
    (hu : ∀ b, b ∈ bs → A.units + 2 + (enc b).depth < cLine) (h : ∀ out, out.length = bs.length → EachIs R out (bs.mergeSort (dataLe false enc)) → Q (.ref (s.heap.objs.size + 1)) { s with heap := PyProof.Rows.sortedAll s.heap vs (List.toArray out) }) :
    wpAny (model prog w) A (call (.builtin "sorted") [.ref l]) Q E s := by
  have er' : EachIs (fun v b => ∃ as, Reads (sortingHeap (copyHeap s.heap vs) (s.heap.objs.size + 1) vs) v (enc b) as) vs bs := er.mono fun _ _ ⟨as, r⟩ => ⟨as, PyProof.Rows.Reads.keeps (fun _ _ => sorting_copy_old) r⟩
  refine sorted_tup_vals hl (SortsAt.data (s := { s with heap := sortingHeap (copyHeap s.heap vs) (s.heap.objs.size + 1) vs }) (each_map (R := fun v d => ∃ as, Reads (sortingHeap (copyHeap s.heap vs) (s.heap.objs.size + 1) vs) v d as) enc er') hal hk (bound_map hu)) (by rw [e.length]; exact hL) ?_
  exact h _ (by rw [sortVals_length false rfl]; exact e.length) (sortVals_data false e er' hal)
end
end Y
set_option Elab.async false
set_option linter.all false
set_option maxRecDepth 100000
set_option maxHeartbeats 4000000
namespace Y
open PySem PySem.Spec PyProof.Rows
open L2 (V Hp upd upd_same upd_ne ne_of ne_of_none RelV Vals SqL SqT Rd Cx Inv PE PT PW PS PSs PA PG PI TE TT TS TA TG TI VK XK Ends EP)
section
variable {L : Lk} {C : Ctx} {n : Nat} {W : XK} {X : Cx} {H : Hp} {r : List Addr} {h : Heap} {env : Env} {σ : Sg} {Q : VK}
def JJ (l : List D) (ks : List L2.Key) : Prop := Paired (fun d k => keyJ d = some k) l ks
theorem JJ.any {l : List D} {ks : List L2.Key} (h : JJ l ks) {d : D} {k : L2.Key} (e : keyJ d = some k) : (l.any fun a => eqB a d) = ks.any fun a => decide (a = k) := by
  induction h with
  | nil => rfl
  | @cons a j l ks ha _ ih =>
    rw [List.any_cons, List.any_cons, ih, key_eq ha e]
    congr 1
    exact decide_eq_decide.mpr eq_comm
theorem JJ.app {l : List D} {ks : List L2.Key} (h : JJ l ks) {d : D} {k : L2.Key} (e : keyJ d = some k) : JJ (l ++ [d]) (ks ++ [k]) := by
  induction h with
  | nil => exact .cons e .nil
  | cons ha _ ih => exact .cons ha ih
theorem JJ.add {l : List D} {ks : List L2.Key} (h : JJ l ks) {d : D} {k : L2.Key} (e : keyJ d = some k) : JJ (addD l d) (addK ks k) := by
  unfold addD addK
  rw [h.any e]
  split
  · exact h
  · exact h.app e
theorem JJ.fold {ds : List D} {js : List L2.Key} (g : JJ ds js) : ∀ {l : List D} {ks : List L2.Key}, JJ l ks → JJ (ds.foldl addD l) (js.foldl addK ks) := by
  induction g with
  | nil => intro l ks h; exact h
  | cons e _ ih => intro l ks h; exact ih (h.add e)
theorem JJ.of : ∀ (ds : List D), ds.all D.keyK = true → ∃ js, JJ ds js
  | [], _ => ⟨[], .nil⟩
  | d :: ds, h => by
    rw [List.all_cons, Bool.and_eq_true] at h
    obtain ⟨j, e⟩ := keyJ_of h.1
    obtain ⟨js, g⟩ := JJ.of ds h.2
    exact ⟨j :: js, .cons e g⟩
theorem JJ.is {P : Program} {w : World} : ∀ {ds : List D} {js : List L2.Key} {xs : List V} {us : List Value}, JJ ds js → RelDs L X.K H r ds xs → Vals xs us → ∀ (i : Nat) (v : Value), us[i]? = some v → ∃ k, js[i]? = some k ∧ (L2.mixKind P w).is k v = true
  | [], _, _, _, .nil, g, rv, i, v, e => by
    cases rels0 g
    cases rv
    simp at e
  | d :: ds, _, _, _, .cons (b := k) ek g0, g, rv, i, v, e => by
    unfold RelDs at g
    obtain ⟨x, ys, rfl, g1, g2⟩ := g
    cases rv with
    | cons r1 r2 =>
    cases i with
    | zero =>
      simp at e
      subst e
      refine ⟨k, rfl, ?_⟩
      rw [keyV g1 ek] at r1
      cases k with
      | inl i => obtain ⟨t, rfl⟩ := r1; exact decide_eq_true rfl
      | inr z => obtain ⟨t, rfl⟩ := r1; exact decide_eq_true rfl
    | succ i => simpa using JJ.is g0 g2 r2 i v (by simpa using e)
theorem JJ.len {l : List D} {ks : List L2.Key} (h : JJ l ks) : l.length = ks.length := Paired.length h
theorem lensetY (g : Good L C n W X) {a : Expr} {m : MV} {p p2 q pos : Pos} (h1 : glB X.env.scope "len" = true) (h2 : glB X.env.scope "set" = true) (ha : PE X a (rd L X.K W m)) (na : starEach [a] X.env = (false, eval a X.env) :: starEach [] X.env) :
    PE X (.Call (.Name "len" p) [.Call (.Name "set" p2) [a] [] q] [] pos) (rd L X.K W (cUn lensetF m)) := by
  obtain ⟨a1, a2, a3⟩ := gl_of h1
  obtain ⟨b1, b2, b3⟩ := gl_of h2
  refine ⟨fun pins s σ H Q I ⟨env, h, r, s0, p0⟩ => ?_⟩
  refine wpAny_Call_Name_kw (L2.ld_blt I a1 (g.link.bG _ (by decide +kernel)) (show bootBuiltins ("len" : Str) = some (.builtin "len") by decide +kernel) ?_ a3 a2)
  refine PyProof.Rows.callWith_builtin1 (PyProof.Rows.args_cons ?_ rfl) rfl rfl
  refine wpAny_Call_Name_kw (L2.ld_blt I b1 (g.link.bG _ (by decide +kernel)) (show bootBuiltins ("set" : Str) = some (.type "set") by decide +kernel) ?_ b3 b2)
  refine PyProof.Rows.callWith_type1 (PyProof.Rows.args_cons (L2.thn (ha.run pins s σ H _ I ⟨env, h, r, s0, Post.bind (R := RV L X.K) p0⟩) fun v s1 ⟨x, H1, I1, r1, dx, h1', r1', a1', p1⟩ => PyProof.Rows.args_nil ?_) na) na rfl
  unfold lensetF at p1
  cases ei : items? h1' dx with
  | none => rw [ei] at p1; exact p1.elim
  | some ds =>
  rw [ei] at p1
  dsimp only at p1
  split at p1
  · rename_i hk
    rw [Bool.and_eq_true, decide_eq_true_eq] at hk
    obtain ⟨js, J⟩ := JJ.of ds hk.1
    obtain ⟨l, us, rfl, sq, gs⟩ := bi_seq a1'.s a1'.rel ei
    obtain rfl : v = Value.ref l := r1
    have fin : ∀ (its : Array Value), Vals us its.toList → ∀ (h' : PySem.Heap) (tk : Nat), setKO h' X.prog X.w s1.heap.objs.size (metK js) → (∀ b o, s1.heap.get? b = some o → h'.get? b = some o) →
        wpAny (model X.prog X.w) X.A (spliced (backTo pos (starEach [] X.env))) (fun vs s₂ => wpAny (model X.prog X.w) X.A (call (.builtin "len") (Value.ref s1.heap.objs.size :: vs)) (EP X pins σ Q) X.xe s₂) X.xe { s1 with heap := h', toks := tk } := fun its rv h' tk hS hk' => by
      refine PyProof.Rows.args_nil ?_
      obtain ⟨o, es, ep, t, ho, hex, hd, _, _, _, hf, hn⟩ := hS
      have I2 : Inv X pins σ H1 { s1 with heap := h', toks := tk } := I1.kept hk'
      have hl : (metK js).length = (ds.foldl addD []).length := ((J.fold .nil).len).symm
      refine call_len_set ho hex hd hf ?_ ⟨.int (ds.foldl addD []).length, H1, I2.tok _, ⟨_, by rw [hn, hl]⟩, p1.here a1'.s mk_int⟩
      have := foldK_len js []
      unfold metK at hn
      rw [← J.len] at this
      simp only [List.length_nil] at this
      rw [hn]; omega
    have len : ∀ {its : List Value}, Vals us its → js.length = its.toArray.size := fun {its} rv => by rw [List.size_toArray, ← rv.length, ← gs.length, J.len]
    rcases sq with sq | sq
    · obtain ⟨its, rv, pl, hz⟩ := I1.list sq
      exact call_set_lst js (I1.ok.hd g.calm) pl.isList (len rv) (fun i v e => JJ.is J gs rv i v (by simpa using e)) (by rw [← len rv, ← J.len]; unfold scanBound; omega) fun h' tk hS hk' => fin its.toArray (by simpa using rv) h' tk hS hk'
    · obtain ⟨its, rv, pl, hz⟩ := I1.tuple sq
      exact call_set_tup js (I1.ok.hd g.calm) pl (len rv) (fun i v e => JJ.is J gs rv i v (by simpa using e)) (by rw [← len rv, ← J.len]; unfold scanBound; omega) fun h' tk hS hk' => fin its.toArray (by simpa using rv) h' tk hS hk'
  · exact p1.elim
end
end Y
set_option Elab.async false
set_option linter.all false
set_option maxRecDepth 100000
set_option maxHeartbeats 4000000
namespace Y
open PySem PySem.Spec PyProof.Rows
section
variable {prog : Program} {w : World} {A : Around} {E : Value → Shared → Prop} {s : Shared}
set_option maxHeartbeats 6400000 in
theorem call_setI_lst {l : Addr} {its : Array Value} (ns : List Int) {Q : Value → Shared → Prop} (hh : A.handled = none) (hl : s.heap.IsList l its) (hn : its.size = ns.length) (hv : ∀ (i : Nat) (v : Value), its[i]? = some v → ∃ k t, ns[i]? = some k ∧ v = .int k t) (hb : ns.length + 1 < scanBound)
    (h : ∀ (h' : PySem.Heap) (tk c : Nat), L2.SetR w h' s.heap.objs.size (fun j => decide (j ∈ ns)) c → c ≤ its.size → (∀ b o, s.heap.get? b = some o → h'.get? b = some o) → Q (.ref s.heap.objs.size) { s with heap := h', toks := tk }) : wpAny (model prog w) A (call (.type "set") [.ref l]) Q E s := by
  obtain ⟨led, hled⟩ : ∃ b, b = (!w.params.followText "set-order") := ⟨_, rfl⟩
  have hmade := F.called_set.made; have hsub := F.called_set.sub
  obtain ⟨c, tl, hmro⟩ := F.called_set.mro
  refine wpAny_call (codeAny_of_tree ?_)
  show wpAny _ _ (callAny (.type "set") _) _ _ _
  refine wpAny_pure ⟨Code.quiet_builtin _ (by decide +kernel), codeAny_builtin F.entry_type_call ?_⟩
  rw [Around.under_plain (weight_type_call_type "set" [.ref l] []) rfl]
  have h1 := F.called_set.notType; have h2 := F.called_set.canCreate; have hct := F.typeCall_set_1 (.ref l)
  repeat (any_goals (first | assumption | wp_step))
  refine codeAny_mono (L2.code_set_led1 (.ref l) (E := E) (Q₁ := fun obj s₁ => obj = .ref s.heap.objs.size ∧ s₁ = { s with heap := s.heap.push (setN led) }) (by rw [hled]; exact ⟨rfl, rfl⟩)) fun r s₁ hr => ?_
  rcases r with e | fl
  · exact hr
  rcases fl with _ | _ | _ | obj <;> first | exact hr.elim | skip
  obtain ⟨rfl, rfl⟩ := hr
  have hS : (s.heap.push (setN led)).get? s.heap.objs.size = some (setN led) := Heap.get?_push_size _ rfl
  have hT : Shared.TypeIs { s with heap := s.heap.push (setN led) } (.ref s.heap.objs.size) "set" := ⟨_, hS, rfl⟩
  have hli := F.called_set.init.lookup; have hbi := F.called_set.init.bind (.ref s.heap.objs.size)
  repeat (any_goals (first | assumption | wp_step))
  refine codeAny_mono (codeAny_call_builtin (R := wants (fun r s₂ => r = .none ∧ ∃ h' tk c, s₂ = { s with heap := h', toks := tk } ∧ L2.SetR w h' s.heap.objs.size (fun j => decide (j ∈ ns)) c ∧ c ≤ its.size ∧ (∀ b o, s.heap.get? b = some o → h'.get? b = some o)) E) F.called_set.init.plain F.entry_set_init (check_set_init_1 hT ?_)) fun r₂ s₂ hr₂ => ?_
  · have hlS : l < s.heap.objs.size := by obtain ⟨_, e, _⟩ := hl; exact Heap.lt_size e
    obtain ⟨ol, hol, hcl, nl, hdl⟩ := hl
    obtain ⟨ocls, odict, odata, oslots⟩ := ol
    simp only at hcl hdl
    subst hcl hdl
    have hol' : (s.heap.push (setN led)).get? l = some { cls := .type "list", dict := odict, data := .seq its nl, slots := oslots } := Heap.get?_push_of_some _ hol
    have hsls := F.sub_list_set; have hslf := F.sub_list_frozenset; have hne : (Value.type "list" == Value.type "dict") = false := by decide
    have hl1 : (s.heap.push (setN led)).IsList l its := ⟨_, hol', rfl, nl, rfl⟩
    unfold Builtin.«set.__init__» noKeywords Builtin.Frozenset.updateFrom
    generalize hPI : pyIter = PI
    wp_walk
    subst hPI
    refine wpAny_pyIter_list hl1 ?_
    refine wpAny_bind (wpAny_runValue ?_)
    have hh3 : A.in1.in1.in1.handled = none := by simp [hh]
    have hz : (s.heap.push (setN led)).objs.size = s.heap.objs.size + 1 := Heap.size_push ..
    have hneI : l ≠ (s.heap.push (setN led)).objs.size := by rw [hz]; exact Nat.ne_of_lt (Nat.lt_succ_of_lt hlS)
    have hSf : s.heap.objs.size ∉ [(s.heap.push (setN led)).objs.size, l] := by
      rw [hz]; simp only [List.mem_cons, List.not_mem_nil, or_false, not_or]
      exact ⟨Nat.ne_of_lt (Nat.lt_succ_self _), Nat.ne_of_gt hlS⟩
    refine L2.set_update_ints ((Walks.list hh3 _ l hneI its).toS) s.heap.objs.size hSf ns hn hb hv (its.size - 0) 0 _ (by omega) (Nat.zero_le _) ⟨⟨_, Heap.get?_push_size _ rfl, rfl, rfl⟩, (hl1.push _)⟩ ⟨0, Nat.le_refl _, L2.setR_new_at (Heap.get?_push_of_some _ (by rw [← hled]; exact hS))⟩ ?hR
    case hR =>
      intro s' c hm hc hS'
      obtain ⟨h', g', d', tk', os'⟩ := s'
      obtain rfl : g' = s.gens := hm.gens
      obtain rfl : d' = s.drawn := hm.drawn
      obtain rfl : os' = s.os := hm.os
      show wpAny _ _ _ _ _ _
      refine wpAny_pure ?_
      show wpAny _ _ (ret Value.none) _ _ _
      refine wpAny_pure ⟨rfl, h', tk', c, rfl, hS', hc, fun b o e => hm.heap b o ?_ (Heap.get?_push_of_some _ (Heap.get?_push_of_some _ e))⟩
      have hbS : b < s.heap.objs.size := Heap.lt_size e
      simp only [List.mem_cons, List.not_mem_nil, or_false, not_or]
      exact ⟨Nat.ne_of_lt hbS, by rw [hz]; exact Nat.ne_of_lt (Nat.lt_succ_of_lt hbS)⟩
  · rcases r₂ with e | fl₂
    · exact hr₂
    rcases fl₂ with _ | _ | _ | r <;> first | exact hr₂.elim | skip
    obtain ⟨rfl, h', tk, c, rfl, hS', hc, hk'⟩ := hr₂
    repeat (any_goals (first | assumption | wp_step))
    exact h _ _ c hS' hc hk'
end
open L2 (V Hp upd upd_same upd_ne ne_of ne_of_none RelV Vals SqL SqT Rd Cx Inv PE PT PW PS PSs PA PG PI TE TT TS TA TG TI VK XK Ends EP)
theorem insI_mem (x : Int) : ∀ (l : List Int) (z : Int), z ∈ insI x l ↔ z = x ∨ z ∈ l
  | [], z => by unfold insI; simp
  | y :: ys, z => by
    unfold insI
    split
    · simp
    · split
      · rename_i h1 h2
        subst h2
        simp
      · rw [List.mem_cons, insI_mem x ys z, List.mem_cons]
        exact ⟨fun h => by rcases h with h | h | h <;> simp [h], fun h => by rcases h with h | h | h <;> simp [h]⟩
theorem insI_ris (x : Int) : ∀ l : List Int, l.Pairwise (· < ·) → (insI x l).Pairwise (· < ·)
  | [], _ => by unfold insI; simp
  | y :: ys, h => by
    obtain ⟨h1, h2⟩ := List.pairwise_cons.mp h
    unfold insI
    split
    · rename_i hx
      refine List.pairwise_cons.mpr ⟨fun z hz => ?_, h⟩
      rcases List.mem_cons.mp hz with rfl | hz
      · exact hx
      · have := h1 z hz; omega
    · split
      · exact h
      · rename_i hx hne
        refine List.pairwise_cons.mpr ⟨fun z hz => ?_, insI_ris x ys h2⟩
        rcases (insI_mem x ys z).mp hz with rfl | hz
        · omega
        · exact h1 z hz
theorem srtI_ok : ∀ (is acc : List Int), acc.Pairwise (· < ·) → (is.foldl (fun a x => insI x a) acc).Pairwise (· < ·) ∧ ∀ z, z ∈ is.foldl (fun a x => insI x a) acc ↔ z ∈ acc ∨ z ∈ is
  | [], acc, h => ⟨h, fun z => by simp⟩
  | x :: is, acc, h => by
    obtain ⟨h1, h2⟩ := srtI_ok is (insI x acc) (insI_ris x acc h)
    refine ⟨h1, fun z => ?_⟩
    rw [List.foldl_cons, h2 z, insI_mem]
    simp only [List.mem_cons]
    exact ⟨fun h => by rcases h with (h | h) | h <;> simp [h], fun h => by rcases h with h | h | h <;> simp [h]⟩
theorem ris_eq : ∀ {a b : List Int}, a.Pairwise (· < ·) → b.Pairwise (· < ·) → (∀ z, z ∈ a ↔ z ∈ b) → a = b
  | [], [], _, _, _ => rfl
  | [], y :: ys, _, _, h => absurd ((h y).mpr List.mem_cons_self) (by simp)
  | x :: xs, [], _, _, h => absurd ((h x).mp List.mem_cons_self) (by simp)
  | x :: xs, y :: ys, ha, hb, h => by
    obtain ⟨a1, a2⟩ := List.pairwise_cons.mp ha
    obtain ⟨b1, b2⟩ := List.pairwise_cons.mp hb
    have hxy : x = y := by
      rcases List.mem_cons.mp ((h x).mp List.mem_cons_self) with e | e
      · exact e
      · rcases List.mem_cons.mp ((h y).mpr List.mem_cons_self) with e2 | e2
        · exact e2.symm
        · have := b1 x e; have := a1 y e2; omega
    subst hxy
    rw [ris_eq a2 b2 fun z => ?_]
    constructor
    · intro hz
      rcases List.mem_cons.mp ((h z).mp (List.mem_cons_of_mem _ hz)) with e | e
      · have := a1 z hz; omega
      · exact e
    · intro hz
      rcases List.mem_cons.mp ((h z).mpr (List.mem_cons_of_mem _ hz)) with e | e
      · have := b1 z hz; omega
      · exact e
theorem ints?_map : ∀ {ds : List D} {is : List Int}, ints? ds = some is → ds = is.map .int
  | [], is, h => by cases h; rfl
  | d :: ds, is, h => by
    unfold ints? at h
    cases d <;> first | (cases h; done) | skip
    dsimp only at h
    cases e : ints? ds with
    | none => rw [e] at h; cases h
    | some r => rw [e] at h; cases h; rw [ints?_map e]; rfl
section
variable {L : Lk} {C : Ctx} {n : Nat} {W : XK} {X : Cx} {H : Hp} {r : List Addr} {h : Heap} {env : Env} {σ : Sg} {Q : VK}
theorem relInts : ∀ {is : List Int} {us : List V}, RelDs L X.K H r (is.map D.int) us → us = is.map V.int
  | [], us, g => rels0 g
  | i :: is, us, g => by
    rw [List.map_cons] at g
    obtain ⟨v, ys, rfl, g1, g2⟩ := rels1 g
    have : v = .int i := by unfold RelD at g1; exact g1
    rw [this, relInts g2]
    rfl
theorem intsRel : ∀ {is : List Int} {H : Hp}, RelDs L X.K H r (is.map D.int) (is.map V.int)
  | [], _ => .nil
  | i :: is, _ => .cons mk_int intsRel
theorem vals_get : ∀ {is : List Int} {its : List Value}, Vals (is.map V.int) its → ∀ (i : Nat) (v : Value), its[i]? = some v → ∃ k t, is[i]? = some k ∧ v = .int k t
  | [], its, rv, i, v, e => by
    cases rv
    simp at e
  | k :: is, its, rv, i, v, e => by
    rw [List.map_cons] at rv
    cases rv with
    | cons r0 r1 =>
      cases i with
      | zero =>
        simp at e
        subst e
        obtain ⟨t, rfl⟩ := r0
        exact ⟨k, t, rfl, rfl⟩
      | succ i => simpa using vals_get r1 i v (by simpa using e)
theorem srtsY (g : Good L C n W X) {a : Expr} {m : MV} {p p2 q pos : Pos} (h1 : glB X.env.scope "sorted" = true) (h2 : glB X.env.scope "set" = true) (ha : PE X a (rd L X.K W m)) (na : starEach [a] X.env = (false, eval a X.env) :: starEach [] X.env) :
    PE X (.Call (.Name "sorted" p) [.Call (.Name "set" p2) [a] [] q] [] pos) (rd L X.K W (cUn srtsetF m)) := by
  obtain ⟨a1, a2, a3⟩ := gl_of h1
  obtain ⟨b1, b2, b3⟩ := gl_of h2
  refine ⟨fun pins s σ H Q I ⟨env, h, r, s0, p0⟩ => ?_⟩
  refine wpAny_Call_Name_kw (L2.ld_blt I a1 (g.link.bG _ (by decide +kernel)) (show bootBuiltins ("sorted" : Str) = some (.builtin "sorted") by decide +kernel) ?_ a3 a2)
  refine PyProof.Rows.callWith_builtin1 (PyProof.Rows.args_cons ?_ rfl) rfl rfl
  refine wpAny_Call_Name_kw (L2.ld_blt I b1 (g.link.bG _ (by decide +kernel)) (show bootBuiltins ("set" : Str) = some (.type "set") by decide +kernel) ?_ b3 b2)
  refine PyProof.Rows.callWith_type1 (PyProof.Rows.args_cons (L2.thn (ha.run pins s σ H _ I ⟨env, h, r, s0, Post.bind (R := RV L X.K) p0⟩) fun v s1 ⟨x, H1, I1, r1, dx, h1', r1', a1', p1⟩ => PyProof.Rows.args_nil ?_) na) na rfl
  unfold srtsetF at p1
  cases el : list? h1' dx with
  | none => rw [el] at p1; exact p1.elim
  | some ds =>
  rw [el] at p1
  dsimp only at p1
  cases ei : ints? ds with
  | none => rw [ei] at p1; exact p1.elim
  | some is =>
  rw [ei] at p1
  dsimp only at p1
  split at p1
  · rename_i hlen
    obtain ⟨l, us, rfl, sq, _, gs⟩ := bi_lst a1'.s a1'.rel el
    obtain rfl := ints?_map ei
    obtain rfl := relInts gs
    obtain rfl : v = Value.ref l := r1
    obtain ⟨its, rv, pl, hz⟩ := I1.list sq
    have hsz : its.toArray.size = is.length := by rw [List.size_toArray, ← rv.length, List.length_map]
    refine call_setI_lst is (I1.ok.hd g.calm) pl.isList hsz (fun i v e => vals_get rv i v (by simpa using e)) (by unfold scanBound; omega) fun h' tk c hS hc hk' => ?_
    have hn0 : H1 s1.heap.objs.size = none := I1.hok.fresh (Nat.le_refl _)
    have I3 : Inv X pins σ (upd H1 s1.heap.objs.size (L2.SetO X.w s1.heap.objs.size (fun j => decide (j ∈ is)) c)) { s1 with heap := h', toks := tk } := I1.laid (t' := tk) hk' (Nat.le_refl _) (L2.setO_new hS)
    have p3 := p1.later (List.prefix_refl r1') (Keep.new (o := L2.SetO X.w s1.heap.objs.size (fun j => decide (j ∈ is)) c) hn0)
    have s3 : SR L X.K env h1' r1' σ (upd H1 s1.heap.objs.size (L2.SetO X.w s1.heap.objs.size (fun j => decide (j ∈ is)) c)) := a1'.s.new hn0
    obtain ⟨hl, q'⟩ := Post.lst (X := X) p3 s3 intsRel
    refine PyProof.Rows.args_nil ?_
    obtain ⟨o1, o2⟩ := srtI_ok is [] List.Pairwise.nil
    exact L2.cr_sortedSet g.calm pins _ σ _ [V.ref s1.heap.objs.size] [Value.ref s1.heap.objs.size] Q I3 (.cons rfl .nil) ⟨_, _, c, rfl, upd_same, by omega, fun ns p hs hm _ hp => by
      have e : ns = is.foldl (fun a x => insI x a) [] := ris_eq hs o1 fun z => by rw [hm z, o2 z]; simp
      rw [e]
      exact q' p hp⟩
  · exact p1.elim
end
end Y
set_option Elab.async false
set_option linter.all false
set_option maxRecDepth 100000
set_option maxHeartbeats 4000000
namespace Y
open PySem PySem.Spec PyProof.Rows
open L2 (V Hp upd upd_same upd_ne ne_of ne_of_none RelV Vals SqL SqT Rd Cx Inv PE PT PW PS PSs PA PG PI TE TT TS TA TG TI VK XK Ends EP)
theorem insS_perm (x : List Nat) : ∀ ys : List (List Nat), (insS x ys).Perm (x :: ys)
  | [] => .refl _
  | y :: ys => by
    unfold insS
    split
    · exact ((insS_perm x ys).cons y).trans (.swap x y ys)
    · exact .refl _
theorem sortS_perm : ∀ xs : List (List Nat), (sortS xs).Perm xs
  | [] => .refl _
  | x :: xs => (insS_perm x (sortS xs)).trans ((sortS_perm xs).cons x)
theorem le_of_ltL {a b : List Nat} (h : ltL b a = false) : a ≤ b := by
  rw [ltL_iff, decide_eq_false_iff_not] at h
  exact List.not_lt.mp h
theorem insS_sorted (x : List Nat) : ∀ {ys : List (List Nat)}, ys.Pairwise (· ≤ ·) → (insS x ys).Pairwise (· ≤ ·)
  | [], _ => by unfold insS; exact List.pairwise_singleton _ _
  | y :: ys, h => by
    obtain ⟨h1, h2⟩ := List.pairwise_cons.mp h
    unfold insS
    split
    · rename_i hlt
      refine List.pairwise_cons.mpr ⟨fun z hz => ?_, insS_sorted x h2⟩
      rcases List.mem_cons.mp ((insS_perm x ys).mem_iff.mp hz) with rfl | hz
      · rw [ltL_iff, decide_eq_true_eq] at hlt
        exact List.le_of_lt hlt
      · exact h1 z hz
    · rename_i hlt
      have hxy : x ≤ y := le_of_ltL (by simpa using hlt)
      refine List.pairwise_cons.mpr ⟨fun z hz => ?_, h⟩
      rcases List.mem_cons.mp hz with rfl | hz
      · exact hxy
      · exact List.le_trans hxy (h1 z hz)
theorem sortS_sorted : ∀ xs : List (List Nat), (sortS xs).Pairwise (· ≤ ·)
  | [] => List.Pairwise.nil
  | x :: xs => insS_sorted x (sortS_sorted xs)
theorem rising_pw : ∀ (l : List Str) (p : Str), risingS p l = true → (∀ x ∈ l, p.cps.toList ≤ x.cps.toList) ∧ (l.map (·.cps.toList)).Pairwise (· ≤ ·)
  | [], p, _ => ⟨fun x h => (by cases h), List.Pairwise.nil⟩
  | x :: r, p, h => by
    unfold risingS at h
    obtain ⟨h1, h2⟩ := Bool.and_eq_true_iff.mp h
    obtain ⟨a, b⟩ := rising_pw r x h2
    have hpx : p.cps.toList ≤ x.cps.toList := by
      rw [ltCps_eq] at h1
      simp only [Bool.not_eq_true', decide_eq_false_iff_not] at h1
      exact List.not_lt.mp h1
    refine ⟨fun y hy => ?_, ?_⟩
    · rcases List.mem_cons.mp hy with rfl | hy
      · exact hpx
      · exact List.le_trans hpx (a y hy)
    · rw [List.map_cons]
      refine List.pairwise_cons.mpr ⟨fun z hz => ?_, b⟩
      obtain ⟨y, hy, rfl⟩ := List.mem_map.mp hz
      exact a y hy
theorem sortedS_pw {l : List Str} (h : sortedS l = true) : (l.map (·.cps.toList)).Pairwise (· ≤ ·) := by
  cases l with
  | nil => exact List.Pairwise.nil
  | cons x r =>
    obtain ⟨a, b⟩ := rising_pw r x h
    rw [List.map_cons]
    refine List.pairwise_cons.mpr ⟨fun z hz => ?_, b⟩
    obtain ⟨y, hy, rfl⟩ := List.mem_map.mp hz
    exact a y hy
theorem toS_tl (y : Str) : toS y.cps.toList = y := by unfold toS; simp
theorem sorted_eq {ys : List Str} {ss : List (List Nat)} (hp : ys.Perm (ss.map toS)) (hs : sortedS ys = true) : ys = (sortS ss).map toS := by
  have h1 : (ys.map (·.cps.toList)).Perm ss := by
    have := hp.map (·.cps.toList)
    rw [List.map_map] at this
    have e : ((fun x : Str => x.cps.toList) ∘ toS) = id := funext fun a => rfl
    rw [e, List.map_id] at this
    exact this
  have h2 : ys.map (·.cps.toList) = sortS ss := List.Perm.eq_of_pairwise (le := (· ≤ ·)) (fun a b _ _ x y => List.le_antisymm x y) (sortedS_pw hs) (sortS_sorted ss) (h1.trans (sortS_perm ss).symm)
  rw [← h2, List.map_map]
  have e : (toS ∘ fun x : Str => x.cps.toList) = id := funext fun a => toS_tl a
  rw [e, List.map_id]
section
variable {L : Lk} {C : Ctx} {n : Nat} {W : XK} {X : Cx} {H : Hp} {r : List Addr} {h : Heap} {env : Env} {σ : Sg} {Q : VK} {x y v : V} {dx dy d : D} {ds : List D} {xs : List V} {pos : Pos}
theorem strs_rels {ss : List (List Nat)} (ho : ∀ s ∈ ss, okS s) : RelDs L X.K H r (ss.map .str) ((ss.map toS).map V.str) := by
  induction ss with
  | nil => exact .nil
  | cons s ss ih => exact .cons (mk_str (ho s List.mem_cons_self)) (ih fun z hz => ho z (List.mem_cons_of_mem _ hz))
theorem relK_keys {K : PySem.W.Frag} : ∀ {kvs : List (D × D)} {ks : List (L2.Key × V)} {ss : List (List Nat)}, RelK (L := L) (K := K) H r kvs ks → strs? (kvs.map (·.1)) = some ss → ks.map (·.1) = (ss.map toS).map Sum.inr
  | [], ks, ss, g, e => by unfold RelK at g; subst g; cases e; rfl
  | (k, d) :: kvs, ks, ss, g, e => by
    obtain ⟨j, v, t, rfl, hj, _, g'⟩ := relK_cons g
    rw [List.map_cons] at e
    unfold strs? at e
    cases k <;> first | (cases e; done) | skip
    rename_i z
    dsimp only at e
    cases er : strs? (kvs.map (·.1)) with
    | none => rw [er] at e; cases e
    | some q =>
      rw [er] at e
      cases e
      unfold keyJ at hj
      cases hj
      rw [List.map_cons, relK_keys g' er]
      rfl
/-- sorted(d) -/
theorem b_sortedD (hc : X.calm = true) (s : SR L X.K env h r σ H) (g1 : RelD L X.K H r d v) (p : Post L X.K (RV L X.K) W env σ r H Q (match keysS? h d with | some ss => mkLst ((sortS ss).map .str) h | none => .err)) : wCall X (.builtin "sorted") [v] H Q := by
  unfold keysS? at p
  cases d <;> first | exact p.elim | skip
  rename_i a
  unfold Heap.at at p
  dsimp only at p
  cases ea : h[a]? with
  | none => rw [ea] at p; exact p.elim
  | some o =>
  rw [ea] at p
  cases o <;> first | exact p.elim | skip
  rename_i kvs
  dsimp only at p
  cases ek : strs? (kvs.map (·.1)) with
  | none => rw [ek] at p; exact p.elim
  | some ss =>
  rw [ek] at p
  dsimp only at p
  split at p
  · rename_i ss' es
    split at es
    · rename_i hok
      cases es
      obtain ⟨q, ks, rfl, ep, hp, gk⟩ := rel_dic s g1 ea
      have hall : ∀ z ∈ ss, okS z := fun z hz => by
        simp only [Bool.and_eq_true, decide_eq_true_eq, List.all_eq_true] at hok
        have := hok.2 z hz
        exact ⟨by rw [szl]; omega, this.2⟩
      have hlen : ss.length < 64 := by
        simp only [Bool.and_eq_true, decide_eq_true_eq, List.all_eq_true] at hok
        exact hok.1
      obtain ⟨_, q'⟩ := p.lst s (strs_rels (ss := sortS ss) fun z hz => hall z ((sortS_perm ss).mem_iff.mp hz))
      refine wCall.of (L2.call_sortedD hc) ⟨q, ks, ss.map toS, rfl, .inl hp, relK_keys gk ek, by rw [List.length_map]; exact hlen, fun ys p' hperm hsort hn => ?_⟩
      rw [sorted_eq hperm hsort]
      exact q' p' hn
    · cases es
  · exact p.elim
end
end Y
set_option Elab.async false
set_option linter.all false
set_option maxRecDepth 100000
set_option maxHeartbeats 4000000
namespace Y
open PySem PySem.Spec PyProof.Rows
open L2 (V Hp upd upd_same upd_ne ne_of ne_of_none RelV Vals SqL SqT Rd Cx Inv PE PT PW PS PSs PA PG PI TE TT TS TA TG TI VK XK Ends EP)
mutual
theorem alk_of : ∀ a b : D, alk a b = true → PySem.W.alike (toP a) (toP b) = true
  | .non, b, h => by cases b <;> first | rfl | (unfold alk at h; cases h)
  | .bl _, b, h => by cases b <;> first | rfl | (unfold alk at h; cases h)
  | .int _, b, h => by cases b <;> first | rfl | (unfold alk at h; cases h)
  | .str _, b, h => by cases b <;> first | rfl | (unfold alk at h; cases h)
  | .tup as, b, h => by
    cases b <;> first | (unfold alk at h; cases h; done) | skip
    unfold alk at h
    unfold toP PySem.W.alike
    exact alks_of _ _ h
  | .ref _, b, h => by unfold alk at h; cases h
  | .fn _, b, h => by unfold alk at h; cases h
  | .clo _ _, b, h => by unfold alk at h; cases h
  | .frz _, b, h => by unfold alk at h; cases h
theorem alks_of : ∀ as bs : List D, alks as bs = true → PySem.W.alikeAll (toPs as) (toPs bs) = true
  | [], bs, h => by unfold toPs; cases bs <;> (unfold PySem.W.alikeAll; rfl)
  | a :: as, [], h => by unfold toPs PySem.W.alikeAll; rfl
  | a :: as, b :: bs, h => by
    unfold alks at h
    obtain ⟨h1, h2⟩ := Bool.and_eq_true_iff.mp h
    unfold toPs PySem.W.alikeAll
    rw [alk_of a b h1, alks_of as bs h2]
    rfl
end
mutual
theorem dlt_of : ∀ {m k : Nat} (a b : D), dat m a = true → dat k b = true → alk a b = true → PySem.W.dataLt (toP a) (toP b) = ltA a b
  | _, _, .non, b, _, _, h => by cases b <;> first | rfl | (unfold alk at h; cases h)
  | _, _, .bl x, b, _, _, h => by
    cases b with
    | bl y =>
      unfold toP
      rw [PySem.W.dataLt_bool]
      unfold ltA
      cases x <;> cases y <;> decide
    | _ => unfold alk at h; cases h
  | _, _, .int x, b, _, _, h => by
    cases b <;> first | (unfold alk at h; cases h; done) | skip
    unfold toP
    rw [PySem.W.dataLt_int]
    rfl
  | _, _, .str x, b, _, _, h => by
    cases b <;> first | (unfold alk at h; cases h; done) | skip
    unfold toP
    rw [PySem.W.dataLt_str, toS_toList, toS_toList]
    exact (ltL_iff _ _).symm
  | _, _, .tup as, b, ea, eb, h => by
    cases b <;> first | (unfold alk at h; cases h; done) | skip
    unfold alk at h
    unfold dat at ea eb
    unfold toP
    rw [PySem.W.dataLt_tuple]
    unfold ltA
    exact dlts_of _ _ (Bool.and_eq_true_iff.mp ea).2 (Bool.and_eq_true_iff.mp eb).2 h
  | _, _, .ref _, b, _, _, h => by unfold alk at h; cases h
  | _, _, .fn _, b, _, _, h => by unfold alk at h; cases h
  | _, _, .clo _ _, b, _, _, h => by unfold alk at h; cases h
  | _, _, .frz _, b, _, _, h => by unfold alk at h; cases h
theorem dlts_of : ∀ {m k : Nat} (as bs : List D), dats m as = true → dats k bs = true → alks as bs = true → PyProof.Rows.lexLt itemOrd (PySem.W.keyToksAll (toPs as)) (PySem.W.keyToksAll (toPs bs)) = ltAs as bs
  | _, _, [], [], _, _, h => rfl
  | _, _, [], b :: bs, _, _, h => by unfold toPs ltAs; rw [PySem.W.toks_all_cons]; rfl
  | _, _, a :: as, [], _, _, h => by unfold toPs ltAs; rw [PySem.W.toks_all_cons]; rfl
  | _, _, a :: as, b :: bs, ea, eb, h => by
    unfold alks at h
    unfold dats at ea eb
    obtain ⟨h1, h2⟩ := Bool.and_eq_true_iff.mp h
    obtain ⟨a1, a2⟩ := Bool.and_eq_true_iff.mp ea
    obtain ⟨b1, b2⟩ := Bool.and_eq_true_iff.mp eb
    unfold toPs ltAs
    have e := eqv_of a b a1 b1
    by_cases hq : eqB a b = true
    · rw [if_pos hq, PySem.W.dataLt_all_yes (alk_of a b h1) (e.trans hq)]
      exact dlts_of as bs a2 b2 h2
    · rw [if_neg hq, PySem.W.dataLt_all_no (alk_of a b h1) (e.trans (by simpa using hq))]
      exact dlt_of a b a1 b1 h1
end
theorem toPs_map : ∀ ds : List D, toPs ds = ds.map toP
  | [] => rfl
  | d :: ds => by unfold toPs; rw [toPs_map ds]; rfl
mutual
theorem toP_inj : ∀ {m k : Nat} (a b : D), dat m a = true → dat k b = true → toP a = toP b → a = b
  | _, _, .non, b, _, eb, h => by cases b <;> first | rfl | (unfold dat at eb; cases eb; done) | (unfold toP at h; cases h)
  | _, _, .bl x, b, _, eb, h => by cases b <;> first | (unfold dat at eb; cases eb; done) | (unfold toP at h; cases h; rfl) | (unfold toP at h; cases h)
  | _, _, .int x, b, _, eb, h => by cases b <;> first | (unfold dat at eb; cases eb; done) | (unfold toP at h; cases h; rfl) | (unfold toP at h; cases h)
  | _, _, .str x, b, _, eb, h => by
    cases b <;> first | (unfold dat at eb; cases eb; done) | (unfold toP at h; cases h; done) | skip
    unfold toP at h
    injection h with h
    rw [toS_inj.mp h]
  | _, _, .tup as, b, ea, eb, h => by
    cases b <;> first | (unfold dat at eb; cases eb; done) | (unfold toP at h; cases h; done) | skip
    unfold toP at h
    injection h with h
    unfold dat at ea eb
    rw [toPs_inj _ _ (Bool.and_eq_true_iff.mp ea).2 (Bool.and_eq_true_iff.mp eb).2 h]
  | _, _, .ref _, b, ea, _, h => by unfold dat at ea; cases ea
  | _, _, .fn _, b, ea, _, h => by unfold dat at ea; cases ea
  | _, _, .clo _ _, b, ea, _, h => by unfold dat at ea; cases ea
  | _, _, .frz _, b, ea, _, h => by unfold dat at ea; cases ea
theorem toPs_inj : ∀ {m k : Nat} (as bs : List D), dats m as = true → dats k bs = true → toPs as = toPs bs → as = bs
  | _, _, [], [], _, _, _ => rfl
  | _, _, [], b :: bs, _, _, h => by unfold toPs at h; cases h
  | _, _, a :: as, [], _, _, h => by unfold toPs at h; cases h
  | _, _, a :: as, b :: bs, ea, eb, h => by
    unfold toPs at h
    unfold dats at ea eb
    injection h with h1 h2
    rw [toP_inj a b (Bool.and_eq_true_iff.mp ea).1 (Bool.and_eq_true_iff.mp eb).1 h1, toPs_inj as bs (Bool.and_eq_true_iff.mp ea).2 (Bool.and_eq_true_iff.mp eb).2 h2]
end
theorem dats_mem : ∀ {m : Nat} {ds : List D}, dats m ds = true → ∀ d ∈ ds, dat m d = true
  | m, d :: ds, h, x, hx => by
    unfold dats at h
    rcases List.mem_cons.mp hx with rfl | hx
    · exact (Bool.and_eq_true_iff.mp h).1
    · exact dats_mem (Bool.and_eq_true_iff.mp h).2 x hx
  | m, [], h, x, hx => by cases hx
/-- what cmpOk says -/
theorem cmpOk_is {ds : List D} (h : cmpOk ds = true) : dats 19 ds = true ∧ (∀ a ∈ ds, ∀ b ∈ ds, alk a b = true) ∧ ∀ a ∈ ds, a ≠ .non := by
  unfold cmpOk at h
  obtain ⟨h1, h2⟩ := Bool.and_eq_true_iff.mp h
  refine ⟨h1, ?_⟩
  rcases Bool.or_eq_true_iff.mp h2 with h2 | h2
  · rcases Bool.or_eq_true_iff.mp h2 with h2 | h2
    · rw [List.all_eq_true] at h2
      have is : ∀ a ∈ ds, ∃ i, a = .int i := fun a ha => by
        have := h2 a ha
        cases a <;> first | exact ⟨_, rfl⟩ | cases this
      refine ⟨fun a ha b hb => ?_, fun a ha z => ?_⟩
      · obtain ⟨i, rfl⟩ := is a ha; obtain ⟨j, rfl⟩ := is b hb; unfold alk; rfl
      · obtain ⟨i, rfl⟩ := is a ha; cases z
    · rw [List.all_eq_true] at h2
      have is : ∀ a ∈ ds, ∃ i, a = .str i := fun a ha => by
        have := h2 a ha
        cases a <;> first | exact ⟨_, rfl⟩ | cases this
      refine ⟨fun a ha b hb => ?_, fun a ha z => ?_⟩
      · obtain ⟨i, rfl⟩ := is a ha; obtain ⟨j, rfl⟩ := is b hb; unfold alk; rfl
      · obtain ⟨i, rfl⟩ := is a ha; cases z
  · obtain ⟨h3, h4⟩ := Bool.and_eq_true_iff.mp h2
    rw [List.all_eq_true] at h4
    refine ⟨fun a ha b hb => List.all_eq_true.mp (h4 a ha) b hb, fun a ha z => ?_⟩
    subst z
    have : ds.any D.isN = true := List.any_eq_true.mpr ⟨.non, ha, rfl⟩
    rw [this] at h3
    cases h3
theorem alikeAll_of {ds : List D} (h : cmpOk ds = true) : PySem.W.AlikeAll (toPs ds) := by
  obtain ⟨h1, h2, h3⟩ := cmpOk_is h
  rw [toPs_map]
  refine ⟨fun x hx y hy => ?_, fun x hx z => ?_⟩
  · obtain ⟨a, ha, rfl⟩ := List.mem_map.mp hx
    obtain ⟨b, hb, rfl⟩ := List.mem_map.mp hy
    exact alk_of a b (h2 a ha b hb)
  · obtain ⟨a, ha, rfl⟩ := List.mem_map.mp hx
    have hd := dats_mem h1 a ha
    have hn := h3 a ha
    cases a <;> first | exact hn rfl | (unfold toP at z; cases z; done) | (unfold dat at hd; cases hd; done)
theorem fold_mem {f : D → D → Bool} : ∀ (ys : List D) (b : D), (ys.foldl (fun a y => if f a y then y else a) b) ∈ b :: ys
  | [], b => List.mem_cons_self
  | y :: ys, b => by
    simp only [List.foldl_cons]
    have := fold_mem (f := f) ys (if f b y then y else b)
    rcases List.mem_cons.mp this with e | e
    · rw [e]
      split
      · exact List.mem_cons_of_mem _ List.mem_cons_self
      · exact List.mem_cons_self
    · exact List.mem_cons_of_mem _ (List.mem_cons_of_mem _ e)
theorem minD_of : ∀ (ys : List D) (b : D), dats 19 (b :: ys) = true → (∀ x ∈ b :: ys, ∀ y ∈ b :: ys, alk x y = true) → PySem.W.minD (toP b) (toPs ys) = toP (minBy b ys)
  | [], b, _, _ => rfl
  | y :: ys, b, hd, ha => by
    have db := dats_mem hd b List.mem_cons_self
    have dy := dats_mem hd y (List.mem_cons_of_mem _ List.mem_cons_self)
    unfold PySem.W.minD minBy toPs
    simp only [List.foldl_cons]
    rw [dlt_of y b dy db (ha y (List.mem_cons_of_mem _ List.mem_cons_self) b List.mem_cons_self)]
    have ih : ∀ c, (c = y ∨ c = b) → PySem.W.minD (toP c) (toPs ys) = toP (minBy c ys) := fun c hc => minD_of ys c (by
        unfold dats at hd ⊢
        rw [Bool.and_eq_true] at hd ⊢
        obtain ⟨_, h2⟩ := hd
        unfold dats at h2
        exact ⟨by rcases hc with rfl | rfl <;> assumption, (Bool.and_eq_true_iff.mp h2).2⟩) (fun x hx z hz => by
        have sub : ∀ x ∈ c :: ys, x ∈ b :: y :: ys := fun x hx => by
          rcases List.mem_cons.mp hx with rfl | hx
          · rcases hc with rfl | rfl
            · exact List.mem_cons_of_mem _ List.mem_cons_self
            · exact List.mem_cons_self
          · exact List.mem_cons_of_mem _ (List.mem_cons_of_mem _ hx)
        exact ha x (sub x hx) z (sub z hz))
    split
    · exact ih y (.inl rfl)
    · exact ih b (.inr rfl)
theorem maxD_of : ∀ (ys : List D) (b : D), dats 19 (b :: ys) = true → (∀ x ∈ b :: ys, ∀ y ∈ b :: ys, alk x y = true) → PySem.W.maxD (toP b) (toPs ys) = toP (maxBy b ys)
  | [], b, _, _ => rfl
  | y :: ys, b, hd, ha => by
    have db := dats_mem hd b List.mem_cons_self
    have dy := dats_mem hd y (List.mem_cons_of_mem _ List.mem_cons_self)
    unfold PySem.W.maxD maxBy toPs
    simp only [List.foldl_cons]
    rw [dlt_of b y db dy (ha b List.mem_cons_self y (List.mem_cons_of_mem _ List.mem_cons_self))]
    have ih : ∀ c, (c = y ∨ c = b) → PySem.W.maxD (toP c) (toPs ys) = toP (maxBy c ys) := fun c hc => maxD_of ys c (by
        unfold dats at hd ⊢
        rw [Bool.and_eq_true] at hd ⊢
        obtain ⟨_, h2⟩ := hd
        unfold dats at h2
        exact ⟨by rcases hc with rfl | rfl <;> assumption, (Bool.and_eq_true_iff.mp h2).2⟩) (fun x hx z hz => by
        have sub : ∀ x ∈ c :: ys, x ∈ b :: y :: ys := fun x hx => by
          rcases List.mem_cons.mp hx with rfl | hx
          · rcases hc with rfl | rfl
            · exact List.mem_cons_of_mem _ List.mem_cons_self
            · exact List.mem_cons_self
          · exact List.mem_cons_of_mem _ (List.mem_cons_of_mem _ hx)
        exact ha x (sub x hx) z (sub z hz))
    split
    · exact ih y (.inl rfl)
    · exact ih b (.inr rfl)
section
variable {L : Lk} {C : Ctx} {n : Nat} {W : XK} {X : Cx} {H : Hp} {r : List Addr} {h : Heap} {env : Env} {σ : Sg} {Q : VK} {x y : V} {dx dy : D} {ds : List D} {xs : List V}
theorem vals_at {us : List V} {its : List Value} (rv : Vals us its) : ∀ {i : Nat} {v : Value}, its[i]? = some v → ∃ x, us[i]? = some x ∧ RelV x v := by
  induction rv with
  | nil => intro i v e; simp at e
  | cons r _ ih =>
    intro i v e
    cases i with
    | zero => simp at e; subst e; exact ⟨_, rfl, r⟩
    | succ i => simpa using ih (by simpa using e)
theorem rels_at {K : PySem.W.Frag} : ∀ {ds : List D} {us : List V} {i : Nat} {x : V}, RelDs L K H r ds us → us[i]? = some x → ∃ d, ds[i]? = some d ∧ RelD L K H r d x
  | [], us, i, x, g, e => by cases rels0 g; simp at e
  | d :: ds, us, i, x, g, e => by
    unfold RelDs at g
    obtain ⟨z, zs, rfl, g1, g2⟩ := g
    cases i with
    | zero => simp at e; subst e; exact ⟨d, rfl, g1⟩
    | succ i => simpa using rels_at g2 (by simpa using e)
theorem pick {d : D} {us : List V} {its : List Value} {as bs : List Addr} {i : Nat} {v : Value} {hp h' : PySem.Heap} (ra : ReadsAll hp its (toPs ds) as) (rv : Vals us its) (gs : RelDs L X.K H r ds us) (hd : dats 19 ds = true) (hv : its[i]? = some v)
    (rr : Reads h' v (toP d) bs) (hm : d ∈ ds) (k : ∀ b o, hp.get? b = some o → h'.get? b = some o) : ∃ x, RelV x v ∧ RelD L X.K H r d x := by
  obtain ⟨x, ex, rx⟩ := vals_at rv hv
  obtain ⟨d', ed, gd⟩ := rels_at gs ex
  obtain ⟨cs, r1, hi, _, _⟩ := PySem.W.readsAll_at ra i v hv
  have dd' := dats_mem hd d' (List.mem_of_getElem? ed)
  have e1 : (toPs ds).getD i .none = toP d' := by rw [toPs_map, List.getD_eq_getElem?_getD, List.getElem?_map, ed]; rfl
  rw [e1] at r1
  have hc := (dp_of gd dd').2.1
  have e2 := PySem.SeqAt.plain_unique _ _ _ _ _ (PyData.plain_of_canLay0 _ hc) (PyProof.Rows.Reads.keeps k r1) rr
  have e3 := toP_inj d' d dd' (dats_mem hd d hm) e2
  subst e3
  exact ⟨x, rx, gd⟩
theorem seq_reads {d : D} {h : Heap} {zs : List D} (g : Good L C n W X) (s : SR L X.K env h r σ H) (g1 : RelD L X.K H r d x) (e : items? h d = some zs) (hd : dats 19 zs = true) :
    ∃ q us, x = .ref q ∧ RelDs L X.K H r zs us ∧ X.A.units + 1 + PyData.depthAll (toPs zs) < cLine ∧ ∀ {pins : List (Addr × Obj)} {s1 : Shared} {σ1 : Sg}, Inv X pins σ1 H s1 → ∃ its as, Vals us its ∧ ReadsAll s1.heap its (toPs zs) as ∧ (s1.heap.IsList q its.toArray ∨ s1.heap.IsTuple q its.toArray) := by
  obtain ⟨q, us, rfl, sq, gs⟩ := bi_seq s g1 e
  obtain ⟨h1, h2, h3⟩ := dps_of gs hd
  refine ⟨q, us, rfl, gs, by have := g.units64; omega, fun {pins s1 σ1} I => ?_⟩
  rcases sq with sq | sq
  · obtain ⟨its, rv, pl, hz⟩ := I.list sq
    obtain ⟨as, ra⟩ := L2.Dp.readsAll I _ _ _ h1 rv
    exact ⟨its, as, rv, ra, .inl pl.isList⟩
  · obtain ⟨its, rv, pl, hz⟩ := I.tuple sq
    obtain ⟨as, ra⟩ := L2.Dp.readsAll I _ _ _ h1 rv
    exact ⟨its, as, rv, ra, .inr pl⟩
theorem bi_min1 (g : Good L C n W X) (s : SR L X.K env h r σ H) (gs : RelDs L X.K H r ds xs) (p : Post L X.K (RV L X.K) W env σ r H Q (biF .min1 ds h)) : wCall X (.builtin "min") xs H Q := by
  rcases ds with _ | ⟨d, _ | ⟨d2, ds⟩⟩ <;> first | exact p.elim | skip
  obtain ⟨v, ys, rfl, g1, g2⟩ := rels1 gs
  cases rels0 g2
  unfold biF at p
  dsimp only at p
  split at p
  · rename_i y ys ei
    split at p
    · rename_i hc
      obtain ⟨hd, hal, _⟩ := cmpOk_is hc
      obtain ⟨q, us, rfl, gu, hu, f⟩ := seq_reads g s g1 ei hd
      intro pins s1 σ1 ws I rw1
      cases L2.Vals.ref1 rw1
      obtain ⟨its, as, rv, ra, hl⟩ := f I
      have fin : ∀ (i : Nat) v h' tk bs, its.toArray[i]? = some v → Reads h' v (PySem.W.minD (toP y) (toPs ys)) bs → (∀ b o, s1.heap.get? b = some o → h'.get? b = some o) → EP X pins σ1 Q v { s1 with heap := h', toks := tk } := fun i v h' tk bs hv rr k => by
        rw [minD_of ys y hd hal] at rr
        obtain ⟨x, rx, gx⟩ := pick ra rv gu hd (by simpa using hv) rr (fold_mem ys y) k
        exact ⟨x, H, I.kept k, rx, p.here s gx⟩
      rcases hl with hl | hl
      · exact PySem.W.min_list_data (I.ok.hd g.calm) hl ra (alikeAll_of hc) hu fin
      · exact PySem.W.min_tuple_data (I.ok.hd g.calm) hl ra (alikeAll_of hc) hu fin
    · exact p.elim
  · exact p.elim
theorem bi_max1 (g : Good L C n W X) (s : SR L X.K env h r σ H) (gs : RelDs L X.K H r ds xs) (p : Post L X.K (RV L X.K) W env σ r H Q (biF .max1 ds h)) : wCall X (.builtin "max") xs H Q := by
  rcases ds with _ | ⟨d, _ | ⟨d2, ds⟩⟩ <;> first | exact p.elim | skip
  obtain ⟨v, ys, rfl, g1, g2⟩ := rels1 gs
  cases rels0 g2
  unfold biF at p
  dsimp only at p
  split at p
  · rename_i y ys ei
    split at p
    · rename_i hc
      obtain ⟨hd, hal, _⟩ := cmpOk_is hc
      obtain ⟨q, us, rfl, gu, hu, f⟩ := seq_reads g s g1 ei hd
      intro pins s1 σ1 ws I rw1
      cases L2.Vals.ref1 rw1
      obtain ⟨its, as, rv, ra, hl⟩ := f I
      have fin : ∀ (i : Nat) v h' tk bs, its.toArray[i]? = some v → Reads h' v (PySem.W.maxD (toP y) (toPs ys)) bs → (∀ b o, s1.heap.get? b = some o → h'.get? b = some o) → EP X pins σ1 Q v { s1 with heap := h', toks := tk } := fun i v h' tk bs hv rr k => by
        rw [maxD_of ys y hd hal] at rr
        obtain ⟨x, rx, gx⟩ := pick ra rv gu hd (by simpa using hv) rr (fold_mem ys y) k
        exact ⟨x, H, I.kept k, rx, p.here s gx⟩
      rcases hl with hl | hl
      · exact PySem.W.max_list_data (I.ok.hd g.calm) hl ra (alikeAll_of hc) hu fin
      · exact PySem.W.max_tuple_data (I.ok.hd g.calm) hl ra (alikeAll_of hc) hu fin
    · exact p.elim
  · exact p.elim
/-- min(e, default=z): as a rule with one keyword -/
theorem args2 {m mz : MV} {f : List D → Env → Heap → Res D} (env : Env) (h : Heap) : cApp (cArgs [m, mz]) f env h = (m env h).bind fun d h1 => (mz env h1).bind fun z h2 => f [d, z] env h2 := by
  unfold cApp cArgs cArgs cArgs
  cases m env h with
  | ok d h1 =>
    show (((mz env h1).bind fun z h2 => _).bind _).bind _ = (mz env h1).bind _
    cases mz env h1 <;> rfl
  | exc c ds h1 => rfl
  | err => rfl
def rMinD (X : Cx) : List V → List V → Hp → VK → Prop := fun xs zs H Q => ∀ (pins : List (Addr × Obj)) (s : Shared) (σ : Sg) (us ws : List Value), Inv X pins σ H s → Vals xs us → Vals zs ws → wpAny (model X.prog X.w) X.A (call (.builtin "min") us ([("default" : Str)].zip ws)) (EP X pins σ Q) X.xe s
theorem cMinD : L2.CallRK X (.builtin "min") [("default" : Str)] (rMinD X) := fun pins s σ H xs zs us ws Q I r rz h => h pins s σ us ws I r rz
theorem bi_minD {d z : D} {x zv : V} (g : Good L C n W X) (s : SR L X.K env h r σ H) (g1 : RelD L X.K H r d x) (gz : RelD L X.K H r z zv) (p : Post L X.K (RV L X.K) W env σ r H Q (biF .minD [d, z] h)) : rMinD X [x] [zv] H Q := by
  intro pins s1 σ1 us ws I rw1 rz
  obtain ⟨u, rfl, r1⟩ := L2.vals1 rw1
  obtain ⟨w1, rfl, r2⟩ := L2.vals1 rz
  have emp : ∀ {c : Nat}, True := fun {c} => trivial
  unfold biF at p
  dsimp only at p
  split at p
  · rename_i y ys ei
    split at p
    · rename_i hc
      obtain ⟨hd, hal, _⟩ := cmpOk_is hc
      obtain ⟨q, us, rfl, gu, hu, f⟩ := seq_reads g s g1 ei hd
      obtain rfl : u = Value.ref q := r1
      obtain ⟨its, as, rv, ra, hl⟩ := f I
      have fin : ∀ (y' : PyData) (ys' : List PyData) (i : Nat) v h' tk bs, toPs (y :: ys) = y' :: ys' → its.toArray[i]? = some v → Reads h' v (PySem.W.minD y' ys') bs → (∀ b o, s1.heap.get? b = some o → h'.get? b = some o) → EP X pins σ1 Q v { s1 with heap := h', toks := tk } := fun y' ys' i v h' tk bs e hv rr k => by
        unfold toPs at e
        cases e
        rw [minD_of ys y hd hal] at rr
        obtain ⟨x, rx, gx⟩ := pick ra rv gu hd (by simpa using hv) rr (fold_mem ys y) k
        exact ⟨x, H, I.kept k, rx, p.here s gx⟩
      have no : toPs (y :: ys) = [] → ∀ h' tk, (∀ b o, s1.heap.get? b = some o → h'.get? b = some o) → EP X pins σ1 Q w1 { s1 with heap := h', toks := tk } := fun e => by unfold toPs at e; cases e
      rcases hl with hl | hl
      · exact PySem.W.min_list_default (I.ok.hd g.calm) hl ra (alikeAll_of hc) hu no fin
      · exact PySem.W.min_tuple_default (I.ok.hd g.calm) hl ra (alikeAll_of hc) hu no fin
    · exact p.elim
  · rename_i ei
    obtain ⟨q, us, rfl, gu, hu, f⟩ := seq_reads g s g1 ei rfl
    obtain rfl : u = Value.ref q := r1
    obtain ⟨its, as, rv, ra, hl⟩ := f I
    have fin : ∀ (y' : PyData) (ys' : List PyData) (i : Nat) v h' tk bs, toPs [] = y' :: ys' → its.toArray[i]? = some v → Reads h' v (PySem.W.minD y' ys') bs → (∀ b o, s1.heap.get? b = some o → h'.get? b = some o) → EP X pins σ1 Q v { s1 with heap := h', toks := tk } := fun y' ys' i v h' tk bs e hv rr k => by
      unfold toPs at e; cases e
    have no : toPs [] = [] → ∀ h' tk, (∀ b o, s1.heap.get? b = some o → h'.get? b = some o) → EP X pins σ1 Q w1 { s1 with heap := h', toks := tk } := fun _ h' tk k => ⟨zv, H, I.kept k, r2, p.here s gz⟩
    rcases hl with hl | hl
    · exact PySem.W.min_list_default (I.ok.hd g.calm) hl ra (alikeAll_of rfl) hu no fin
    · exact PySem.W.min_tuple_default (I.ok.hd g.calm) hl ra (alikeAll_of rfl) hu no fin
  · exact p.elim
theorem minDY {pe pz : Expr} {m mz : MV} {p p2 pos : Pos} (g : Good L C n W X) (hg : glB X.env.scope "min" = true) (he : PE X pe (rd L X.K W m)) (hz : PE X pz (rd L X.K W mz)) (hs : starEach [pe] X.env = (false, eval pe X.env) :: starEach [] X.env) :
    PE X (.Call (.Name "min" p) [pe] [⟨some "default", pz, p2⟩] pos) (rd L X.K W (cApp (cArgs [m, mz]) fun ds _ h => biF .minD ds h)) := by
  obtain ⟨a1, a2, a3⟩ := gl_of hg
  refine (L2.pe_callBK cMinD a1 (g.link.bG _ (by decide +kernel)) (show bootBuiltins ("min" : Str) = some (.builtin "min") by decide +kernel) (L2.pa_cons he L2.pa_nil hs) (L2.pk_cons hz L2.pk_nil) a3 a2 (by rw [hs]; rfl) (by rw [hs]; rfl) (by rfl) (by rfl) (by rfl)).imp fun σ H Q ⟨env, h, r, s, q⟩ => ?_
  rw [args2] at q
  refine ⟨env, h, r, s, (Post.bind (R := RV L X.K) q).mono fun x H1 ⟨dx, h1, r1, a1, p1⟩ => ?_⟩
  refine ⟨env, h1, r1, a1.s, (Post.bind (R := RV L X.K) p1).mono fun z H2 ⟨dz, h2, r2, a2, p2⟩ => ?_⟩
  exact bi_minD g a2.s (a1.rel.mono a2.k a2.pr) a2.rel p2
/-- max(e, default=z): as a rule with one keyword -/
def rMaxD (X : Cx) : List V → List V → Hp → VK → Prop := fun xs zs H Q => ∀ (pins : List (Addr × Obj)) (s : Shared) (σ : Sg) (us ws : List Value), Inv X pins σ H s → Vals xs us → Vals zs ws → wpAny (model X.prog X.w) X.A (call (.builtin "max") us ([("default" : Str)].zip ws)) (EP X pins σ Q) X.xe s
theorem cMaxD : L2.CallRK X (.builtin "max") [("default" : Str)] (rMaxD X) := fun pins s σ H xs zs us ws Q I r rz h => h pins s σ us ws I r rz
theorem bi_maxD {d z : D} {x zv : V} (g : Good L C n W X) (s : SR L X.K env h r σ H) (g1 : RelD L X.K H r d x) (gz : RelD L X.K H r z zv) (p : Post L X.K (RV L X.K) W env σ r H Q (biF .maxD [d, z] h)) : rMaxD X [x] [zv] H Q := by
  intro pins s1 σ1 us ws I rw1 rz
  obtain ⟨u, rfl, r1⟩ := L2.vals1 rw1
  obtain ⟨w1, rfl, r2⟩ := L2.vals1 rz
  have emp : ∀ {c : Nat}, True := fun {c} => trivial
  unfold biF at p
  dsimp only at p
  split at p
  · rename_i y ys ei
    split at p
    · rename_i hc
      obtain ⟨hd, hal, _⟩ := cmpOk_is hc
      obtain ⟨q, us, rfl, gu, hu, f⟩ := seq_reads g s g1 ei hd
      obtain rfl : u = Value.ref q := r1
      obtain ⟨its, as, rv, ra, hl⟩ := f I
      have fin : ∀ (y' : PyData) (ys' : List PyData) (i : Nat) v h' tk bs, toPs (y :: ys) = y' :: ys' → its.toArray[i]? = some v → Reads h' v (PySem.W.maxD y' ys') bs → (∀ b o, s1.heap.get? b = some o → h'.get? b = some o) → EP X pins σ1 Q v { s1 with heap := h', toks := tk } := fun y' ys' i v h' tk bs e hv rr k => by
        unfold toPs at e
        cases e
        rw [maxD_of ys y hd hal] at rr
        obtain ⟨x, rx, gx⟩ := pick ra rv gu hd (by simpa using hv) rr (fold_mem ys y) k
        exact ⟨x, H, I.kept k, rx, p.here s gx⟩
      have no : toPs (y :: ys) = [] → ∀ h' tk, (∀ b o, s1.heap.get? b = some o → h'.get? b = some o) → EP X pins σ1 Q w1 { s1 with heap := h', toks := tk } := fun e => by unfold toPs at e; cases e
      rcases hl with hl | hl
      · exact PySem.W.max_list_default (I.ok.hd g.calm) hl ra (alikeAll_of hc) hu no fin
      · exact PySem.W.max_tuple_default (I.ok.hd g.calm) hl ra (alikeAll_of hc) hu no fin
    · exact p.elim
  · rename_i ei
    obtain ⟨q, us, rfl, gu, hu, f⟩ := seq_reads g s g1 ei rfl
    obtain rfl : u = Value.ref q := r1
    obtain ⟨its, as, rv, ra, hl⟩ := f I
    have fin : ∀ (y' : PyData) (ys' : List PyData) (i : Nat) v h' tk bs, toPs [] = y' :: ys' → its.toArray[i]? = some v → Reads h' v (PySem.W.maxD y' ys') bs → (∀ b o, s1.heap.get? b = some o → h'.get? b = some o) → EP X pins σ1 Q v { s1 with heap := h', toks := tk } := fun y' ys' i v h' tk bs e hv rr k => by
      unfold toPs at e; cases e
    have no : toPs [] = [] → ∀ h' tk, (∀ b o, s1.heap.get? b = some o → h'.get? b = some o) → EP X pins σ1 Q w1 { s1 with heap := h', toks := tk } := fun _ h' tk k => ⟨zv, H, I.kept k, r2, p.here s gz⟩
    rcases hl with hl | hl
    · exact PySem.W.max_list_default (I.ok.hd g.calm) hl ra (alikeAll_of rfl) hu no fin
    · exact PySem.W.max_tuple_default (I.ok.hd g.calm) hl ra (alikeAll_of rfl) hu no fin
  · exact p.elim
theorem maxDY {pe pz : Expr} {m mz : MV} {p p2 pos : Pos} (g : Good L C n W X) (hg : glB X.env.scope "max" = true) (he : PE X pe (rd L X.K W m)) (hz : PE X pz (rd L X.K W mz)) (hs : starEach [pe] X.env = (false, eval pe X.env) :: starEach [] X.env) :
    PE X (.Call (.Name "max" p) [pe] [⟨some "default", pz, p2⟩] pos) (rd L X.K W (cApp (cArgs [m, mz]) fun ds _ h => biF .maxD ds h)) := by
  obtain ⟨a1, a2, a3⟩ := gl_of hg
  refine (L2.pe_callBK cMaxD a1 (g.link.bG _ (by decide +kernel)) (show bootBuiltins ("max" : Str) = some (.builtin "max") by decide +kernel) (L2.pa_cons he L2.pa_nil hs) (L2.pk_cons hz L2.pk_nil) a3 a2 (by rw [hs]; rfl) (by rw [hs]; rfl) (by rfl) (by rfl) (by rfl)).imp fun σ H Q ⟨env, h, r, s, q⟩ => ?_
  rw [args2] at q
  refine ⟨env, h, r, s, (Post.bind (R := RV L X.K) q).mono fun x H1 ⟨dx, h1, r1, a1, p1⟩ => ?_⟩
  refine ⟨env, h1, r1, a1.s, (Post.bind (R := RV L X.K) p1).mono fun z H2 ⟨dz, h2, r2, a2, p2⟩ => ?_⟩
  exact bi_maxD g a2.s (a1.rel.mono a2.k a2.pr) a2.rel p2
end
section
variable {α : Type} {le : α → α → Bool}
def insB (le : α → α → Bool) (x : α) : List α → List α
  | [] => [x]
  | y :: ys => if le y x then y :: insB le x ys else x :: y :: ys
theorem insB_mem (x : α) : ∀ (l : List α) (z : α), z ∈ insB le x l ↔ z = x ∨ z ∈ l
  | [], z => by unfold insB; simp
  | y :: ys, z => by
    unfold insB
    split
    · rw [List.mem_cons, insB_mem x ys z, List.mem_cons]
      exact ⟨fun h => by rcases h with h | h | h <;> simp [h], fun h => by rcases h with h | h | h <;> simp [h]⟩
    · rw [List.mem_cons]
theorem insB_pair (T : PySem.W.TotalLe le) (x : α) : ∀ l : List α, l.Pairwise (fun a b => le a b = true) → (insB le x l).Pairwise (fun a b => le a b = true)
  | [], _ => by unfold insB; simp
  | y :: ys, h => by
    obtain ⟨h1, h2⟩ := List.pairwise_cons.mp h
    unfold insB
    split
    · rename_i hy
      refine List.pairwise_cons.mpr ⟨fun z hz => ?_, insB_pair T x ys h2⟩
      rcases (insB_mem x ys z).mp hz with rfl | hz
      · exact hy
      · exact h1 z hz
    · rename_i hy
      have hxy : le x y = true := (T.total y x).resolve_left hy
      refine List.pairwise_cons.mpr ⟨fun z hz => ?_, h⟩
      rcases List.mem_cons.mp hz with rfl | hz
      · exact hxy
      · exact T.trans _ _ _ hxy (h1 z hz)
theorem insB_filter (T : PySem.W.TotalLe le) (x c : α) : ∀ l : List α, l.Pairwise (fun a b => le a b = true) → (insB le x l).filter (PySem.W.sameRank le c) = l.filter (PySem.W.sameRank le c) ++ [x].filter (PySem.W.sameRank le c)
  | [], _ => by unfold insB; rfl
  | y :: ys, h => by
    obtain ⟨h1, h2⟩ := List.pairwise_cons.mp h
    unfold insB
    split
    · rw [List.filter_cons, List.filter_cons, insB_filter T x c ys h2]
      split <;> rfl
    · rename_i hy
      by_cases hc : PySem.W.sameRank le c x = true
      · have hno : (y :: ys).filter (PySem.W.sameRank le c) = [] := by
          rw [List.filter_eq_nil_iff]
          intro z hz hcz
          unfold PySem.W.sameRank at hc hcz
          rw [Bool.and_eq_true] at hc hcz
          have hzx : le z x = true := T.trans _ _ _ hcz.2 hc.1
          rcases List.mem_cons.mp hz with rfl | hz
          · exact hy hzx
          · exact hy (T.trans _ _ _ (h1 z hz) hzx)
        rw [List.filter_cons, if_pos hc, hno]
        simp [hc]
      · rw [List.filter_cons, if_neg hc]
        simp [hc]
theorem foldB (T : PySem.W.TotalLe le) : ∀ (l acc : List α), acc.Pairwise (fun a b => le a b = true) → (l.foldl (fun a x => insB le x a) acc).Pairwise (fun a b => le a b = true) ∧ ∀ c, (l.foldl (fun a x => insB le x a) acc).filter (PySem.W.sameRank le c) = acc.filter (PySem.W.sameRank le c) ++ l.filter (PySem.W.sameRank le c)
  | [], acc, h => ⟨h, fun c => by simp⟩
  | x :: l, acc, h => by
    obtain ⟨i1, i2⟩ := foldB T l (insB le x acc) (insB_pair T x acc h)
    refine ⟨i1, fun c => ?_⟩
    rw [List.foldl_cons, i2 c, insB_filter T x c acc h, List.append_assoc, ← List.filter_append]
    rfl
theorem sort_ins (T : PySem.W.TotalLe le) (l : List α) : l.foldl (fun a x => insB le x a) [] = l.mergeSort le := by
  obtain ⟨h1, h2⟩ := foldB T l [] List.Pairwise.nil
  exact PySem.W.sort_unique T h1 fun c => by rw [h2 c]; rfl
end
section
variable {L : Lk} {C : Ctx} {n : Nat} {W : XK} {X : Cx} {H : Hp} {r : List Addr} {h : Heap} {env : Env} {σ : Sg} {Q : VK} {x y : V} {dx dy : D} {ds : List D} {xs : List V}
theorem insD_of {ds : List D} (hd : dats 19 ds = true) (ha : ∀ a ∈ ds, ∀ b ∈ ds, alk a b = true) {x : D} (hx : x ∈ ds) : ∀ l : List D, (∀ z ∈ l, z ∈ ds) → insD x l = insB (PySem.W.dataLe false toP) x l
  | [], _ => rfl
  | y :: ys, hl => by
    unfold insD insB
    have e : PySem.W.dataLe false toP y x = !ltA x y := by
      rw [PySem.W.dataLe_eq]
      show (!PySem.W.dataLt (toP x) (toP y)) = _
      rw [dlt_of x y (dats_mem hd x hx) (dats_mem hd y (hl y List.mem_cons_self)) (ha x hx y (hl y List.mem_cons_self))]
    rw [e, insD_of hd ha hx ys fun z hz => hl z (List.mem_cons_of_mem _ hz)]
    cases ltA x y <;> rfl
theorem sortD_eq {ds : List D} (hd : dats 19 ds = true) (ha : ∀ a ∈ ds, ∀ b ∈ ds, alk a b = true) : sortD ds = ds.mergeSort (PySem.W.dataLe false toP) := by
  have T : PySem.W.TotalLe (PySem.W.dataLe false toP) := PySem.W.sortLe_total _ false _
  rw [← sort_ins T]
  unfold sortD
  have go : ∀ (l acc : List D), (∀ z ∈ l, z ∈ ds) → (∀ z ∈ acc, z ∈ ds) → l.foldl (fun acc x => insD x acc) acc = l.foldl (fun a x => insB (PySem.W.dataLe false toP) x a) acc := by
    intro l
    induction l with
    | nil => intro acc _ _; rfl
    | cons x l ih =>
      intro acc h1 h2
      rw [List.foldl_cons, List.foldl_cons, insD_of hd ha (h1 x List.mem_cons_self) acc h2]
      refine ih _ (fun z hz => h1 z (List.mem_cons_of_mem _ hz)) fun z hz => ?_
      rcases (insB_mem x acc z).mp hz with rfl | hz
      · exact h1 z List.mem_cons_self
      · exact h2 z hz
  exact go ds [] (fun z hz => hz) (fun z hz => by cases hz)
theorem rels_zip {K : PySem.W.Frag} : ∀ {ds : List D} {us : List V}, RelDs L K H r ds us → ∀ p ∈ ds.zip us, RelD L K H r p.1 p.2
  | [], us, g, p, hp => by simp at hp
  | d :: ds, us, g, p, hp => by
    unfold RelDs at g
    obtain ⟨x, ys, rfl, g1, g2⟩ := g
    rw [List.zip_cons_cons] at hp
    rcases List.mem_cons.mp hp with rfl | hp
    · exact g1
    · exact rels_zip g2 p hp
theorem rels_of {K : PySem.W.Frag} : ∀ {zs : List (D × V)}, (∀ p ∈ zs, RelD L K H r p.1 p.2) → RelDs L K H r (zs.map (·.1)) (zs.map (·.2))
  | [], _ => .nil
  | z :: zs, h => .cons (h z List.mem_cons_self) (rels_of fun p hp => h p (List.mem_cons_of_mem _ hp))
theorem each_vals {us : List V} {its : List Value} (rv : Vals us its) : ∀ (ds : List D), ds.length = us.length → PySem.W.EachIs (fun v (b : D × V) => RelV b.2 v) its (ds.zip us) := by
  induction rv with
  | nil => intro ds e; rw [List.zip_nil_right]; exact .nil
  | cons r0 _ ih =>
    intro ds e
    cases ds with
    | nil => cases e
    | cons d ds => rw [List.zip_cons_cons]; exact .cons r0 (ih ds (by simpa using e))
theorem each_reads : ∀ {ds : List D} {us : List V} {its : List Value} {as : List Addr} {hp : PySem.Heap}, ReadsAll hp its (toPs ds) as → ds.length = us.length → PySem.W.EachIs (fun v (b : D × V) => ∃ as, Reads hp v (toP b.1) as) its (ds.zip us)
  | [], us, its, as, hp, ra, e => by
    unfold toPs at ra
    cases ra
    exact .nil
  | d :: ds, us, its, as, hp, ra, e => by
    unfold toPs at ra
    cases us with
    | nil => cases e
    | cons u us =>
      cases ra with
      | cons r1 r2 => rw [List.zip_cons_cons]; exact .cons ⟨_, r1⟩ (each_reads r2 (by simpa using e))
theorem vals_each {out : List Value} {zs : List (D × V)} (e : PySem.W.EachIs (fun v (b : D × V) => RelV b.2 v) out zs) : Vals (zs.map (·.2)) out := by
  induction e with
  | nil => exact .nil
  | cons h _ ih => exact .cons h ih
theorem depth_le : ∀ (ds : List D) (d : D), d ∈ ds → (toP d).depth ≤ PyData.depthAll (toPs ds)
  | d0 :: ds, d, h => by
    unfold toPs
    show _ ≤ max (toP d0).depth (PyData.depthAll (toPs ds))
    rcases List.mem_cons.mp h with rfl | h
    · exact Nat.le_max_left _ _
    · exact Nat.le_trans (depth_le ds d h) (Nat.le_max_right _ _)
theorem bi_sorted (g : Good L C n W X) (s : SR L X.K env h r σ H) (gs : RelDs L X.K H r ds xs) (p : Post L X.K (RV L X.K) W env σ r H Q (biF .sorted ds h)) : wCall X (.builtin "sorted") xs H Q := by
  rcases ds with _ | ⟨d, _ | ⟨d2, ds⟩⟩ <;> first | exact p.elim | skip
  obtain ⟨v, ys, rfl, g1, g2⟩ := rels1 gs
  cases rels0 g2
  unfold biF at p
  dsimp only at p
  split at p
  · rename_i zs ez
    split at p
    · rename_i hc
      unfold srtOk at hc
      obtain ⟨hc, hk⟩ := Bool.and_eq_true_iff.mp hc
      obtain ⟨hd, hal, hn⟩ := cmpOk_is hc
      obtain ⟨q, us, rfl, sq, gu⟩ := bi_seq s g1 ez
      obtain ⟨dp, _, hdep⟩ := dps_of gu hd
      have hl := gu.length
      have mem1 : ∀ b ∈ zs.zip us, b.1 ∈ zs := fun b hb => (List.of_mem_zip hb).1
      have gs' : RelDs L X.K H r (sortD zs) (((zs.zip us).mergeSort (PySem.W.dataLe false fun b => toP b.1)).map (·.2)) := by
        have e : sortD zs = ((zs.zip us).mergeSort (PySem.W.dataLe false fun b => toP b.1)).map (·.1) := by
          have m := PySem.W.sort_maps (r := PySem.W.dataLe false fun b : D × V => toP b.1) (s := PySem.W.dataLe false toP) (fun b : D × V => b.1) (l := zs.zip us) fun a _ b _ => rfl
          rw [m, List.map_fst_zip (by omega)]
          exact sortD_eq hd hal
        rw [e]
        exact rels_of fun b hb => rels_zip gu b (List.mem_mergeSort.mp hb)
      obtain ⟨hlen, q'⟩ := p.lst s gs'
      intro pins s1 σ1 ws I rw1
      cases L2.Vals.ref1 rw1
      rcases sq with sq | sq
      · obtain ⟨its, rv, pl, hz⟩ := I.list sq
        obtain ⟨as, ra⟩ := L2.Dp.readsAll I _ _ _ dp rv
        refine PySem.W.sorted_data (enc := fun b : D × V => toP b.1) (bs := zs.zip us) pl.isList (each_vals rv zs hl) (each_reads ra hl) ?_ ?_ ?_ ?_ fun out ho eo => ?_
        · intro a ha b hb
          obtain ⟨a', ha', rfl⟩ := List.mem_map.mp ha
          obtain ⟨b', hb', rfl⟩ := List.mem_map.mp hb
          exact alk_of _ _ (hal _ (mem1 _ ha') _ (mem1 _ hb'))
        · rcases Bool.or_eq_true_iff.mp hk with hk | hk
          · rw [List.all_eq_true] at hk
            refine .inl fun d hd' => ?_
            obtain ⟨b, hb, rfl⟩ := List.mem_map.mp hd'
            have := hk b.1 (mem1 b hb)
            obtain ⟨d, v⟩ := b
            dsimp only at this ⊢
            cases d <;> first | (cases this; done) | skip
            rename_i l
            cases l with
            | nil => cases this
            | cons a as => unfold toP toPs; exact ⟨_, _, rfl⟩
          · refine .inr fun d hd' => ?_
            obtain ⟨b, hb, rfl⟩ := List.mem_map.mp hd'
            have h1 := hn b.1 (mem1 b hb)
            have h2 := dats_mem hd b.1 (mem1 b hb)
            have h3 : b.1.isTt = false := by
              cases e : b.1.isTt with
              | false => rfl
              | true =>
                have : zs.any D.isTt = true := List.any_eq_true.mpr ⟨b.1, mem1 b hb, e⟩
                rw [this] at hk
                cases hk
            obtain ⟨d, v⟩ := b
            dsimp only at h1 h2 h3 ⊢
            cases d <;> first | exact absurd rfl h1 | (cases h3; done) | (unfold dat at h2; cases h2; done) | (unfold toP; exact ⟨fun z => (by cases z), fun xs z => (by cases z)⟩)
        · rw [List.length_zip, hl, Nat.min_self]; exact hz
        · intro b hb
          have := depth_le zs b.1 (mem1 b hb)
          have := g.units64
          show X.A.units + 2 + (toP b.1).depth < cLine
          omega
        · obtain ⟨ep, he'⟩ := PyProof.Rows.sortedAll_at s1.heap its out.toArray
          exact ⟨.ref (s1.heap.objs.size + 1), upd H (s1.heap.objs.size + 1) (.lst (((zs.zip us).mergeSort (PySem.W.dataLe false fun b => toP b.1)).map (·.2))), I.laid (t' := s1.toks) (fun _ _ => PyProof.Rows.sortedAll_old) (Nat.le_succ _) ⟨hlen, out, ep, vals_each eo, he'⟩, rfl, q' _ (I.hok.fresh (Nat.le_succ _))⟩
      · obtain ⟨its, rv, pl, hz⟩ := I.tuple sq
        obtain ⟨as, ra⟩ := L2.Dp.readsAll I _ _ _ dp rv
        refine sorted_tup_data (enc := fun b : D × V => toP b.1) (bs := zs.zip us) pl (each_vals rv zs hl) (each_reads ra hl) ?_ ?_ ?_ ?_ fun out ho eo => ?_
        · intro a ha b hb
          obtain ⟨a', ha', rfl⟩ := List.mem_map.mp ha
          obtain ⟨b', hb', rfl⟩ := List.mem_map.mp hb
          exact alk_of _ _ (hal _ (mem1 _ ha') _ (mem1 _ hb'))
        · rcases Bool.or_eq_true_iff.mp hk with hk | hk
          · rw [List.all_eq_true] at hk
            refine .inl fun d hd' => ?_
            obtain ⟨b, hb, rfl⟩ := List.mem_map.mp hd'
            have := hk b.1 (mem1 b hb)
            obtain ⟨d, v⟩ := b
            dsimp only at this ⊢
            cases d <;> first | (cases this; done) | skip
            rename_i l
            cases l with
            | nil => cases this
            | cons a as => unfold toP toPs; exact ⟨_, _, rfl⟩
          · refine .inr fun d hd' => ?_
            obtain ⟨b, hb, rfl⟩ := List.mem_map.mp hd'
            have h1 := hn b.1 (mem1 b hb)
            have h2 := dats_mem hd b.1 (mem1 b hb)
            have h3 : b.1.isTt = false := by
              cases e : b.1.isTt with
              | false => rfl
              | true =>
                have : zs.any D.isTt = true := List.any_eq_true.mpr ⟨b.1, mem1 b hb, e⟩
                rw [this] at hk
                cases hk
            obtain ⟨d, v⟩ := b
            dsimp only at h1 h2 h3 ⊢
            cases d <;> first | exact absurd rfl h1 | (cases h3; done) | (unfold dat at h2; cases h2; done) | (unfold toP; exact ⟨fun z => (by cases z), fun xs z => (by cases z)⟩)
        · rw [List.length_zip, hl, Nat.min_self]; exact hz
        · intro b hb
          have := depth_le zs b.1 (mem1 b hb)
          have := g.units64
          show X.A.units + 2 + (toP b.1).depth < cLine
          omega
        · obtain ⟨ep, he'⟩ := PyProof.Rows.sortedAll_at s1.heap its out.toArray
          exact ⟨.ref (s1.heap.objs.size + 1), upd H (s1.heap.objs.size + 1) (.lst (((zs.zip us).mergeSort (PySem.W.dataLe false fun b => toP b.1)).map (·.2))), I.laid (t' := s1.toks) (fun _ _ => PyProof.Rows.sortedAll_old) (Nat.le_succ _) ⟨hlen, out, ep, vals_each eo, he'⟩, rfl, q' _ (I.hok.fresh (Nat.le_succ _))⟩
    · exact p.elim
  · exact b_sortedD g.calm s g1 p
end
end Y
set_option Elab.async false
set_option linter.all false
set_option maxRecDepth 100000
set_option maxHeartbeats 4000000
namespace Y
open PySem PySem.Spec PyProof.Rows
open L2 (V Hp upd upd_same upd_ne ne_of ne_of_none RelV Vals SqL SqT Rd Cx Inv PE PT PW PS PSs PA PG PI TE TT TS TA TG TI VK XK Ends EP)
variable {L : Lk} {C : Ctx} {n : Nat} {W : XK} {X : Cx} {pos : Pos} {pa pb pc : Expr}
/-- an expression as a test, by its value's truth -/
theorem pt_of {m : MV} (hp : PE X pa (rd L X.K W m)) (he : ∀ whole, isTrue pa X.env whole = (do let v ← whole; standAt pa.pos; holding [v] (truthy v))) : PT X pa (rdT L X.K W (fun env h => (m env h).bind truR)) :=
  (L2.pt_truth hp he).imp fun σ H Q ⟨env, h, r, s, p⟩ => by
    refine ⟨env, h, r, s, (Post.bind (R := RV L X.K) p).mono fun x H1 ⟨dx, h1, r1, a1, p1⟩ => ?_⟩
    unfold truR at p1
    split at p1
    · rename_i b eb
      exact ⟨b, tru_of a1.s a1.rel eb, p1.hereB a1.s rfl⟩
    · exact p1.elim
/-- a test that is a comparison -/
theorem pt_bool {m : MV} {t : TE} (hp : PT X pa (L2.tTest t)) (ht : ∀ σ H Q, rd L X.K W m σ H Q → t σ H Q) (hb : ∀ env h, ∀ d h', m env h = .ok d h' → ∃ b, d = .bl b) : PT X pa (rdT L X.K W (fun env h => (m env h).bind truR)) :=
  hp.imp fun σ H Q ⟨env, h, r, s, p⟩ => ht σ H _ ⟨env, h, r, s, by
    have hb := hb env h
    have p : Post L X.K RB W env σ r H Q ((m env h).bind truR) := p
    cases e : m env h with
    | ok d h' =>
      obtain ⟨b, rfl⟩ := hb d h' e
      rw [e] at p
      exact fun v H' r' p1 k s' g => by
        cases rel_bl g
        exact ⟨b, rfl, p _ H' r' p1 k s' rfl⟩
    | exc c ds h' => rw [e] at p; exact p
    | err => rw [e] at p; exact p⟩
theorem pt_notY {ta : MT} (ha : PT X pa (rdT L X.K W ta)) : PT X (.UnaryOp .Not pa pos) (rdT L X.K W (tNot ta)) :=
  (L2.pt_not ha).imp fun σ H Q ⟨env, h, r, s, p⟩ => ⟨env, h, r, s, (Post.bind (R := RB) p).mono fun x H1 ⟨b, h1, r1, a1, p1⟩ => by
    cases a1.rel
    exact p1.hereB a1.s rfl⟩
theorem pw_andY {ta tb : MT} {rest : List Expr} (ha : PT X pa (rdT L X.K W ta)) (hb : PW X (.BoolOp .And (pb :: rest) pos) (rdT L X.K W tb)) : PW X (.BoolOp .And (pa :: pb :: rest) pos) (rdT L X.K W (tAnd ta tb)) :=
  (L2.pw_and ha hb).imp fun σ H Q ⟨env, h, r, s, p⟩ => ⟨env, h, r, s, (Post.bind (R := RB) p).mono fun x H1 ⟨b, h1, r1, a1, p1⟩ => by
    cases a1.rel
    cases x with
    | true => exact ⟨env, h1, r1, a1.s, p1⟩
    | false => exact p1.hereB a1.s rfl⟩
theorem pw_orY {ta tb : MT} {rest : List Expr} (ha : PT X pa (rdT L X.K W ta)) (hb : PW X (.BoolOp .Or (pb :: rest) pos) (rdT L X.K W tb)) : PW X (.BoolOp .Or (pa :: pb :: rest) pos) (rdT L X.K W (tOr ta tb)) :=
  (L2.pw_or ha hb).imp fun σ H Q ⟨env, h, r, s, p⟩ => ⟨env, h, r, s, (Post.bind (R := RB) p).mono fun x H1 ⟨b, h1, r1, a1, p1⟩ => by
    cases a1.rel
    cases x with
    | false => exact ⟨env, h1, r1, a1.s, p1⟩
    | true => exact p1.hereB a1.s rfl⟩
theorem pe_notY {a : MV} (ha : PE X pa (rd L X.K W a)) : PE X (.UnaryOp .Not pa pos) (rd L X.K W (cUn notF a)) :=
  (L2.pe_notT ha).imp fun σ H Q ⟨env, h, r, s, p⟩ => ⟨env, h, r, s, (Post.bind (R := RV L X.K) p).mono fun x H1 ⟨dx, h1, r1, a1, p1⟩ => by
    unfold notF at p1
    split at p1
    · rename_i b eb
      exact ⟨b, tru_of a1.s a1.rel eb, p1.here a1.s mk_bl⟩
    · exact p1.elim⟩
theorem pe_andY {a b : MV} {rest : List Expr} (ha : PE X pa (rd L X.K W a)) (hb : PE X (.BoolOp .And (pb :: rest) pos) (rd L X.K W b)) : PE X (.BoolOp .And (pa :: pb :: rest) pos) (rd L X.K W (cAnd a b)) :=
  (L2.pe_andT ha hb).imp fun σ H Q ⟨env, h, r, s, p⟩ => ⟨env, h, r, s, (Post.bind (R := RV L X.K) p).mono fun x H1 ⟨dx, h1, r1, a1, p1⟩ => by
    split at p1
    · rename_i eb
      exact ⟨true, tru_of a1.s a1.rel eb, by rw [if_pos rfl]; exact ⟨env, h1, r1, a1.s, p1⟩⟩
    · rename_i eb
      exact ⟨false, tru_of a1.s a1.rel eb, by rw [if_neg Bool.false_ne_true]; exact p1.here a1.s a1.rel⟩
    · exact p1.elim⟩
theorem pe_orY {a b : MV} {rest : List Expr} (ha : PE X pa (rd L X.K W a)) (hb : PE X (.BoolOp .Or (pb :: rest) pos) (rd L X.K W b)) : PE X (.BoolOp .Or (pa :: pb :: rest) pos) (rd L X.K W (cOr a b)) :=
  (L2.pe_orT ha hb).imp fun σ H Q ⟨env, h, r, s, p⟩ => ⟨env, h, r, s, (Post.bind (R := RV L X.K) p).mono fun x H1 ⟨dx, h1, r1, a1, p1⟩ => by
    split at p1
    · rename_i eb
      exact ⟨true, tru_of a1.s a1.rel eb, by rw [if_pos rfl]; exact p1.here a1.s a1.rel⟩
    · rename_i eb
      exact ⟨false, tru_of a1.s a1.rel eb, by rw [if_neg Bool.false_ne_true]; exact ⟨env, h1, r1, a1.s, p1⟩⟩
    · exact p1.elim⟩
theorem pe_ifY {t : MT} {a b : MV} (ht : PT X pc (rdT L X.K W t)) (ha : PE X pa (rd L X.K W a)) (hb : PE X pb (rd L X.K W b)) : PE X (.IfExp pc pa pb pos) (rd L X.K W (cIf t a b)) :=
  (L2.pe_ifExp ht ha hb).imp fun σ H Q ⟨env, h, r, s, p⟩ => ⟨env, h, r, s, (Post.bind (R := RB) p).mono fun x H1 ⟨d, h1, r1, a1, p1⟩ => by
    cases a1.rel
    cases x with
    | true => exact ⟨env, h1, r1, a1.s, p1⟩
    | false => exact ⟨env, h1, r1, a1.s, p1⟩⟩
theorem cmpF_ok {op : CmpOp} {env : Env} {h : Heap} {r : List Addr} {σ : Sg} {H : Hp} {Q : VK} {dx dy : D} {x y : V} (g : Good L C n W X) (s : SR L X.K env h r σ H) (gx : RelD L X.K H r dx x) (gy : RelD L X.K H r dy y)
    (p : Post L X.K (RV L X.K) W env σ r H Q (cmpF op dx dy h)) : wOp X (compareOp op) x y H Q := by
  unfold cmpF optR at p
  cases e : cmpop op dx dy h with
  | none => rw [e] at p; exact p.elim
  | some k => rw [e] at p; exact cmp_ok g s gx gy e (p.here s mk_bl)
theorem bind_ok {α β : Type} {x : Res α} {f : α → Heap → Res β} {d : β} {h' : Heap} (e : x.bind f = .ok d h') : ∃ a h1, x = .ok a h1 ∧ f a h1 = .ok d h' := by
  cases x with
  | ok a h1 => exact ⟨a, h1, rfl, e⟩
  | exc c ds h => cases e
  | err => cases e
theorem cmpF_bool {op : CmpOp} {x y d : D} {h h' : Heap} (e : cmpF op x y h = .ok d h') : ∃ k, d = .bl k := by
  unfold cmpF optR at e
  cases e1 : cmpop op x y h with
  | none => rw [e1] at e; cases e
  | some k => rw [e1] at e; cases e; exact ⟨k, rfl⟩
theorem cmp_bool {op : CmpOp} {a b : MV} : ∀ env h, ∀ d h', cOp (cmpF op) a b env h = .ok d h' → ∃ k, d = .bl k := by
  intro env h d h' e
  obtain ⟨x, h1, _, e⟩ := bind_ok e
  obtain ⟨y, h2, _, e⟩ := bind_ok e
  exact cmpF_bool e
theorem chain_of {o1 o2 : CmpOp} {a b c : MV} (g : Good L C n W X) (σ : Sg) (H : Hp) (Q : VK) (q : rd L X.K W (cChain o1 o2 a b c) σ H Q) : L2.tChain (wOp X (compareOp o1)) (wOp X (compareOp o2)) (rd L X.K W a) (rd L X.K W b) (rd L X.K W c) σ H Q := by
  obtain ⟨env, h, r, s, p⟩ := q
  refine ⟨env, h, r, s, (Post.bind (R := RV L X.K) p).mono fun x H1 ⟨dx, h1, r1, a1, p1⟩ => ?_⟩
  refine ⟨env, h1, r1, a1.s, (Post.bind (R := RV L X.K) p1).mono fun y H2 ⟨dy, h2, r2, a2, p2⟩ => ?_⟩
  have gx := a1.rel.mono a2.k a2.pr
  split at p2
  · rename_i e
    refine cmp_ok g a2.s gx a2.rel e ⟨true, rfl, ?_⟩
    rw [if_pos rfl]
    refine ⟨env, h2, r2, a2.s, (Post.bind (R := RV L X.K) p2).mono fun z H3 ⟨dz, h3, r3, a3, p3⟩ => ?_⟩
    exact cmpF_ok g a3.s (a2.rel.mono a3.k a3.pr) a3.rel p3
  · rename_i e
    refine cmp_ok g a2.s gx a2.rel e ⟨false, rfl, ?_⟩
    rw [if_neg Bool.false_ne_true]
    exact p2.here a2.s mk_bl
  · exact p2.elim
theorem chain_bool {o1 o2 : CmpOp} {a b c : MV} : ∀ env h, ∀ d h', cChain o1 o2 a b c env h = .ok d h' → ∃ k, d = .bl k := by
  intro env h d h' e
  obtain ⟨x, h1, _, e⟩ := bind_ok e
  obtain ⟨y, h2, _, e⟩ := bind_ok e
  split at e
  · obtain ⟨z, h3, _, e⟩ := bind_ok e
    exact cmpF_bool e
  · cases e; exact ⟨false, rfl⟩
  · cases e
end Y
set_option Elab.async false
set_option linter.all false
set_option maxRecDepth 100000
set_option maxHeartbeats 4000000
namespace Y
open PySem PySem.Spec PyProof.Rows
open L2 (V Hp upd upd_same upd_ne ne_of ne_of_none RelV Vals SqL SqT Rd Cx Inv PE PT PW PS PSs PA PG PI TE TT TS TA TG TI VK XK Ends EP)
section
variable {L : Lk} {C : Ctx} {n : Nat} {W : XK} {X : Cx} {H : Hp} {r : List Addr} {h : Heap} {env : Env} {σ : Sg} {Q : VK} {x y : V} {dx dy : D} {ds : List D} {xs : List V} {pos p0 apos : Pos} {pe po : Expr} {pes : List Expr} {as : ML} {o : MV} {k c m f : Nat} {z : Str}
theorem sp_of (g : Good L C n W X) (s : SR L X.K env h r σ H) (gs : RelDs L X.K H r ds xs) (p : Post L X.K (RV L X.K) W env σ r H Q (C.call C.base k ds h)) : spF L X.K C.call k xs H Q W := by
  refine ⟨C.base, h, r, ds, s.hr, gs, ?_, ?_⟩
  · rcases g.clen C.base k ds h with e | e
    · rw [e] at p; exact p.elim
    · rw [← gs.length]; exact e
  · cases e : C.call C.base k ds h with
    | ok d h' => rw [e] at p; exact fun v H' r' a b c e => p v H' r' a b (s.mk' c b a) e
    | exc c ds h' => rw [e] at p; exact p
    | err => rw [e] at p; exact p
theorem pass_of (g : Good L C n W X) : L2.Passes (L2.CX X.prog X.w) X W := L2.passes_call g.tk fun _ _ _ _ w => w
theorem room_of (g : Good L C n W X) : L2.Room (lvl n) X.A := g.room.mono (Nat.le_succ _)
theorem callY (g : Good L C n W X) (hk : L.nm.fn[k]? = some z) (hz : z ≠ Str.empty) (hg : L2.Gl X z) (hd : (z == ("__debug__" : Str)) = false) (ha : PA X pes (rdA L X.K W as)) (hn : pes = [] → as = cArgs [])
    (he : ∀ e es, pes = e :: es → starEach (e :: es) X.env = (false, eval e X.env) :: starEach es X.env ∧ (backTo pos (starEach es X.env)).any (·.1) = false) :
    PE X (.Call (.Name z p0) pes [] pos) (rd L X.K W (cApp as fun ds _ h => C.call C.base k ds h)) := by
  obtain ⟨hm, hkeep⟩ := g.link.fnG k z hk hz
  have hb := g.link.fnK k z hk
  have F := g.fns k z hk
  cases pes with
  | nil =>
    cases hn rfl
    exact (L2.pe_call0 F (room_of g) hg hm hkeep hb .nil (pass_of g) hd).imp fun σ H Q ⟨env, h, r, s, p⟩ => sp_of g s .nil p
  | cons e es =>
    obtain ⟨h1, h2⟩ := he e es rfl
    exact (L2.pe_call F (room_of g) hg hm hkeep hb .nil (pass_of g) ha hd h1 h2).imp fun σ H Q q =>
      to_tA (T := fun xs H1 Q => spF L X.K C.call k (xs ++ []) H1 Q W) (k := fun ds _ h => C.call C.base k ds h) (fun _ _ => rfl) (fun env hh r σ H Q ds xs s gs p => by rw [List.append_nil]; exact sp_of g s gs p) σ H Q q
/-- C.m(e, ..), C a class, m a def of its -/
theorem clsY {pl : Sem Bool} {zm : Str} {xp : Pos} (g : Good L C n W X) (hk : (z, zm, k) ∈ L.nm.ck) (hg : L2.Gl X z) (hd : (z == ("__debug__" : Str)) = false) (ha : PA X pes (rdA L X.K W as)) (hn : pes = [] → as = cArgs [])
    (he : ∀ e es, pes = e :: es → starEach (e :: es) X.env = (false, eval e X.env) :: starEach es X.env ∧ (backTo pos (starEach es X.env)).any (·.1) = false)
    (ht : eval (.Call (.Attribute (.Name z xp) zm apos) pes [] pos) X.env = (do
      let ov ← eval (.Name z xp) X.env
      standAt apos.atName
      let (f, first) ← holding [ov] (getMethod ov zm pl)
      callWith pos f first (backTo pos (starEach pes X.env)) (backToKw pos (keywordEach [] X.env)))) :
    PE X (.Call (.Attribute (.Name z xp) zm apos) pes [] pos) (rd L X.K W (cApp as fun ds _ h => C.call C.base k ds h)) := by
  obtain ⟨Cc, hm, hr, hf, hkeep, y, hy⟩ := g.link.ckK z zm k hk
  have hb := g.link.fnK k y hy
  have F := g.fns k y hy
  refine ⟨fun pins s σ H Q I ⟨env, h, r, sr, p⟩ => ?_⟩
  refine PySem.W.methodCall_KW (pl := pl) (L2.ld_glob I hg hm ?_ hd) ht
  refine PySem.W.method_cls I.kIn hr.ga (PySem.W.cls_value I.kIn hr.rd hf (L2.handed_of (v := .ref (L.fa k)) rfl) ?_)
  have I1 := I.tok (s.toks + 1)
  cases pes with
  | nil =>
    cases hn rfl
    exact PySem.W.callWith_K0 (first := []) I1.kIn hkeep (L2.run_fn (us := []) (vs := []) (dvs := []) F (room_of g) hb .nil (pass_of g) I1 .nil (sp_of g sr .nil p))
  | cons e es =>
    obtain ⟨h2, h3⟩ := he e es rfl
    refine PySem.W.callWith_K (first := []) (h₀ := X.base) I1.ok.mod.kin hkeep (L2.thn (ha.run pos pins _ σ H _ I1 ⟨env, h, r, sr, Post.bind (R := RVs L X.K) p⟩) fun us s2 ⟨vs, H2, I2, rv, ds, h4, r4, a4, p4⟩ => ⟨I2.kIn, ?_⟩) h2 h3
    exact L2.run_fn (us := us) (vs := vs) (dvs := []) F (room_of g) hb .nil (pass_of g) I2 rv (by
      rw [List.append_nil]
      exact sp_of g a4.s a4.rel p4)
/-- f(e, ..), f a slot -/
theorem callsY (g : Good L C n W X) {i : Nat} {e : Expr} {es : List Expr} (hN : X.N[i]? = some z) (hv : visB X.env.scope z = true) (ha : PA X (e :: es) (rdA L X.K W as))
    (h1 : starEach (e :: es) X.env = (false, eval e X.env) :: starEach es X.env) (h2 : (backTo pos (starEach es X.env)).any (·.1) = false) :
    PE X (.Call (.Name z p0) (e :: es) [] pos) (rd L X.K W (cCalls C i as)) := by
  obtain ⟨v1, v2, v3⟩ := vis_of hv
  refine ⟨fun pins s σ H Q I ⟨env, h, r, sr, p⟩ => ?_⟩
  unfold cCalls at p
  split at p
  · rename_i k he
    obtain ⟨v, ev, gv⟩ := sr.er i _ he
    unfold RelD at gv
    obtain ⟨rfl, x, hk, hx⟩ := gv
    have hkeep := (g.link.fnG k x hk hx).2
    refine (L2.pe_callL (i := i) (g.fns k x hk) (room_of g) hN v1 hkeep (g.link.fnK k x hk) .nil (pass_of g) ha v2 v3 h1 h2).run pins s σ H Q I ⟨ev, ?_⟩
    exact to_tA (T := fun xs H1 Q => spF L X.K C.call k (xs ++ []) H1 Q W) (k := fun ds _ h => C.call C.base k ds h) (fun _ _ => rfl) (fun env hh r σ H Q ds xs s gs p => by rw [List.append_nil]; exact sp_of g s gs p) σ H Q ⟨env, h, r, sr, p⟩
  · rename_i k cs he
    obtain ⟨v, ev, gv⟩ := sr.er i _ he
    unfold RelD at gv
    exact gv.elim
  · exact p.elim
theorem new_ok (g : Good L C n W X) (ho : L.own c = true) (s : SR L X.K env h r σ H) (gs : RelDs L X.K H r ds xs) (hi : C.P.init c = some k)
    (p : Post L X.K (RV L X.K) W env σ r H Q (newF C c ds h)) (a dx : Addr) (ha : H a = none) (hdx : H dx = none) (hne : dx ≠ a) :
    spF L X.K C.call k (.ref a :: xs) (upd (upd H dx (.own a)) a (.ins (L.ca c) dx [])) (fun v H2 => v = .non ∧ Q (.ref a) H2) W := by
  have ha1 : upd H dx (.own a) a = none := by rw [upd_ne (Ne.symm hne)]; exact ha
  have s1 : SR L X.K env h r σ (upd H dx (.own a)) := s.new hdx
  have s2 : SR L X.K env (h ++ [.ins c []]) (r ++ [a]) σ (upd (upd H dx (.own a)) a (.ins (L.ca c) dx [])) := s1.push ha1 ⟨ho, dx, [], upd_same, by unfold RelF; rfl⟩
  have kk : Keep H (upd (upd H dx (.own a)) a (.ins (L.ca c) dx [])) := (Keep.new hdx).trans (Keep.new ha1)
  have hp : (r ++ [a])[h.length]? = some a := by
    rw [← s.hr.len, List.getElem?_append_right (Nat.le_refl _), Nat.sub_self]
    rfl
  have ra : ∀ {H' r'}, r ++ [a] <+: r' → RelD L X.K H' r' (.ref h.length) (.ref a) := fun {H' r'} pr => by
    unfold RelD
    obtain ⟨t, rfl⟩ := pr
    refine ⟨a, rfl, ?_⟩
    rw [List.getElem?_append_left (by rw [List.length_append, s.hr.len]; simp)]
    exact hp
  refine sp_of g s2 (.cons (ra (List.prefix_refl _)) (gs.mono kk (List.prefix_append r [a]))) ?_
  unfold newF at p
  rw [hi] at p
  dsimp only at p
  cases e : C.call C.base k (.ref h.length :: ds) (h ++ [.ins c []]) with
  | err => rw [e] at p; exact p.elim
  | exc c' ds' h' =>
    rw [e] at p
    exact fun x H' r' pr kp s' g' => p x H' r' ((List.prefix_append r [a]).trans pr) (kk.trans kp) s' g'
  | ok d h' =>
    rw [e] at p
    intro v H' r' pr kp s' g'
    cases d with
    | non =>
      have gv : v = .non := by unfold RelD at g'; exact g'
      subst gv
      exact ⟨rfl, p (.ref a) H' r' ((List.prefix_append r [a]).trans pr) (kk.trans kp) (s'.mk' s'.hr (Keep.refl _) (List.prefix_refl _)) (ra pr)⟩
    | _ => exact p.elim
theorem newY (g : Good L C n W X) (hk : L.nm.cl[c]? = some z) (hz : z ≠ Str.empty) (hg : L2.Gl X z) (hd : (z == ("__debug__" : Str)) = false) (ha : PA X pes (rdA L X.K W as)) (hn : pes = [] → as = cArgs [])
    (he : ∀ e es, pes = e :: es → starEach (e :: es) X.env = (false, eval e X.env) :: starEach es X.env ∧ (backTo pos (starEach es X.env)).any (·.1) = false) :
    PE X (.Call (.Name z p0) pes [] pos) (rd L X.K W (cApp as fun ds _ h => newF C c ds h)) := by
  obtain ⟨hm, k, hi⟩ := g.link.clG c z hk hz
  obtain ⟨ho, M, y, hy⟩ := g.link.clK c k hi
  have hb := g.link.fnK k y hy
  have F := g.fns k y hy
  cases pes with
  | nil =>
    cases hn rfl
    exact (L2.pe_make0 M F g.room hg hm hb .nil (pass_of g) hd).imp fun σ H Q ⟨env, h, r, s, p⟩ => fun a dx h1 h2 h3 => new_ok g ho s .nil hi p a dx h1 h2 h3
  | cons e es =>
    obtain ⟨h1, h2⟩ := he e es rfl
    refine (L2.pe_make M F g.room hg hm hb .nil (pass_of g) ha hd h1 h2).imp fun σ H Q q =>
      to_tA (T := fun xs H1 Q => ∀ x dx, H1 x = none → H1 dx = none → dx ≠ x → spF L X.K C.call k (.ref x :: (xs ++ [])) (upd (upd H1 dx (.own x)) x (.ins (L.ca c) dx [])) (fun v H2 => v = .non ∧ Q (.ref x) H2) W)
        (k := fun ds _ h => newF C c ds h) (fun _ _ => rfl) (fun env hh r σ H Q ds xs s gs p a dx h1 h2 h3 => ?_) σ H Q q
    rw [List.append_nil]
    exact new_ok g ho s gs hi p a dx h1 h2 h3
theorem look_fld (hl : Link L C.P X.prog X.w X.K X.mg X.base) (hf : L.nm.an[f]? = some z) : ∀ {fs : List (Nat × D)} {ks : List (Str × V)}, RelF (L := L) (K := X.K) H r fs ks → ∀ d, getF f fs = some d → ∃ v, ks.lookup z = some v ∧ RelD L X.K H r d v
  | [], ks, g, d, e => by unfold getF at e; cases e
  | (b, d0) :: fs, ks, g, d, e => by
    unfold RelF at g
    obtain ⟨v, t, rfl, g1, g2⟩ := g
    unfold getF at e
    split at e
    · rename_i hb
      subst hb
      cases e
      refine ⟨v, ?_, g1⟩
      rw [List.getD_eq_getElem?_getD, hf]
      simp
    · rename_i hb
      obtain ⟨w, h1, h2⟩ := look_fld hl hf g2 d e
      refine ⟨w, ?_, h2⟩
      have hne : (z == L.nm.an.getD b Str.empty) = false := by
        cases hz : z == L.nm.an.getD b Str.empty with
        | false => rfl
        | true => exact absurd (hl.anI f b z hf (eq_of_beq hz).symm) (fun e => hb e.symm)
      rw [List.lookup_cons, hne]
      exact h1
theorem ins_of {a : Nat} {fs : List (Nat × D)} (s : SR L X.K env h r σ H) (gx : RelD L X.K H r (.ref a) x) (e : h[a]? = some (.ins c fs)) : ∃ p dx ks, x = .ref p ∧ r[a]? = some p ∧ L.own c = true ∧ H p = some (.ins (L.ca c) dx ks) ∧ RelF (L := L) (K := X.K) H r fs ks := by
  unfold RelD at gx
  obtain ⟨p, e1, e2⟩ := gx
  obtain ⟨ho, dx, ks, h1, h2⟩ := s.hr.at_ a _ p e e2
  exact ⟨p, dx, ks, e1, e2, ho, h1, h2⟩
theorem attrY (g : Good L C n W X) (hf : L.nm.an[f]? = some z) (ho : PE X po (rd L X.K W o)) (hb : attributeBase po z X.env (eval po X.env) = eval po X.env) : PE X (.Attribute po z pos) (rd L X.K W (cUn (attrF f) o)) :=
  (L2.pe_fld ho hb).imp fun σ H Q ⟨env, h, r, s, p⟩ => ⟨env, h, r, s, (Post.bind (R := RV L X.K) p).mono fun x H1 ⟨dx, h1, r1, a1, p1⟩ => by
    unfold attrF at p1
    split at p1
    · rename_i a
      split at p1
      · rename_i c fs ea
        unfold optR at p1
        split at p1
        · rename_i d ed
          obtain ⟨q, dd, ks, rfl, _, hw, hq, gf⟩ := ins_of a1.s a1.rel ea
          obtain ⟨v, h2, h3⟩ := look_fld g.link hf gf d ed
          exact ⟨q, _, dd, ks, v, rfl, hq, g.link.clC _ hw, g.link.fdK _ f z hw hf, h2, p1.here a1.s h3⟩
        · exact p1.elim
      · exact p1.elim
    · exact p1.elim⟩
theorem no_meth (hl : Link L C.P X.prog X.w X.K X.mg X.base) (hm : L.nm.mn[m]? = some z) : ∀ {fs : List (Nat × D)} {ks : List (Str × V)}, RelF (L := L) (K := X.K) H r fs ks → ks.lookup z = none
  | [], ks, g => by unfold RelF at g; subst g; rfl
  | (b, d0) :: fs, ks, g => by
    unfold RelF at g
    obtain ⟨v, t, rfl, g1, g2⟩ := g
    have hne : (z == L.nm.an.getD b Str.empty) = false := by
      cases hz : z == L.nm.an.getD b Str.empty with
      | false => rfl
      | true => exact absurd (eq_of_beq hz).symm (hl.anM m z hm b)
    rw [List.lookup_cons, hne]
    exact no_meth hl hm g2
theorem methY {pl : Sem Bool} (g : Good L C n W X) (hm : L.nm.mn[m]? = some z) (ho : PE X po (rd L X.K W o)) (ha : PA X pes (rdA L X.K W as)) (hn : pes = [] → as = cArgs [])
    (he : ∀ e es, pes = e :: es → starEach (e :: es) X.env = (false, eval e X.env) :: starEach es X.env ∧ (backTo pos (starEach es X.env)).any (·.1) = false)
    (ht : eval (.Call (.Attribute po z apos) pes [] pos) X.env = (do
      let ov ← eval po X.env
      standAt apos.atName
      let (f, first) ← holding [ov] (getMethod ov z pl)
      callWith pos f first (backTo pos (starEach pes X.env)) (backToKw pos (keywordEach [] X.env)))) :
    PE X (.Call (.Attribute po z apos) pes [] pos) (rd L X.K W (cMeth C m o as)) := by
  refine ⟨fun pins s σ H Q I ⟨env, h, r, sr, p⟩ => ?_⟩
  refine PySem.W.methodCall_KW (pl := pl) (L2.thn (ho.run pins s σ H _ I ⟨env, h, r, sr, Post.bind (R := RV L X.K) p⟩) fun u s1 ⟨x, H1, I1, rx, dx, h1, r1, a1, p1⟩ => ?_) ht
  split at p1
  · rename_i a
    split at p1
    · rename_i c fs ea
      split at p1
      · rename_i k ek
        obtain ⟨q, dd, ks, rfl, _, hw, hq, gf⟩ := ins_of a1.s a1.rel ea
        obtain ⟨M, y, hy⟩ := g.link.mtK c m k z ek hm
        obtain rfl : u = Value.ref q := rx
        refine L2.getmeth_ok I1 hq (g.link.clC _ hw) M (no_meth g.link hm gf) ?_
        cases pes with
        | nil =>
          cases hn rfl
          exact PySem.W.callWith_K0 (first := [.ref q]) I1.kIn M.kp (L2.run_fn (us := [.ref q]) (vs := [.ref q]) (dvs := []) (g.fns k y hy) (room_of g) (g.link.fnK k y hy) .nil (pass_of g) I1 (.cons rfl .nil) (by
            exact sp_of g a1.s (.cons a1.rel .nil) p1))
        | cons e es =>
          obtain ⟨h2, h3⟩ := he e es rfl
          refine PySem.W.callWith_K (first := [.ref q]) (h₀ := X.base) I1.ok.mod.kin M.kp (L2.thn (ha.run pos pins s1 σ H1 _ I1 ⟨env, h1, r1, a1.s, Post.bind (R := RVs L X.K) p1⟩) fun us s2 ⟨vs, H2, I2, rv, ds, h4, r4, a4, p4⟩ => ⟨I2.kIn, ?_⟩) h2 h3
          exact L2.run_fn (us := .ref q :: us) (vs := .ref q :: vs) (dvs := []) (g.fns k y hy) (room_of g) (g.link.fnK k y hy) .nil (pass_of g) I2 (.cons rfl rv) (by
            rw [List.append_nil]
            exact sp_of g a4.s (.cons (a1.rel.mono a4.k a4.pr) a4.rel) p4)
      · exact p1.elim
    · exact p1.elim
  · exact p1.elim
end
end Y
set_option Elab.async false
set_option linter.all false
set_option maxRecDepth 100000
set_option maxHeartbeats 4000000
namespace Y
open PySem PySem.Spec PyProof.Rows
open L2 (V Hp upd upd_same upd_ne ne_of ne_of_none RelV Vals SqL SqT Rd Cx Inv PE PT PW PS PSs PA PG PI TE TT TS TA TG TI VK XK Ends EP)
section
variable {L : Lk} {C : Ctx} {n : Nat} {W : XK} {X : Cx} {H : Hp} {r : List Addr} {h : Heap} {env : Env} {σ : Sg} {Q : VK} {x y : V} {dx dy : D} {ds : List D} {xs : List V} {pos p0 apos : Pos} {pe po : Expr} {pes : List Expr} {as : ML} {o : MV} {k c m f : Nat} {z : Str}
def tyS : Ty → String
  | .int => "int" | .bool => "bool" | .str => "str" | .list => "list" | .tuple => "tuple"
def tyS0 (h : Heap) : D → String
  | .non => "NoneType" | .bl _ => "bool" | .int _ => "int" | .str _ => "str" | .tup _ => "tuple"
  | .ref a => (match h.at a with | some (.lst _) => "list" | _ => "dict")
  | _ => ""
theorem tyx_of (s : SR L X.K env h r σ H) (gx : RelD L X.K H r dx x) (e : tyd h dx = true) : L2.TyX X.K H x (.type (tyS0 h dx)) := by
  cases dx with
  | non => have : x = .non := by unfold RelD at gx; exact gx
           subst this; exact .base .non
  | bl b => cases rel_bl gx; exact .base (.bl _)
  | int i => cases rel_int gx; exact .base (.int _)
  | str a => obtain ⟨rfl, _⟩ := rel_str gx; exact .base (.str _)
  | tup ds =>
    obtain ⟨p, xs, rfl, sq, _⟩ := rel_tup gx
    rcases sq with (sq | ⟨ob, sq⟩) | ⟨ob, its, nn, h1, h2, _⟩
    · exact .base (.tup sq)
    · exact .fTuple sq
    · exact .kTuple h1 h2
  | ref a =>
    unfold tyd Heap.at at e
    unfold tyS0 Heap.at
    dsimp only at e ⊢
    cases ea : h[a]? with
    | none => rw [ea] at e; cases e
    | some u =>
      rw [ea] at e
      cases u with
      | lst ds =>
        obtain ⟨q, us, rfl, _, hp, gs⟩ := rel_lst s gx ea
        exact .base (.lst hp)
      | dic kvs =>
        obtain ⟨q, ks, rfl, _, hp, gk⟩ := rel_dic s gx ea
        exact .base (.dK hp)
      | st ks => cases e
      | ins c fs => cases e
  | fn k => cases e
  | clo k cs => cases e
  | frz k => cases e
theorem kit_one (h : Heap) (dx : D) (e : tyd h dx = true) (t : Ty) : L2.kitB (tyS0 h dx) (tyS t) = some (tyIs h dx t) := by
  have tab : ∀ a ∈ (["NoneType", "bool", "int", "str", "tuple", "list", "dict"] : List String), ∀ t : Ty, L2.kitB a (tyS t) = some (match a, t with
      | "bool", .bool => true | "bool", .int => true | "int", .int => true | "str", .str => true | "tuple", .tuple => true | "list", .list => true | _, _ => false) := by
    intro a ha t
    cases t <;> (revert a; decide +kernel)
  cases dx with
  | ref a =>
    unfold tyd Heap.at at e
    unfold tyS0 tyIs Heap.at
    dsimp only at e ⊢
    cases ea : h[a]? with
    | none => rw [ea] at e; cases e
    | some u =>
      rw [ea] at e
      cases u <;> first | (cases e; done) | skip
      · exact (tab "list" (by decide) t).trans (by cases t <;> first | rfl | (dsimp only; rw [ea]; rfl))
      · exact (tab "dict" (by decide) t).trans (by cases t <;> first | rfl | (dsimp only; rw [ea]; rfl))
  | fn k => cases e
  | clo k cs => cases e
  | frz k => cases e
  | non => exact (tab "NoneType" (by decide) t).trans (by cases t <;> rfl)
  | bl b => exact (tab "bool" (by decide) t).trans (by cases t <;> rfl)
  | int b => exact (tab "int" (by decide) t).trans (by cases t <;> rfl)
  | str b => exact (tab "str" (by decide) t).trans (by cases t <;> rfl)
  | tup b => exact (tab "tuple" (by decide) t).trans (by cases t <;> rfl)
theorem tyN_S (t : Ty) : bootBuiltins (tyN t) = some (.type (tyS t)) := by cases t <;> decide +kernel
theorem tyN_blt (t : Ty) : tyN t ∈ blts := by cases t <;> decide +kernel
theorem boot_isi : bootBuiltins "isinstance" = some (.builtin "isinstance") := by decide +kernel
theorem pe_tyY (g : Good L C n W X) {t : Ty} (hg : glB X.env.scope (tyN t) = true) : PE X (.Name (tyN t) p0) (L2.tC (.ty (tyS t))) := by
  obtain ⟨h1, h2, h3⟩ := gl_of hg
  exact L2.pe_bltn h1 (g.link.bG _ (tyN_blt t)) (tyN_S t) rfl h3 h2
theorem isi_oneY (g : Good L C n W X) {t : Ty} (hi : glB X.env.scope "isinstance" = true) (hg : glB X.env.scope (tyN t) = true) (ha : PE X pe (rd L X.K W o)) (h1 : starEach [pe, .Name (tyN t) p0] X.env = (false, eval pe X.env) :: starEach [.Name (tyN t) p0] X.env) :
    PE X (.Call (.Name "isinstance" apos) [pe, .Name (tyN t) p0] [] pos) (rd L X.K W (cUn (isiF [t]) o)) := by
  obtain ⟨g1, g2, g3⟩ := gl_of hi
  refine (L2.pe_callB L2.call_isi g1 (g.link.bG _ (by decide +kernel)) boot_isi (L2.pa_cons ha (L2.pa_cons (pe_tyY g hg) L2.pa_nil rfl) h1) g3 g2 h1 rfl).imp fun σ H Q q => ?_
  refine to_tUn (rr := fun x H1 Q => L2.rIsi X.K [x, .ty (tyS t)] H1 Q) (k := isiF [t]) (fun _ _ => rfl) (fun env h r σ H Q dx x s gx p => ?_) σ H Q q
  unfold isiF at p
  split at p
  · rename_i hd
    refine ⟨x, _, _, _, tyIs h dx t, rfl, .ty _, tyx_of s gx hd, L2.kit_ty (kit_one h dx hd t), ?_⟩
    have e : (List.any [t] fun t => tyIs h dx t) = tyIs h dx t := by simp
    rw [e] at p
    exact p.here s mk_bl
  · exact p.elim
theorem pa_tysY (g : Good L C n W X) : ∀ {ts : List Ty} {es : List Expr}, tyNames X.env.scope ts es = true → PA X es (fun σ H Q => Q (ts.map fun t => V.ty (tyS t)) H)
  | [], [], _ => L2.pa_nil
  | [], _ :: _, h => by unfold tyNames at h; cases h
  | t :: ts, [], h => by unfold tyNames at h; cases h
  | t :: ts, e :: es, h => by
    cases e <;> first | (exfalso; unfold tyNames at h; cases h; done) | skip
    unfold tyNames at h
    simp only [Bool.and_eq_true, decide_eq_true_eq] at h
    obtain ⟨⟨h1, rfl⟩, h2⟩ := h
    exact L2.pa_cons (pe_tyY g h1) (pa_tysY g h2) rfl
theorem kit_any (h : Heap) (dx : D) (e : tyd h dx = true) {K : PySem.W.Frag} : ∀ ts : List Ty, PySem.W.kitAny K (.type (tyS0 h dx)) (ts.map fun t => Value.type (tyS t)) = some (ts.any fun t => tyIs h dx t)
  | [] => rfl
  | t :: ts => by
    rw [List.map_cons, List.any_cons]
    refine L2.kitAny_cons (L2.kit_ty (kit_one h dx e t)) (fun hb => ?_) fun hb => ?_
    · rw [kit_any h dx e ts, hb, Bool.false_or]
    · rw [hb, Bool.true_or]
theorem clsvs : ∀ ts : List Ty, Paired L2.ClsV (ts.map fun t => V.ty (tyS t)) (ts.map fun t => Value.type (tyS t))
  | [] => .nil
  | t :: ts => .cons (.ty _) (clsvs ts)
theorem isi_tupY (g : Good L C n W X) {ts : List Ty} {es : List Expr} {kk : Nat} (hi : glB X.env.scope "isinstance" = true) (ht : tyNames X.env.scope ts es = true) (hl : ts.length ≤ 100) (ha : PE X pe (rd L X.K W o)) (h1 : starEach [pe, .Tuple es kk p0] X.env = (false, eval pe X.env) :: starEach [.Tuple es kk p0] X.env) :
    PE X (.Call (.Name "isinstance" apos) [pe, .Tuple es kk p0] [] pos) (rd L X.K W (cUn (isiF ts) o)) := by
  obtain ⟨g1, g2, g3⟩ := gl_of hi
  refine (L2.pe_callB L2.call_isiT g1 (g.link.bG _ (by decide +kernel)) boot_isi (L2.pa_cons ha (L2.pa_cons (L2.pe_tup (pa_tysY g ht)) L2.pa_nil rfl) h1) g3 g2 h1 rfl).imp fun σ H Q q => ?_
  refine to_tUn (rr := fun x H1 Q => (ts.map fun t => V.ty (tyS t)).length ≤ PySem.sizeLine ∧ ∀ p, H1 p = none → L2.rIsiT X.K [x, .ref p] (upd H1 p (.tup (ts.map fun t => V.ty (tyS t)))) Q) (k := isiF ts) (fun _ _ => rfl) (fun env h r σ H Q dx x s gx p => ?_) σ H Q q
  unfold isiF at p
  split at p
  · rename_i hd
    refine ⟨by rw [List.length_map, szl]; omega, fun q hq => ?_⟩
    have s' := s.new (o := .tup (ts.map fun t => V.ty (tyS t))) hq
    have gx' := gx.mono (Keep.new (o := .tup (ts.map fun t => V.ty (tyS t))) hq) (List.prefix_refl r)
    refine ⟨x, q, _, _, _, _, rfl, upd_same, clsvs ts, tyx_of s' gx' hd, kit_any h dx hd ts, ?_⟩
    exact p _ _ r (List.prefix_refl r) (Keep.new hq) s' mk_bl
  · exact p.elim
def RO (H : Hp) (r : List Addr) (a b : Option Int) : Prop := a = b
def rdP (L : Lk) (K : PySem.W.Frag) (W : XK) (m : Env → Heap → Res (Option Int)) : L2.TO := fun σ H Q => ∃ env h r, SR L K env h r σ H ∧ Post L K RO W env σ r H Q (m env h)
theorem _root_.L2.PO.imp {X : Cx} {e : Option Expr} {t t' : L2.TO} (h : L2.PO X e t) (i : ∀ σ H Q, t' σ H Q → t σ H Q) : L2.PO X e t' := ⟨fun pins s σ H Q I q => h.run pins s σ H Q I (i σ H Q q)⟩
theorem part_none {a : MV} (ha : ∀ env h, a env h = .ok .non h) : L2.PO X none (rdP L X.K W (partF false a)) :=
  L2.po_none.imp fun σ H Q ⟨env, h, r, s, p⟩ => by
    unfold partF at p
    rw [ha] at p
    exact p none H r (List.prefix_refl r) (Keep.refl H) s rfl
theorem part_some {a : MV} (he : PE X pe (rd L X.K W a)) : L2.PO X (some pe) (rdP L X.K W (partF true a)) :=
  (L2.po_some he).imp fun σ H Q ⟨env, h, r, s, p⟩ => ⟨env, h, r, s, (Post.bind (R := RV L X.K) p).mono fun x H1 ⟨dx, h1, r1, a1, p1⟩ => by
    cases dx with
    | int i =>
      cases rel_int a1.rel
      exact ⟨i, rfl, p1 (some i) H1 r1 (List.prefix_refl r1) (Keep.refl H1) a1.s rfl⟩
    | _ => exact p1.elim⟩
theorem slcY {lo hi : MV} {w1 w2 : Bool} {elo ehi : Option Expr} (g : Good L C n W X) (ha : PE X pe (rd L X.K W o)) (hl : L2.PO X elo (rdP L X.K W (partF w1 lo))) (hu : L2.PO X ehi (rdP L X.K W (partF w2 hi))) :
    PE X (.Subscript pe (.Slice elo ehi none p0) pos) (rd L X.K W (cSlc w1 w2 o lo hi)) :=
  (L2.pe_slice sl_w ha hl hu).imp fun σ H Q ⟨env, h, r, s, p⟩ => ⟨env, h, r, s, (Post.bind (R := RV L X.K) p).mono fun x H1 ⟨dx, h1, r1, a1, p1⟩ =>
    ⟨env, h1, r1, a1.s, (Post.bind (R := RO) p1).mono fun l H2 ⟨dl, h2, r2, a2, p2⟩ =>
      ⟨env, h2, r2, a2.s, (Post.bind (R := RO) p2).mono fun u H3 ⟨du, h3, r3, a3, p3⟩ => by
        cases a2.rel
        cases a3.rel
        exact slc_ok g a3.s ((a1.rel.mono a2.k a2.pr).mono a3.k a3.pr) p3⟩⟩⟩
def wMt (X : Cx) (id : String) : V → List V → Hp → VK → Prop := fun x xs H Q => ∀ (pins : List (Addr × Obj)) (s : Shared) (σ : Sg) (v : Value) (us : List Value), Inv X pins σ H s → RelV x v → Vals xs us → wpAny (model X.prog X.w) X.A (call (.builtin id) (v :: us)) (EP X pins σ Q) X.xe s
theorem mt_w {X : Cx} {id : String} : L2.MtR X id (wMt X id) := fun pins s σ H x xs v us Q I rx rs h => h pins s σ v us I rx rs
theorem wMt.of {X : Cx} {id : String} {t : V → List V → Hp → VK → Prop} (h : L2.MtR X id t) {x : V} {xs : List V} {H : Hp} {Q : VK} (q : t x xs H Q) : wMt X id x xs H Q := fun pins s σ v us I rx rs => h pins s σ H x xs v us Q I rx rs q
def btS : BT → String
  | .list => "list" | .str => "str" | .dict => "dict" | .int => "int"
theorem bt_ty {b : BT} (s : SR L X.K env h r σ H) (gx : RelD L X.K H r dx x) (e : isBT h dx b = true) : L2.tyV X.K (btS b) x H := by
  cases b with
  | list =>
    unfold isBT at e
    cases dx <;> first | (cases e; done) | skip
    rename_i a
    dsimp only [Heap.at] at e
    split at e
    · rename_i ds ea
      obtain ⟨q, us, rfl, _, hp, _⟩ := rel_lst s gx ea
      exact .inl ⟨rfl, us, L2.SqL.of hp⟩
    · cases e
  | dict =>
    unfold isBT at e
    cases dx <;> first | (cases e; done) | skip
    rename_i a
    dsimp only [Heap.at] at e
    split at e
    · rename_i kvs ea
      obtain ⟨q, ks, rfl, _, hp, _⟩ := rel_dic s gx ea
      exact .inr (.inr (.inl ⟨rfl, .inl ⟨ks, hp⟩⟩))
    · cases e
  | str =>
    unfold isBT at e
    cases dx <;> first | (cases e; done) | skip
    obtain ⟨rfl, _⟩ := rel_str gx
    rfl
  | int =>
    unfold isBT at e
    cases dx <;> first | (cases e; done) | skip
    cases rel_int gx
    rfl
/-- o.m(e, ..) -/
theorem bmY {id : String} {m : Bm} {e : Expr} {es : List Expr} (hc : PE X po (rd L X.K W o)) (ha : PA X (e :: es) (rdA L X.K W as)) (pa : PlainAttrs (btS (bmB m .non))) (slot : PySem.Slot (btS (bmB m .non)) z id) (hty : typeOf (.builtin id) = pure (.type "method_descriptor"))
    (hbm : ∀ {env h r σ H Q dx x ds xs}, SR L X.K env h r σ H → RelD L X.K H r dx x → RelDs L X.K H r ds xs → Post L X.K (RV L X.K) W env σ r H Q (bmF C.base m dx ds h) → wMt X id x xs H Q)
    (hb : attributeBase po z X.env (eval po X.env) = eval po X.env) (hfew : ((backTo pos (starEach (e :: es) X.env)).all (fun x => !x.1) && (backToKw pos (keywordEach [] X.env)).all (fun x => x.1.isSome)
      && decide ((e :: es).length + ([] : List Keyword).length + (if ([] : List Keyword).isEmpty then 0 else 1) < 30)) = true) (hline : (apos.endLine == pos.line) = true)
    (hs : starEach (e :: es) X.env = (false, eval e X.env) :: starEach es X.env) (hpl : (backTo pos (starEach es X.env)).any (·.1) = false) :
    PE X (.Call (.Attribute po z apos) (e :: es) [] pos) (rd L X.K W (cBm C.base m o as)) :=
  (L2.pe_bm pa slot hty mt_w hc ha hb hfew hline hs hpl).imp fun σ H Q ⟨env, h, r, s, p⟩ => ⟨env, h, r, s, (Post.bind (R := RV L X.K) p).mono fun x H1 ⟨dx, h1, r1, a1, p1⟩ => by
    split at p1
    · rename_i hb
      have eb : bmB m dx = bmB m .non := by cases m <;> rfl
      rw [eb] at hb
      refine ⟨bt_ty a1.s a1.rel hb, env, h1, r1, a1.s, (Post.bind (R := RVs L X.K) p1).mono fun xs H2 ⟨ds, h2, r2, a2, p2⟩ => ?_⟩
      exact hbm a2.s (a1.rel.mono a2.k a2.pr) a2.rel p2
    · exact p1.elim⟩
/-- o.m() -/
theorem bmY0 {id : String} {m : Bm} (hc : PE X po (rd L X.K W o)) (pa : PlainAttrs (btS (bmB m .non))) (slot : PySem.Slot (btS (bmB m .non)) z id) (hty : typeOf (.builtin id) = pure (.type "method_descriptor"))
    (hbm : ∀ {env h r σ H Q dx x}, SR L X.K env h r σ H → RelD L X.K H r dx x → Post L X.K (RV L X.K) W env σ r H Q (bmF C.base m dx [] h) → wMt X id x [] H Q)
    (hb : attributeBase po z X.env (eval po X.env) = eval po X.env) (hline : (apos.endLine == pos.line) = true) :
    PE X (.Call (.Attribute po z apos) [] [] pos) (rd L X.K W (cBm C.base m o (cArgs []))) :=
  (L2.pe_bm0 pa slot hty mt_w hc hb hline).imp fun σ H Q ⟨env, h, r, s, p⟩ => ⟨env, h, r, s, (Post.bind (R := RV L X.K) p).mono fun x H1 ⟨dx, h1, r1, a1, p1⟩ => by
    split at p1
    · rename_i hb
      have eb : bmB m dx = bmB m .non := by cases m <;> rfl
      rw [eb] at hb
      exact ⟨bt_ty a1.s a1.rel hb, hbm a1.s a1.rel p1⟩
    · exact p1.elim⟩
/-- a list rewritten -/
theorem lst_set {a : Nat} {ds : List D} {xs ys : List V} {zs : List D} {p : Addr} {o : Heap} {d : D} {v : V} (s : SR L X.K env h r σ H) (ea : h[a]? = some (.lst ds)) (ep : r[a]? = some p) (gs : RelDs L X.K H r zs ys) (gd : RelD L X.K H r d v)
    (q : Post L X.K (RV L X.K) W env σ r H Q (optH (setO C.base h a (.lst zs)) d)) : Q v (upd H p (.lst ys)) := by
  unfold setO at q
  split at q
  · have q : Post L X.K (RV L X.K) W env σ r H Q (.ok d (h.set a (.lst zs))) := q
    obtain ⟨u, eu, mu, mt⟩ := (s.hr.at_ a _ p ea ep).muta
    have kp : Keep H (upd H p (.lst ys)) := Keep.put eu mu
    exact q v _ r (List.prefix_refl r) kp (s.put ea ep ⟨ys, upd_same, gs.mono kp (List.prefix_refl r)⟩) (gd.mono kp (List.prefix_refl r))
  · exact q.elim
theorem mk_non : RelD L X.K H r .non .non := by unfold RelD; rfl
theorem m_append (s : SR L X.K env h r σ H) (gx : RelD L X.K H r dx x) (gs : RelDs L X.K H r ds xs) (p : Post L X.K (RV L X.K) W env σ r H Q (bmF C.base .append dx ds h)) : wMt X "list.append" x xs H Q := by
  cases dx <;> first | exact p.elim | skip
  rename_i a
  rcases ds with _ | ⟨d, _ | ⟨d2, ds⟩⟩ <;> first | exact p.elim | skip
  obtain ⟨v, ys, rfl, g1, g2⟩ := rels1 gs
  cases rels0 g2
  unfold bmF Heap.at at p
  dsimp only at p
  split at p
  · rename_i zs ea
    split at p
    · rename_i hl
      obtain ⟨q, us, rfl, ep, hp, gz⟩ := rel_lst s gx ea
      exact wMt.of L2.mt_append ⟨q, us, v, rfl, rfl, hp, by rw [← gz.length, szl]; exact hl, lst_set (C := C) (xs := us) (o := h) s ea ep (gz.append (.cons g1 .nil)) mk_non p⟩
    · exact p.elim
  · exact p.elim
theorem ints_all {K : PySem.W.Frag} : ∀ {ds : List D} {xs : List V}, RelDs L K H r ds xs → ds.all (fun | .int _ => true | _ => false) = true → ∃ is : List Int, xs = is.map V.int ∧ ds = is.map D.int
  | [], xs, g, _ => by cases rels0 g; exact ⟨[], rfl, rfl⟩
  | d :: ds, xs, g, e => by
    obtain ⟨v, ys, rfl, g1, g2⟩ := rels1 g
    rw [List.all_cons, Bool.and_eq_true] at e
    obtain ⟨is, rfl, rfl⟩ := ints_all g2 e.2
    cases d <;> first | (cases e.1; done) | skip
    rename_i b
    have g1 : v = .int b := by unfold RelD at g1; exact g1
    subst g1
    exact ⟨b :: is, rfl, rfl⟩
theorem index_of {K : PySem.W.Frag} {k : Int} : ∀ {ds : List D} {xs : List V} {m j : Nat}, RelDs L K H r ds xs → indexI k ds m = some j → ∃ (is : List Int) (i : Nat), xs = is.map V.int ∧ j = m + i ∧ is[i]? = some k ∧ ∀ a z, a < i → is[a]? = some z → z ≠ k
  | [], xs, m, j, g, e => by unfold indexI at e; cases e
  | d :: ds, xs, m, j, g, e => by
    obtain ⟨v, ys, rfl, g1, g2⟩ := rels1 g
    cases d <;> first | (unfold indexI at e; cases e; done) | skip
    rename_i b
    have g1 : v = .int b := by unfold RelD at g1; exact g1
    subst g1
    unfold indexI at e
    by_cases hb : b = k
    · rw [if_pos hb] at e
      split at e
      · rename_i ha
        cases e
        obtain ⟨is, rfl, _⟩ := ints_all g2 ha
        exact ⟨b :: is, 0, rfl, rfl, by rw [hb]; rfl, fun a z h => absurd h (Nat.not_lt_zero _)⟩
      · cases e
    · rw [if_neg hb] at e
      obtain ⟨is, i, rfl, e1, e2, e3⟩ := index_of g2 e
      refine ⟨b :: is, i + 1, rfl, by omega, e2, fun a z h hz => ?_⟩
      cases a with
      | zero => cases hz; exact hb
      | succ a => exact e3 a z (by omega) hz
theorem flat_ints : ∀ is : List Int, (is.map V.int).all L2.flatV = true
  | [] => rfl
  | _ :: is => flat_ints is
theorem m_index (s : SR L X.K env h r σ H) (gx : RelD L X.K H r dx x) (gs : RelDs L X.K H r ds xs) (p : Post L X.K (RV L X.K) W env σ r H Q (bmF C.base .index dx ds h)) : wMt X "list.index" x xs H Q := by
  rcases ds with _ | ⟨d, _ | ⟨d2, ds⟩⟩ <;> first | exact p.elim | skip
  obtain ⟨v, ys, rfl, g1, g2⟩ := rels1 gs
  cases rels0 g2
  unfold bmF at p
  dsimp only at p
  split at p
  · rename_i k
    have g1 : v = .int k := by unfold RelD at g1; exact g1
    subst g1
    split at p
    · rename_i zs ez
      obtain ⟨q, us, rfl, sq, _, gz⟩ := bi_lst s gx ez
      cases e1 : indexI k zs 0 with
      | none => rw [e1] at p; exact p.elim
      | some j =>
        rw [e1] at p
        obtain ⟨is, i, rfl, rfl, e2, e3⟩ := index_of gz e1
        refine wMt.of L2.mt_index ⟨q, is.map V.int, .int k, i, .int k, rfl, rfl, sq, rfl, flat_ints is, by rw [List.getElem?_map, e2]; rfl, by show (k == k) = true; simp, fun a z h hz => ?_, by rw [Nat.zero_add] at p; exact p.here s mk_int⟩
        rw [List.getElem?_map] at hz
        cases e4 : is[a]? with
        | none => rw [e4] at hz; cases hz
        | some y =>
          rw [e4] at hz
          cases hz
          show (y == k) = false
          simpa using e3 a y h e4
    · exact p.elim
  · exact p.elim
theorem m_extend (s : SR L X.K env h r σ H) (gx : RelD L X.K H r dx x) (gs : RelDs L X.K H r ds xs) (p : Post L X.K (RV L X.K) W env σ r H Q (bmF C.base .extend dx ds h)) : wMt X "list.extend" x xs H Q := by
  cases dx <;> first | exact p.elim | skip
  rename_i a
  rcases ds with _ | ⟨d, _ | ⟨d2, ds⟩⟩ <;> first | exact p.elim | skip
  obtain ⟨v, ys, rfl, g1, g2⟩ := rels1 gs
  cases rels0 g2
  unfold bmF Heap.at at p
  dsimp only at p
  split at p
  · rename_i zs ws ea ew
    split at p
    · rename_i hl
      obtain ⟨q, us, rfl, ep, hp, gz⟩ := rel_lst s gx ea
      obtain ⟨q2, us2, rfl, _, hp2, gz2⟩ := bi_lst s g1 ew
      exact wMt.of L2.mt_extend ⟨q, q2, us, us2, rfl, rfl, hp, hp2, by rw [← gz.length, ← gz2.length, szl]; exact hl, lst_set (C := C) (xs := us) (o := h) s ea ep (gz.append gz2) mk_non p⟩
    · exact p.elim
  · exact p.elim
theorem m_pop (s : SR L X.K env h r σ H) (gx : RelD L X.K H r dx x) (p : Post L X.K (RV L X.K) W env σ r H Q (bmF C.base .pop dx [] h)) : wMt X "list.pop" x [] H Q := by
  cases dx <;> first | exact p.elim | skip
  rename_i a
  unfold bmF Heap.at at p
  dsimp only at p
  split at p
  · rename_i zs ea
    split at p
    · rename_i d ed
      obtain ⟨q, us, rfl, ep, hp, gz⟩ := rel_lst s gx ea
      rw [List.getLast?_eq_getElem?] at ed
      obtain ⟨v, ev, gv⟩ := gz.get ed
      exact wMt.of L2.mt_pop ⟨q, us, v, rfl, rfl, hp, by rw [← gz.length]; exact ev, lst_set (C := C) (xs := us) (o := h) s ea ep gz.dropLast gv p⟩
    · exact p.elim
  · exact p.elim
end
end Y
set_option Elab.async false
set_option linter.all false
set_option maxRecDepth 100000
set_option maxHeartbeats 4000000
namespace Y
open PySem PySem.Spec PyProof.Rows
open L2 (V Hp upd upd_same upd_ne ne_of ne_of_none RelV Vals SqL SqT Rd Cx Inv PE PT PW PS PSs PA PG PI TE TT TS TA TG TI VK XK Ends EP)
theorem toS_list (s : List Nat) : (toS s).cps.toList = s := rfl
theorem str_join (s : List Nat) : ∀ ss : List (List Nat), Str.join (toS s) (ss.map toS) = toS (joinL s ss)
  | [] => rfl
  | [x] => rfl
  | x :: y :: r => by
    have ih := str_join s (y :: r)
    rw [List.map_cons] at ih ⊢
    rw [List.map_cons]
    unfold Str.join joinL
    rw [ih, toS_app, toS_app, List.append_assoc]
theorem isPre_iff : ∀ {t s : List Nat}, isPre t s = true ↔ t <+: s
  | [], s => by simp [isPre]
  | a :: as, [] => by simp [isPre]
  | a :: as, b :: bs => by
    unfold isPre
    by_cases e : a = b
    · subst e
      rw [if_pos rfl, isPre_iff]
      simp
    · rw [if_neg e]
      simp [e]
theorem txt_starts (s t : List Nat) : Txt.startswith (toS s) (toS t) = isPre t s := by
  unfold Txt.startswith
  rw [StrLaws.subAt_eq, toS_len, toS_len, toS_list, toS_list, List.drop_zero]
  rw [Bool.eq_iff_iff, isPre_iff]
  simp only [Bool.and_eq_true, decide_eq_true_eq, beq_iff_eq, Nat.zero_add]
  constructor
  · rintro ⟨_, h⟩
    refine ⟨s.drop t.length, ?_⟩
    have h2 := List.take_append_drop t.length s
    rw [h] at h2
    exact h2
  · rintro ⟨r, rfl⟩
    simp
theorem txt_ends (s t : List Nat) : Txt.endswith (toS s) (toS t) = isPre t.reverse s.reverse := by
  unfold Txt.endswith
  rw [StrLaws.subAt_eq, toS_len, toS_len, toS_list, toS_list]
  rw [Bool.eq_iff_iff, isPre_iff, List.reverse_prefix]
  simp only [Bool.and_eq_true, decide_eq_true_eq, beq_iff_eq, Nat.zero_add]
  constructor
  · rintro ⟨hl, h⟩
    refine ⟨s.take (s.length - t.length), ?_⟩
    have h2 : (s.drop (s.length - t.length)).length = t.length := by rw [List.length_drop]; omega
    rw [List.take_of_length_le (by omega)] at h
    have h3 := List.take_append_drop (s.length - t.length) s
    rw [h] at h3
    exact h3
  · rintro ⟨r, rfl⟩
    simp
theorem strs_rel {L : Lk} {K : PySem.W.Frag} {H : Hp} {r : List Addr} : ∀ {ds : List D} {xs : List V} {ss : List (List Nat)}, RelDs L K H r ds xs → strs? ds = some ss → xs = (ss.map toS).map V.str ∧ ∀ s ∈ ss, okS s
  | [], xs, ss, g, e => by
    unfold RelDs at g
    cases e
    exact ⟨g, fun s h => by cases h⟩
  | d :: ds, xs, ss, g, e => by
    unfold RelDs at g
    obtain ⟨x, ys, rfl, g1, g2⟩ := g
    unfold strs? at e
    cases d <;> first | (cases e; done) | skip
    rename_i z
    dsimp only at e
    cases er : strs? ds with
    | none => rw [er] at e; cases e
    | some r =>
      rw [er] at e
      cases e
      obtain ⟨h1, h2⟩ := strs_rel g2 er
      unfold RelD at g1
      obtain ⟨rfl, g3⟩ := g1
      exact ⟨by rw [h1]; rfl, fun s h => (List.mem_cons.mp h).elim (fun e => by rw [e]; exact g3) (h2 s)⟩
theorem joinL_mem {s : List Nat} (hs : ∀ c ∈ s, c < 128) : ∀ {ss : List (List Nat)}, (∀ x ∈ ss, okS x) → ∀ c ∈ joinL s ss, c < 128
  | [], _, c, h => by cases h
  | [x], hx, c, h => (hx x List.mem_cons_self).2 c h
  | x :: y :: r, hx, c, h => by
    unfold joinL at h
    rcases List.mem_append.mp h with h | h
    · exact (hx x List.mem_cons_self).2 c h
    · rcases List.mem_append.mp h with h | h
      · exact hs c h
      · exact joinL_mem hs (fun z hz => hx z (List.mem_cons_of_mem _ hz)) c h
theorem joinL_len (s : List Nat) : ∀ ss : List (List Nat), (joinL s ss).length ≤ (ss.map (·.length)).sum + ss.length * s.length
  | [] => Nat.zero_le _
  | [x] => by simp [joinL]
  | x :: y :: r => by
    have ih := joinL_len s (y :: r)
    unfold joinL
    rw [List.length_append, List.length_append, List.map_cons, List.sum_cons, List.length_cons, Nat.succ_mul]
    omega
section
variable {L : Lk} {C : Ctx} {W : XK} {X : Cx} {H : Hp} {r : List Addr} {h : Heap} {env : Env} {σ : Sg} {Q : VK} {x : V} {dx : D} {ds : List D} {xs : List V}
theorem m_join (s : SR L X.K env h r σ H) (gx : RelD L X.K H r dx x) (gs : RelDs L X.K H r ds xs) (p : Post L X.K (RV L X.K) W env σ r H Q (bmF C.base .join dx ds h)) : wMt X "str.join" x xs H Q := by
  cases dx <;> first | exact p.elim | skip
  rename_i z
  rcases ds with _ | ⟨d, _ | ⟨d2, ds⟩⟩ <;> first | exact p.elim | skip
  obtain ⟨v, ys, rfl, g1, g2⟩ := rels1 gs
  cases rels0 g2
  obtain ⟨rfl, hz⟩ := rel_str gx
  unfold bmF at p
  dsimp only at p
  split at p
  · rename_i es ee
    split at p
    · rename_i ss es2
      split at p
      · rename_i hl
        have key : ∃ q ws, v = .ref q ∧ (SqL X.K H q ws ∨ SqT X.K H q ws) ∧ RelDs L X.K H r es ws := by
          cases d <;> first | (cases ee; done) | skip
          · unfold items? at ee
            cases ee
            obtain ⟨q, ws, rfl, sq, gz⟩ := rel_tup g1
            exact ⟨q, ws, rfl, .inr sq, gz⟩
          · have ee' : list? h (.ref _) = some es := ee
            obtain ⟨q, ws, rfl, _, hp, gz⟩ := rel_lst s g1 (list?_ref ee')
            exact ⟨q, ws, rfl, .inl (.of hp), gz⟩
        obtain ⟨q, ws, rfl, sq, gz⟩ := key
        obtain ⟨rfl, ho⟩ := strs_rel gz es2
        refine wMt.of L2.mt_join ⟨toS z, q, ss.map toS, rfl, rfl, sq, ?_, ?_⟩
        · rw [List.map_map, List.length_map, toS_len]
          have e : ((fun x : Str => x.length) ∘ toS) = fun x : List Nat => x.length := funext fun a => toS_len a
          rw [e]
          exact hl
        · rw [TL.join_eq, str_join]
          refine p.here s (mk_str ⟨?_, joinL_mem hz.2 ho⟩)
          have := joinL_len z ss
          have hl' : (ss.map (·.length)).sum + ss.length * z.length ≤ 16777216 := hl
          rw [szl]; omega
      · exact p.elim
    · exact p.elim
  · exact p.elim
theorem m_starts (s : SR L X.K env h r σ H) (gx : RelD L X.K H r dx x) (gs : RelDs L X.K H r ds xs) (p : Post L X.K (RV L X.K) W env σ r H Q (bmF C.base .startswith dx ds h)) : wMt X "str.startswith" x xs H Q := by
  cases dx <;> first | exact p.elim | skip
  rename_i z
  rcases ds with _ | ⟨d, _ | ⟨d2, ds⟩⟩ <;> first | exact p.elim | skip
  · cases d <;> first | exact p.elim | skip
    rename_i t
    obtain ⟨v, ys, rfl, g1, g2⟩ := rels1 gs
    cases rels0 g2
    obtain ⟨rfl, hz⟩ := rel_str gx
    obtain ⟨rfl, ht⟩ := rel_str g1
    refine wMt.of L2.mt_startswith ⟨toS z, toS t, rfl, rfl, ?_⟩
    rw [txt_starts]
    exact p.here s mk_bl
  · cases d <;> exact p.elim
theorem m_ends (s : SR L X.K env h r σ H) (gx : RelD L X.K H r dx x) (gs : RelDs L X.K H r ds xs) (p : Post L X.K (RV L X.K) W env σ r H Q (bmF C.base .endswith dx ds h)) : wMt X "str.endswith" x xs H Q := by
  cases dx <;> first | exact p.elim | skip
  rename_i z
  rcases ds with _ | ⟨d, _ | ⟨d2, ds⟩⟩ <;> first | exact p.elim | skip
  · cases d <;> first | exact p.elim | skip
    rename_i t
    obtain ⟨v, ys, rfl, g1, g2⟩ := rels1 gs
    cases rels0 g2
    obtain ⟨rfl, hz⟩ := rel_str gx
    obtain ⟨rfl, ht⟩ := rel_str g1
    refine wMt.of L2.mt_endswith ⟨toS z, toS t, rfl, rfl, ?_⟩
    rw [txt_ends]
    exact p.here s mk_bl
  · cases d <;> exact p.elim
theorem strip_str (p : Nat → Bool) (z : List Nat) : Txt.stripBy p false true (toS z) = toS (z.reverse.dropWhile p).reverse := by
  rw [PyProof.Rows.stripBy_eq]
  refine TL.ext_tl ?_
  rw [TL.tl_strSub]
  show ((z.drop 0).take ((toS z).length - ((z.drop 0).reverse.takeWhile p).length - 0)) = (z.reverse.dropWhile p).reverse
  rw [List.drop_zero, toS_len, Nat.sub_zero]
  have e : z = (z.reverse.dropWhile p).reverse ++ (z.reverse.takeWhile p).reverse := by
    rw [← List.reverse_append, List.takeWhile_append_dropWhile, List.reverse_reverse]
  have l : z.length = (z.reverse.dropWhile p).reverse.length + (z.reverse.takeWhile p).length := by
    have := congrArg List.length e
    rw [List.length_append, List.length_reverse (as := List.takeWhile p z.reverse)] at this
    exact this
  conv => lhs; arg 2; rw [e]
  rw [List.take_append_of_le_length (by omega), List.take_of_length_le (by omega)]
theorem lstrip_str (p : Nat → Bool) (z : List Nat) : Txt.stripBy p true false (toS z) = toS (z.dropWhile p) := by
  rw [PyProof.Rows.stripBy_eq]
  refine TL.ext_tl ?_
  rw [TL.tl_strSub]
  show ((z.drop (z.takeWhile p).length).take ((toS z).length - (z.takeWhile p).length)) = z.dropWhile p
  rw [toS_len]
  have e := List.takeWhile_append_dropWhile (p := p) (l := z)
  conv => lhs; arg 2; arg 2; rw [← e]
  rw [List.drop_left, List.take_of_length_le]
  have := congrArg List.length e
  rw [List.length_append] at this
  omega
theorem dropC_while (c : Nat) : ∀ z : List Nat, z.dropWhile ((toS [c]).cps.contains) = dropC c z
  | [] => rfl
  | x :: xs => by
    unfold dropC
    rw [List.dropWhile_cons]
    have e : (toS [c]).cps.contains x = decide (x = c) := by
      unfold toS
      simp [eq_comm]
    rw [e]
    by_cases h : x = c
    · rw [if_pos h, if_pos (decide_eq_true h)]; exact dropC_while c xs
    · rw [if_neg h, if_neg (by simpa using h)]
theorem dropC_mem {c : Nat} : ∀ {z : List Nat} {d : Nat}, d ∈ dropC c z → d ∈ z
  | [], _, h => h
  | x :: xs, d, h => by
    unfold dropC at h
    split at h
    · exact List.mem_cons_of_mem _ (dropC_mem h)
    · exact h
theorem dropC_le (c : Nat) : ∀ z : List Nat, (dropC c z).length ≤ z.length
  | [] => Nat.le_refl _
  | x :: xs => by
    unfold dropC
    split
    · exact Nat.le_succ_of_le (dropC_le c xs)
    · exact Nat.le_refl _
theorem txt_ljust (s : List Nat) (n : Int) : Txt.ljust (toS s) n = toS (s ++ List.replicate (n.toNat - s.length) 32) := by
  unfold Txt.ljust
  rw [toS_len]
  split
  · rw [show n.toNat - s.length = 0 by omega]; simp
  · refine TL.ext_tl ?_
    unfold PySem.Builtin.Str.padded toS TL.tl
    simp
theorem m_rstrip (s : SR L X.K env h r σ H) (gx : RelD L X.K H r dx x) (gs : RelDs L X.K H r ds xs) (p : Post L X.K (RV L X.K) W env σ r H Q (bmF C.base .rstrip dx ds h)) : wMt X "str.rstrip" x xs H Q := by
  cases dx <;> first | exact p.elim | skip
  rename_i z
  rcases ds with _ | ⟨d, _ | ⟨d2, ds⟩⟩ <;> first | exact p.elim | skip
  · cases d <;> first | exact p.elim | skip
    rename_i t
    rcases t with _ | ⟨c, _ | ⟨c2, t⟩⟩ <;> first | exact p.elim | skip
    obtain ⟨v, ys, rfl, g1, g2⟩ := rels1 gs
    cases rels0 g2
    obtain ⟨rfl, hz⟩ := rel_str gx
    obtain ⟨rfl, ht⟩ := rel_str g1
    refine wMt.of L2.mt_rstripChars ⟨toS z, toS [c], rfl, rfl, by rw [toS_len]; exact hz.1, ?_⟩
    unfold Txt.rstripChars
    rw [strip_str, dropC_while]
    exact p.here s (mk_str ⟨by rw [List.length_reverse]; exact Nat.le_trans (dropC_le c _) (by rw [List.length_reverse]; exact hz.1), fun q hq => hz.2 q (by simpa using dropC_mem (List.mem_reverse.mp hq))⟩)
  · cases d <;> first | exact p.elim | (rename_i t; rcases t with _ | ⟨c, _ | ⟨c2, t⟩⟩ <;> exact p.elim)
theorem m_lstrip (s : SR L X.K env h r σ H) (gx : RelD L X.K H r dx x) (gs : RelDs L X.K H r ds xs) (p : Post L X.K (RV L X.K) W env σ r H Q (bmF C.base .lstrip dx ds h)) : wMt X "str.lstrip" x xs H Q := by
  cases dx <;> first | exact p.elim | skip
  rename_i z
  rcases ds with _ | ⟨d, _ | ⟨d2, ds⟩⟩ <;> first | exact p.elim | skip
  · cases d <;> first | exact p.elim | skip
    rename_i t
    rcases t with _ | ⟨c, _ | ⟨c2, t⟩⟩ <;> first | exact p.elim | skip
    obtain ⟨v, ys, rfl, g1, g2⟩ := rels1 gs
    cases rels0 g2
    obtain ⟨rfl, hz⟩ := rel_str gx
    obtain ⟨rfl, ht⟩ := rel_str g1
    refine wMt.of L2.mt_lstripChars ⟨toS z, toS [c], rfl, rfl, by rw [toS_len]; exact hz.1, ?_⟩
    unfold Txt.lstripChars
    rw [lstrip_str, dropC_while]
    exact p.here s (mk_str ⟨Nat.le_trans (dropC_le c _) hz.1, fun q hq => hz.2 q (dropC_mem hq)⟩)
  · cases d <;> first | exact p.elim | (rename_i t; rcases t with _ | ⟨c, _ | ⟨c2, t⟩⟩ <;> exact p.elim)
theorem txt_ljust2 (s : List Nat) (n : Int) (c : Nat) : Txt.ljustF (toS s) n c = toS (s ++ List.replicate (n.toNat - s.length) c) := by
  unfold Txt.ljustF
  rw [toS_len]
  split
  · rw [show n.toNat - s.length = 0 by omega]; simp
  · refine TL.ext_tl ?_
    unfold PySem.Builtin.Str.padded toS TL.tl
    simp
theorem mt_ljust2 : L2.MtR X "str.ljust" (fun x xs H Q => ∃ (a : Str) (i : Int) (f : Str), x = .str a ∧ xs = [.int i, .str f] ∧ PadOk i = true ∧ f.length = 1 ∧ Q (.str (Txt.ljustF a i (f.cps.getD 0 0))) H) := by
  intro pins s σ H x xs v us Q I rx rs h
  obtain ⟨a, i, f, rfl, rfl, hp, hf, h⟩ := h
  obtain ⟨t, rfl⟩ := rx
  cases rs with
  | cons r1 rs =>
    cases rs with
    | cons r2 rs =>
      cases rs
      obtain ⟨u, rfl⟩ := r1
      obtain ⟨z, rfl⟩ := r2
      exact PyProof.Rows.ljust_fill hp hf fun t' k => ⟨.str (Txt.ljustF a i (f.cps.getD 0 0)), H, I.tok k, ⟨t', rfl⟩, h⟩
theorem m_ljust (s : SR L X.K env h r σ H) (gx : RelD L X.K H r dx x) (gs : RelDs L X.K H r ds xs) (p : Post L X.K (RV L X.K) W env σ r H Q (bmF C.base .ljust dx ds h)) : wMt X "str.ljust" x xs H Q := by
  cases dx <;> first | exact p.elim | skip
  rename_i z
  rcases ds with _ | ⟨d, _ | ⟨d2, ds⟩⟩ <;> first | exact p.elim | skip
  · cases d <;> first | exact p.elim | skip
    rename_i n
    obtain ⟨v, ys, rfl, g1, g2⟩ := rels1 gs
    cases rels0 g2
    obtain ⟨rfl, hz⟩ := rel_str gx
    obtain rfl := rel_int g1
    unfold bmF at p
    dsimp only at p
    split at p
    · rename_i hn
      refine wMt.of L2.mt_ljust ⟨toS z, n, rfl, rfl, PyProof.Rows.padOk_of (by omega) (by omega), ?_⟩
      rw [txt_ljust]
      unfold mkStr at p
      split at p
      · rename_i hl
        refine p.here s (mk_str ⟨by rw [szl]; exact hl, fun q hq => ?_⟩)
        rcases List.mem_append.mp hq with hq | hq
        · exact hz.2 q hq
        · rw [List.eq_of_mem_replicate hq]; decide
      · exact p.elim
    · exact p.elim
  · cases d <;> first | exact p.elim | skip
    cases d2 <;> first | exact p.elim | skip
    rename_i t
    obtain ⟨v, ys, rfl, g1, g2⟩ := rels1 gs
    obtain ⟨v2, ys2, rfl, g3, g4⟩ := rels1 g2
    rename_i n
    rcases t with _ | ⟨c, _ | ⟨c2, t⟩⟩ <;> first | (cases ds <;> exact p.elim) | skip
    cases ds with
    | cons d3 ds => exact p.elim
    | nil =>
    cases rels0 g4
    obtain ⟨rfl, hz⟩ := rel_str gx
    obtain rfl := rel_int g1
    obtain ⟨rfl, ht⟩ := rel_str g3
    unfold bmF at p
    dsimp only at p
    split at p
    · rename_i hn
      refine wMt.of mt_ljust2 ⟨toS z, n, toS [c], rfl, rfl, PyProof.Rows.padOk_of (by omega) (by omega), rfl, ?_⟩
      rw [show (toS [c]).cps.getD 0 0 = c from rfl, txt_ljust2]
      unfold mkStr at p
      split at p
      · rename_i hl
        refine p.here s (mk_str ⟨by rw [szl]; exact hl, fun q hq => ?_⟩)
        rcases List.mem_append.mp hq with hq | hq
        · exact hz.2 q hq
        · rw [List.eq_of_mem_replicate hq]; exact ht.2 c (by simp)
      · exact p.elim
    · exact p.elim
end
end Y
set_option Elab.async false
set_option linter.all false
set_option maxRecDepth 100000
set_option maxHeartbeats 4000000
namespace Y
open PySem PySem.Spec PyProof.Rows
open L2 (V Hp upd upd_same upd_ne ne_of ne_of_none RelV Vals SqL SqT Rd Cx Inv PE PT PW PS PSs PA PG PI TE TT TS TA TG TI VK XK Ends EP)
section
variable {L : Lk} {C : Ctx} {n : Nat} {W : XK} {X : Cx} {H : Hp} {r : List Addr} {h : Heap} {env : Env} {σ : Sg} {Q : VK} {x y v : V} {dx dy d : D} {ds : List D} {xs : List V} {pos : Pos}
/-- dict(d) -/
theorem bi_dict (s : SR L X.K env h r σ H) (gs : RelDs L X.K H r ds xs) (p : Post L X.K (RV L X.K) W env σ r H Q (biF .dict ds h)) : wCall X (.type "dict") xs H Q := by
  rcases ds with _ | ⟨d, _ | ⟨d2, ds⟩⟩ <;> first | exact p.elim | (cases d <;> exact p.elim) | skip
  obtain ⟨v, ys, rfl, g1, g2⟩ := rels1 gs
  cases rels0 g2
  cases d <;> first | exact p.elim | skip
  rename_i a
  unfold biF Heap.at at p
  dsimp only at p
  cases ea : h[a]? with
  | none => rw [ea] at p; exact p.elim
  | some o =>
  rw [ea] at p
  cases o <;> first | exact p.elim | skip
  rename_i kvs
  obtain ⟨q, ks, rfl, ep, hp, gk⟩ := rel_dic s g1 ea
  refine wCall.of L2.call_dictD ⟨q, ks, rfl, .inl hp, fun p' hn => ?_⟩
  have pr : r <+: r ++ [p'] := List.prefix_append r [p']
  refine p _ _ (r ++ [p']) pr (Keep.new hn) (s.push hn ⟨ks, upd_same, gk.mono (Keep.new hn) pr⟩) ?_
  unfold RelD
  refine ⟨p', rfl, ?_⟩
  rw [← s.hr.len, List.getElem?_append_right (Nat.le_refl _), Nat.sub_self]
  rfl
/-- {} -/
theorem dnkY : PE X (.Dict [] [] pos) (rd L X.K W cDnew) := L2.pe_dnewK.imp fun σ H Q ⟨env, h, r, s, p⟩ => fun p' hn => by
  have pr : r <+: r ++ [p'] := List.prefix_append r [p']
  refine p _ _ (r ++ [p']) pr (Keep.new hn) (s.push hn ⟨[], upd_same, by unfold RelK; rfl⟩) ?_
  unfold RelD
  refine ⟨p', rfl, ?_⟩
  rw [← s.hr.len, List.getElem?_append_right (Nat.le_refl _), Nat.sub_self]
  rfl
theorem relK_any {K : PySem.W.Frag} {k : D} {j : L2.Key} (e : keyJ k = some j) : ∀ {kvs : List (D × D)} {ks : List (L2.Key × V)}, RelK (L := L) (K := K) H r kvs ks → (kvs.any fun q => eqB k q.1) = ks.any fun q => decide (q.1 = j)
  | [], ks, g => by unfold RelK at g; subst g; rfl
  | (a, d) :: kvs, ks, g => by
    obtain ⟨i, v, t, rfl, hj, _, g'⟩ := relK_cons g
    rw [List.any_cons, List.any_cons, relK_any e g', key_eq e hj]
theorem relK_map {K : PySem.W.Frag} {k d : D} {j : L2.Key} {v : V} (e : keyJ k = some j) (gd : RelD L K H r d v) : ∀ {kvs : List (D × D)} {ks : List (L2.Key × V)}, RelK (L := L) (K := K) H r kvs ks → RelK (L := L) (K := K) H r (kvs.map fun q => if eqB k q.1 = true then (q.1, d) else q) (ks.map fun q => if q.1 = j then (q.1, v) else q)
  | [], ks, g => by unfold RelK at g; subst g; unfold List.map RelK; rfl
  | (a, c) :: kvs, ks, g => by
    obtain ⟨i, w, t, rfl, hj, gc, g'⟩ := relK_cons g
    rw [List.map_cons, List.map_cons]
    dsimp only
    rw [key_eq e hj]
    by_cases hij : i = j
    · rw [if_pos hij, if_pos (decide_eq_true hij)]
      exact relK_mk hj gd (relK_map e gd g')
    · rw [if_neg hij, if_neg (by rw [decide_eq_false hij]; exact Bool.false_ne_true)]
      exact relK_mk hj gc (relK_map e gd g')
theorem relK_snoc {K : PySem.W.Frag} {k d : D} {j : L2.Key} {v : V} (e : keyJ k = some j) (gd : RelD L K H r d v) : ∀ {kvs : List (D × D)} {ks : List (L2.Key × V)}, RelK (L := L) (K := K) H r kvs ks → RelK (L := L) (K := K) H r (kvs ++ [(k, d)]) (ks ++ [(j, v)])
  | [], ks, g => by unfold RelK at g; subst g; exact relK_mk e gd (by unfold RelK; rfl)
  | (a, c) :: kvs, ks, g => by
    obtain ⟨i, w, t, rfl, hj, gc, g'⟩ := relK_cons g
    exact relK_mk hj gc (relK_snoc e gd g')
theorem relK_len {K : PySem.W.Frag} : ∀ {kvs : List (D × D)} {ks : List (L2.Key × V)}, RelK (L := L) (K := K) H r kvs ks → ks.length = kvs.length
  | [], ks, g => by unfold RelK at g; subst g; rfl
  | (a, c) :: kvs, ks, g => by
    obtain ⟨i, w, t, rfl, hj, gc, g'⟩ := relK_cons g
    rw [List.length_cons, List.length_cons, relK_len g']
theorem relK_put {K : PySem.W.Frag} {k d : D} {j : L2.Key} {v : V} (e : keyJ k = some j) (gd : RelD L K H r d v) {kvs : List (D × D)} {ks : List (L2.Key × V)} (g : RelK (L := L) (K := K) H r kvs ks) : RelK (L := L) (K := K) H r (putD k d kvs) (L2.putK ks j v) := by
  unfold putD L2.putK
  rw [relK_any e g]
  split
  · exact relK_map e gd g
  · exact relK_snoc e gd g
/-- {k: v} -/
theorem dlitY {mk mv : MV} {pk pv : Expr} (hk : PE X pk (rd L X.K W mk)) (hv : PE X pv (rd L X.K W mv)) : PE X (.Dict [some pk] [pv] pos) (rd L X.K W (cDlit [mk] [mv])) :=
  (L2.pe_disp (L2.pps_cons hk hv L2.pps_nil) rfl rfl (fun z => by cases z) (by show 1 ≤ 15; decide)).imp fun σ H Q ⟨env, h, r, s, p⟩ => fun p' hn => by
    have pr : r <+: r ++ [p'] := List.prefix_append r [p']
    have s1 := s.push hn (o := HV.dic []) (ho := .dK []) ⟨[], upd_same, by unfold RelK; rfl⟩
    have e0 : (r ++ [p'])[h.length]? = some p' := by
      rw [← s.hr.len, List.getElem?_append_right (Nat.le_refl _), Nat.sub_self]
      rfl
    refine ⟨env, h ++ [.dic []], r ++ [p'], s1, (Post.bind (R := RV L X.K) (p.later pr (Keep.new hn))).mono fun x H1 ⟨kd, h1, r1, a1, p1⟩ => ⟨env, h1, r1, a1.s, (Post.bind (R := RV L X.K) p1).mono fun y H2 ⟨vd, h2, r2, a2, p2⟩ => ?_⟩⟩
    by_cases hkk : kd.keyK = true
    · rw [if_pos hkk] at p2
      unfold Heap.at at p2
      split at p2
      · rename_i ea
        obtain ⟨j, ej⟩ := keyJ_of hkk
        have ep : r2[h.length]? = some p' := by
          have h1 : h.length < (r ++ [p']).length := (List.getElem?_eq_some_iff.mp e0).1
          obtain ⟨t1, ht1⟩ := a1.pr.trans a2.pr
          rw [← ht1, List.getElem?_append_left h1]
          exact e0
        obtain ⟨ks, ek, gk⟩ := a2.s.hr.at_ _ _ p' ea ep
        have hks : ks = [] := by unfold RelK at gk; exact gk
        subst hks
        obtain ⟨u, eu, mu, mt⟩ := (a2.s.hr.at_ _ _ p' ea ep).muta
        have kp : Keep H2 (upd H2 p' (.dK [(j, y)])) := Keep.put eu mu
        have s' := a2.s.put (o' := HV.dic [(kd, vd)]) (ho := .dK [(j, y)]) ea ep ⟨[(j, y)], upd_same, relK_mk ej (a2.rel.mono kp (List.prefix_refl r2)) (by unfold RelK; rfl)⟩
        have ex := keyV a1.rel ej
        refine ⟨ek, [(j, y)], by rw [ex]; rfl, by show 1 ≤ 15; decide, ?_⟩
        refine p2 _ _ r2 (List.prefix_refl r2) kp s' ?_
        unfold RelD
        exact ⟨p', rfl, ep⟩
      · exact p2.elim
    · rw [if_neg hkk] at p2
      exact p2.elim
theorem spl_one (c : Nat) : ∀ (s acc : List Nat), TL.spl [c] 0 acc s = splitC c acc.reverse s
  | [], acc => by rw [TL.spl_nil]; unfold splitC; rw [List.reverse_reverse]
  | a :: s, acc => by
    have hp : TL.pre [c] (a :: s) = decide (a = c) := by
      unfold TL.pre
      rw [Bool.eq_iff_iff, decide_eq_true_eq]
      simp
    unfold splitC
    by_cases e : a = c
    · rw [if_pos e, TL.spl_hit (by rw [hp, decide_eq_true e]), List.reverse_reverse]
      have := spl_one c s []
      rw [List.reverse_nil] at this
      rw [← this]
      rfl
    · rw [if_neg e, TL.spl_miss (by rw [hp, decide_eq_false e]), spl_one c s (acc ++ [a]), List.reverse_append]
      rfl
theorem splitC_mem (c : Nat) : ∀ (s cur : List Nat) (p : List Nat), p ∈ splitC c cur s → (∀ z ∈ p, z ∈ cur ∨ z ∈ s) ∧ p.length ≤ cur.length + s.length
  | [], cur, p, h => by
    unfold splitC at h
    rw [List.mem_singleton] at h
    subst h
    exact ⟨fun z hz => .inl (List.mem_reverse.mp hz), by simp⟩
  | a :: s, cur, p, h => by
    unfold splitC at h
    split at h
    · rcases List.mem_cons.mp h with rfl | h
      · exact ⟨fun z hz => .inl (List.mem_reverse.mp hz), by simp⟩
      · obtain ⟨h1, h2⟩ := splitC_mem c s [] p h
        refine ⟨fun z hz => ?_, by simp at h2 ⊢; omega⟩
        rcases h1 z hz with h | h
        · cases h
        · exact .inr (List.mem_cons_of_mem _ h)
    · obtain ⟨h1, h2⟩ := splitC_mem c s (a :: cur) p h
      refine ⟨fun z hz => ?_, by simp at h2 ⊢; omega⟩
      rcases h1 z hz with h | h
      · rcases List.mem_cons.mp h with rfl | h
        · exact .inr List.mem_cons_self
        · exact .inl h
      · exact .inr (List.mem_cons_of_mem _ h)
theorem splitC_len (c : Nat) : ∀ (s cur : List Nat), (splitC c cur s).length ≤ s.length + 1
  | [], cur => by unfold splitC; simp
  | a :: s, cur => by
    unfold splitC
    split
    · have := splitC_len c s []; simp; omega
    · have := splitC_len c s (a :: cur); simp; omega
theorem small_kind {c : Nat} (h : c < 128) : (toS [c]).cps.all (· < 256) = true := by
  unfold toS
  simp
  omega
theorem txt_split {s : List Nat} {c : Nat} (hc : c < 128) : Txt.split (toS s) (toS [c]) = (splitC c [] s).map toS := by
  have h := TL.split_spl (toS s) (toS [c]) (by unfold TL.tl; simp [toS]) (TL.kind_ok (small_kind hc))
  have e1 : TL.tl (toS [c]) = [c] := rfl
  have e2 : TL.tl (toS s) = s := rfl
  rw [e1, e2, spl_one c s []] at h
  rw [List.reverse_nil] at h
  rw [← h, List.map_map]
  have e : (toS ∘ TL.tl) = id := funext fun a => toS_tl a
  rw [e, List.map_id]
theorem m_split (s : SR L X.K env h r σ H) (gx : RelD L X.K H r dx x) (gs : RelDs L X.K H r ds xs) (p : Post L X.K (RV L X.K) W env σ r H Q (bmF C.base .split dx ds h)) : wMt X "str.split" x xs H Q := by
  cases dx <;> first | exact p.elim | skip
  rename_i z
  rcases ds with _ | ⟨d, _ | ⟨d2, ds⟩⟩ <;> first | exact p.elim | skip
  · cases d <;> first | exact p.elim | skip
    rename_i t
    rcases t with _ | ⟨c, _ | ⟨c2, t⟩⟩ <;> first | exact p.elim | skip
    obtain ⟨v, ys, rfl, g1, g2⟩ := rels1 gs
    cases rels0 g2
    obtain ⟨rfl, hz⟩ := rel_str gx
    obtain ⟨rfl, ht⟩ := rel_str g1
    have hc : c < 128 := ht.2 c List.mem_cons_self
    unfold bmF at p
    dsimp only at p
    split at p
    · rename_i hl
      have hok : ∀ q ∈ splitC c [] z, okS q := fun q hq => by
        obtain ⟨h1, h2⟩ := splitC_mem c z [] q hq
        refine ⟨by simp at h2; have := hz.1; omega, fun w hw => ?_⟩
        rcases h1 w hw with h | h
        · cases h
        · exact hz.2 w h
      obtain ⟨_, q'⟩ := p.lst s (strs_rels hok)
      refine wMt.of L2.mt_split ⟨toS z, toS [c], rfl, rfl, rfl, by rw [toS_len, szl]; exact hl, ?_⟩
      rw [txt_split hc]
      exact q'
    · exact p.elim
  · cases d <;> first | exact p.elim | (rename_i t; rcases t with _ | ⟨c, _ | ⟨c2, t⟩⟩ <;> exact p.elim)
theorem par_one (c : Nat) : ∀ (s acc : List Nat), TL.par [c] acc s = (match partC c s with | (a, true, b) => some (acc ++ a, b) | _ => none)
  | [], acc => rfl
  | a :: s, acc => by
    have hp : TL.pre [c] (a :: s) = decide (a = c) := by
      unfold TL.pre
      rw [Bool.eq_iff_iff, decide_eq_true_eq]
      simp
    unfold TL.par partC
    rw [hp]
    by_cases e : a = c
    · rw [if_pos (decide_eq_true e), if_pos e]
      simp
    · rw [if_neg (by rw [decide_eq_false e]; exact Bool.false_ne_true), if_neg e, par_one c s (acc ++ [a])]
      rcases partC c s with ⟨a', f, b'⟩
      cases f <;> simp
theorem partC_no (c : Nat) : ∀ s : List Nat, (partC c s).2.1 = false → partC c s = (s, false, [])
  | [], _ => rfl
  | a :: s, h => by
    unfold partC at h ⊢
    split
    · rename_i e; rw [if_pos e] at h; cases h
    · rename_i e
      rw [if_neg e] at h
      rcases hq : partC c s with ⟨a', f, b'⟩
      rw [hq] at h
      have h2 : f = false := h
      have := partC_no c s (by rw [hq]; exact h2)
      rw [hq] at this
      cases this
      rfl
theorem partC_mem (c : Nat) : ∀ s : List Nat, (∀ z ∈ (partC c s).1, z ∈ s) ∧ (∀ z ∈ (partC c s).2.2, z ∈ s) ∧ (partC c s).1.length ≤ s.length ∧ (partC c s).2.2.length ≤ s.length
  | [] => ⟨fun z h => h, fun z h => h, Nat.le_refl _, Nat.le_refl _⟩
  | a :: s => by
    obtain ⟨h1, h2, h3, h4⟩ := partC_mem c s
    unfold partC
    split
    · exact ⟨fun z h => (by cases h), fun z h => List.mem_cons_of_mem _ h, Nat.zero_le _, Nat.le_succ _⟩
    · refine ⟨fun z h => ?_, fun z h => List.mem_cons_of_mem _ (h2 z h), Nat.succ_le_succ h3, Nat.le_succ_of_le h4⟩
      rcases List.mem_cons.mp h with rfl | h
      · exact List.mem_cons_self
      · exact List.mem_cons_of_mem _ (h1 z h)
theorem m_part (s : SR L X.K env h r σ H) (gx : RelD L X.K H r dx x) (gs : RelDs L X.K H r ds xs) (p : Post L X.K (RV L X.K) W env σ r H Q (bmF C.base .partition dx ds h)) : wMt X "str.partition" x xs H Q := by
  cases dx <;> first | exact p.elim | skip
  rename_i z
  rcases ds with _ | ⟨d, _ | ⟨d2, ds⟩⟩ <;> first | exact p.elim | skip
  · cases d <;> first | exact p.elim | skip
    rename_i t
    rcases t with _ | ⟨c, _ | ⟨c2, t⟩⟩ <;> first | exact p.elim | skip
    obtain ⟨v, ys, rfl, g1, g2⟩ := rels1 gs
    cases rels0 g2
    obtain ⟨rfl, hz⟩ := rel_str gx
    obtain ⟨rfl, ht⟩ := rel_str g1
    have hc : c < 128 := ht.2 c List.mem_cons_self
    refine wMt.of L2.mt_partition ⟨toS z, toS [c], rfl, rfl, rfl, by rw [toS_len]; exact hz.1, fun q hq => ?_⟩
    have hpar := TL.partition_par (toS z) (toS [c]) (by unfold TL.tl; simp [toS])
    have e1 : TL.tl (toS [c]) = [c] := rfl
    have e2 : TL.tl (toS z) = z := rfl
    rw [e1, e2, par_one] at hpar
    obtain ⟨m1, m2, m3, m4⟩ := partC_mem c z
    have p : Post L X.K (RV L X.K) W env σ r H Q (match partC c z with | (a, f, b) => .ok (.tup [.str a, .str (if f then [c] else []), .str b]) h) := p
    have ok1 : okS (partC c z).1 := ⟨Nat.le_trans m3 hz.1, fun w hw => hz.2 w (m1 w hw)⟩
    have ok3 : okS (partC c z).2.2 := ⟨Nat.le_trans m4 hz.1, fun w hw => hz.2 w (m2 w hw)⟩
    have ok0 : okS [] := ⟨Nat.zero_le _, fun w hw => by cases hw⟩
    have ok2 : okS [c] := ht
    have key : RelDs L X.K H r [.str (partC c z).1, .str (if (partC c z).2.1 then [c] else []), .str (partC c z).2.2] [.str (Txt.partition (toS z) (toS [c])).1, .str (Txt.partition (toS z) (toS [c])).2.1, .str (Txt.partition (toS z) (toS [c])).2.2] := by
      cases hf : (partC c z).2.1 with
      | true =>
        have hpe : partC c z = ((partC c z).1, true, (partC c z).2.2) := by rw [← hf]
        rw [hpe] at hpar
        dsimp only at hpar
        rw [hpar]
        exact .cons (by rw [List.nil_append]; exact mk_str ok1) (.cons (mk_str ok2) (.cons (mk_str ok3) .nil))
      | false =>
        have hpe := partC_no c z hf
        rw [hpe] at hpar ok1 ok3 ⊢
        dsimp only at hpar
        rw [hpar]
        exact .cons (mk_str hz) (.cons (mk_str ok0) (.cons (mk_str ok0) .nil))
    obtain ⟨s', g'⟩ := new_tup s key hq
    have hpe : partC c z = ((partC c z).1, (partC c z).2.1, (partC c z).2.2) := rfl
    rw [hpe] at p
    exact p _ _ r (List.prefix_refl r) (Keep.new hq) s' g'
  · cases d <;> first | exact p.elim | (rename_i t; rcases t with _ | ⟨c, _ | ⟨c2, t⟩⟩ <;> exact p.elim)
end
end Y
set_option Elab.async false
set_option linter.all false
set_option maxRecDepth 100000
set_option maxHeartbeats 4000000
namespace PySem
open Sem (wp)
set_option maxHeartbeats 4000000 in
theorem yy_enum_new {v : Value} {o : Obj} {H : Heap → Prop} (B : Begins v o H) :
    Meets (Builtin.«enumerate.__new__» ⟨[.type "enumerate", v], []⟩) (fun _ R s => H s.heap ∧
      R (.ok (.ret (.ref (s.heap.push o).objs.size))) { s with heap := (s.heap.push o).push { cls := .type "enumerate", data := .fields #[.none, .bool false, .ref s.heap.objs.size, rawInt 0, .none, .none] } }) :=
  .of_wp fun prog w A R s h => by
    obtain ⟨hp, g, d, tk, os⟩ := s; obtain ⟨h1, h⟩ := h
    have hsub := sub_enumerate
    have q1 : ∀ {A' : Around} {E : Value → Shared → Prop} {Q : Value → Shared → Prop}, Q (.ref hp.objs.size) ⟨hp.push o, g, d, tk, os⟩ → wpAny (model prog w) A' (pyIter v) Q E ⟨hp, g, d, tk, os⟩ :=
      fun q => B.iter prog w _ _ ⟨hp, g, d, tk, os⟩ _ h1 q
    wp_walk using q1
    refine wpAny_stack_any fun st => wpAny_pure ?_
    split
    · rename_i c _ _ _ _ _
      cases (c == Value.type "enumerate")
      · wp_walk using q1
        exact ⟨_, rfl, h⟩
      · wp_walk using q1
        exact ⟨_, rfl, h⟩
    · wp_walk using q1
      exact ⟨_, rfl, h⟩
theorem yy_enum_call {prog : Program} {w : World} {A : Around} {E : Value → Shared → Prop} {s : Shared} {v : Value} {o : Obj} {H : Heap → Prop} {Q : Value → Shared → Prop} (B : Begins v o H) (h1 : H s.heap)
    (h : ∀ h', IsEnum h' (s.heap.objs.size + 1) s.heap.objs.size 0 .none → h'.get? s.heap.objs.size = some o → h'.objs.size = s.heap.objs.size + 2 →
      (∀ b o, s.heap.get? b = some o → h'.get? b = some o) → Q (.ref (s.heap.objs.size + 1)) { s with heap := h' }) :
    wpAny (model prog w) A (call (.type "enumerate") [v]) Q E s := by
  refine callType_new F.called_enumerate (by decide) (F.typeCall_enumerate_1 _) (F.newCall_enumerate_1 _) (fun obj => F.args_object_init_2 obj _) F.entry_enumerate_new
    (yy_enum_new B) ⟨h1, ?_⟩
  have hz : (s.heap.push o).objs.size = s.heap.objs.size + 1 := Heap.size_push ..
  show _ ∧ _
  rw [hz]
  have he : IsEnum ((s.heap.push o).push { cls := .type "enumerate", data := .fields #[.none, .bool false, .ref s.heap.objs.size, rawInt 0, .none, .none] }) (s.heap.objs.size + 1) s.heap.objs.size 0 .none := by
    have := Heap.get?_push_size (s.heap.push o) (o := { cls := .type "enumerate", data := .fields #[.none, .bool false, .ref s.heap.objs.size, rawInt 0, .none, .none] }) rfl
    rw [hz] at this; exact this
  refine ⟨⟨_, he, rfl⟩, h _ he (Heap.get?_push_of_some _ (Heap.get?_push_size _ B.free)) (by rw [Heap.size_push, hz]) fun b o x => Heap.get?_push_of_some _ (Heap.get?_push_of_some _ x)⟩
end PySem
namespace Y
open PySem PySem.Spec PyProof.Rows
open L2 (V Hp upd upd_same upd_ne ne_of ne_of_none RelV Vals SqL SqT Rd Cx Inv PE PT PW PS PSs PA PG PI TE TT TS TA TG TI VK XK Ends EP FpOk Turn PIE)
/-- a thing that is walked: a list, a tuple, a text -/
inductive SK where
  | lst (a : Addr) | tup (a : Addr) | txt (x : Str) (t : Tok)
def SK.ad : SK → List Addr
  | .lst a => [a]
  | .tup a => [a]
  | .txt _ _ => []
def SK.val : SK → Value
  | .lst a => .ref a
  | .tup a => .ref a
  | .txt x t => .str x t
def SK.obj : SK → Obj
  | .lst a => { cls := .type "list_iterator", data := .fields #[.ref a, .int 0 0] }
  | .tup a => { cls := .type "tuple_iterator", data := .fields #[.ref a, .int 0 0] }
  | .txt x t => { cls := .type (strIterType x), data := .fields #[.str x t, .int 0 0] }
/-- its iterator at it has given i -/
def SK.st : SK → Addr → Nat → PySem.Heap → Prop
  | .lst a, it, i, h => h.IsListIter it a i
  | .tup a, it, i, h => h.IsTupleIter it a i
  | .txt x t, it, i, h => h.IsStrIter it (strIterType x) x t i
def sgn (c : Nat) : V := .str ⟨#[c]⟩
/-- what it holds -/
def SK.has (K : PySem.W.Frag) (H : Hp) : SK → List V → Prop
  | .lst a, xs => SqL K H a xs
  | .tup a, xs => SqT K H a xs
  | .txt x _, xs => xs = x.cps.toList.map sgn
section
variable {X : Cx} {pins : List (Addr × Obj)} {σ : Sg} {H : Hp} {s : Shared}
theorem sk_inj (I : Inv X pins σ H s) : ∀ {k : SK} {xs ys : List V}, k.has X.K H xs → k.has X.K H ys → xs = ys
  | .lst a, _, _, h, g => I.list_inj h g
  | .tup a, _, _, h, g => I.tuple_inj h g
  | .txt x t, _, _, h, g => h.trans g.symm
theorem st_obj {k : SK} {it : Addr} {i : Nat} {h : PySem.Heap} (st : k.st it i h) : ∃ o, h.get? it = some o ∧ ∀ v, o.data ≠ .cell v := by
  cases k with
  | lst a => obtain ⟨o, e, c, d⟩ := st; exact ⟨o, e, fun v z => by rw [d] at z; cases z⟩
  | tup a => obtain ⟨o, e, c, d⟩ := st; exact ⟨o, e, fun v z => by rw [d] at z; cases z⟩
  | txt x t => obtain ⟨o, e, c, d⟩ := st; exact ⟨o, e, fun v z => by rw [d] at z; cases z⟩
theorem st_keep {k : SK} {it : Addr} {i : Nat} {h h' : PySem.Heap} (st : k.st it i h) (hk : ∀ o, h.get? it = some o → h'.get? it = some o) : k.st it i h' := by
  cases k with
  | lst a => exact PySem.Heap.IsListIter.at st hk
  | tup a => exact PySem.Heap.IsTupleIter.at st hk
  | txt x t => obtain ⟨o, e, c, d⟩ := st; exact ⟨o, hk o e, c, d⟩
theorem st_new (k : SK) (h : PySem.Heap) {it : Addr} (e : h.get? it = some k.obj) : k.st it 0 h := by
  cases k with
  | lst a => exact ⟨_, e, rfl, rfl⟩
  | tup a => exact ⟨_, e, rfl, rfl⟩
  | txt x t => exact ⟨_, e, rfl, rfl⟩
/-- the items as values -/
def Its (k : SK) (xs : List V) (vs : Array Value) (h : PySem.Heap) : Prop := match k with
  | .lst a => Vals xs vs.toList ∧ h.IsList a vs
  | .tup a => Vals xs vs.toList ∧ h.IsTuple a vs
  | .txt x _ => True
theorem its_of (I : Inv X pins σ H s) {k : SK} {xs : List V} (h : k.has X.K H xs) : ∃ vs, Its k xs vs s.heap := by
  cases k with
  | lst a => obtain ⟨its, rv, p, _⟩ := I.list h; exact ⟨its.toArray, rv, p.isList⟩
  | tup a => obtain ⟨its, rv, p, _⟩ := I.tuple h; exact ⟨its.toArray, rv, p⟩
  | txt x t => exact ⟨#[], trivial⟩
def begH (k : SK) (vs : Array Value) : PySem.Heap → Prop := match k with
  | .lst a => fun h => h.IsList a vs
  | .tup a => fun h => h.IsTuple a vs
  | .txt _ _ => fun _ => True
theorem beg_of (k : SK) (vs : Array Value) : Begins k.val k.obj (begH k vs) := by
  cases k with
  | lst a => exact begins_list a vs
  | tup a => exact begins_tuple a vs
  | txt x t => exact begins_text x t
theorem begH_of {k : SK} {xs : List V} {vs : Array Value} {h : PySem.Heap} (i : Its k xs vs h) : begH k vs h := by
  cases k with
  | lst a => exact i.2
  | tup a => exact i.2
  | txt x t => trivial
/-- what an iterator draws at one turn -/
structure Drw (P : Program) (w : World) (A : Around) (k : SK) (xs : List V) (it : Addr) (i : Nat) (h : PySem.Heap) (fp : List Addr) (Pp : Nat → Value → Prop) (St : Nat → PySem.Heap → Prop) : Prop where
  d : Draws P w A it fp xs.length Pp St
  fpe : fp = it :: k.ad
  st : St i h
  back : ∀ j h', St j h' → k.st it j h'
  val : ∀ j u, Pp j u → ∃ v, xs[j]? = some v ∧ RelV v u
theorem getR : ∀ {xs : List V} {us : List Value} {i : Nat} {u : Value}, Vals xs us → us[i]? = some u → ∃ x, xs[i]? = some x ∧ RelV x u
  | _, _, _, _, .nil, h => by simp at h
  | _, _, 0, _, .cons r _, h => by simp at h; subst h; exact ⟨_, rfl, r⟩
  | _, _, i + 1, _, .cons _ rs, h => by
    obtain ⟨x, e, q⟩ := getR (i := i) rs (by simpa using h)
    exact ⟨x, by simpa using e, q⟩
theorem drw_of {A : Around} (hh : A.handled = none) (I : Inv X pins σ H s) {k : SK} {xs : List V} {it : Addr} {i : Nat} (h : k.has X.K H xs) (st : k.st it i s.heap) (hne : ∀ b ∈ k.ad, b ≠ it) :
    ∃ fp Pp St, Drw X.prog X.w A k xs it i s.heap fp Pp St := by
  cases k with
  | lst a =>
    obtain ⟨its, rv, p, _⟩ := I.list h
    have el : xs.length = its.toArray.size := by rw [List.size_toArray]; exact rv.length
    refine ⟨[it, a], fun i v => its.toArray[i]? = some v, fun i h => h.IsListIter it a i ∧ h.IsList a its.toArray, ?_, rfl, ⟨st, p.isList⟩, fun j h' z => z.1, fun j u e => ?_⟩
    · rw [el]; exact Draws.list hh it a (hne a (by simp [SK.ad])) its.toArray
    · have e : its[j]? = some u := by simpa using e
      exact getR rv e
  | tup a =>
    obtain ⟨its, rv, p, _⟩ := I.tuple h
    have el : xs.length = its.toArray.size := by rw [List.size_toArray]; exact rv.length
    refine ⟨[it, a], fun i v => its.toArray[i]? = some v, fun i h => h.IsTupleIter it a i ∧ h.IsTuple a its.toArray, ?_, rfl, ⟨st, p⟩, fun j h' z => z.1, fun j u e => ?_⟩
    · rw [el]; exact Draws.tuple hh it a (hne a (by simp [SK.ad])) its.toArray
    · have e : its[j]? = some u := by simpa using e
      exact getR rv e
  | txt x t =>
    have h : xs = x.cps.toList.map sgn := h
    have el : xs.length = x.cps.size := by rw [h]; simp
    refine ⟨[it], fun i v => ∃ c u, x.cps[i]? = some c ∧ v = .str ⟨#[c]⟩ u, fun i h => h.IsStrIter it (strIterType x) x t i, ?_, rfl, st, fun j h' z => z, fun j u ⟨c, tk, e1, e2⟩ => ?_⟩
    · rw [el]; exact Draws.text hh it x t
    · subst h e2
      exact ⟨sgn c, by simp [e1], ⟨tk, rfl⟩⟩
def ItE (K : PySem.W.Frag) (k : SK) : L2.It :=
  ⟨fun i H => ∃ xs, k.has K H xs ∧ i < xs.length, fun i H v H' => ∃ T x, v = .ref T ∧ H T = none ∧ H' = upd H T (.tup [.int (i : Nat), x]) ∧ ∀ xs, k.has K H xs → xs[i]? = some x, fun i H => ∃ xs, k.has K H xs ∧ i = xs.length⟩
theorem turn_en {P : Program} {w : World} {K : PySem.W.Frag} {elts : List Expr} {kk : Nat} {tpos : Pos} {k : SK} {e it : Addr} (hne : e ≠ it) (h1 : ∀ b ∈ k.ad, b ≠ it) (h2 : ∀ b ∈ k.ad, e ≠ b) :
    Turn P w K (.Tuple elts kk tpos) (ItE K k) [e, it] e (fun i h => (∃ old, IsEnum h e it ((i : Nat) : Int) old) ∧ k.st it i h) where
  mem := by simp
  obj := fun i h st b hb => by
    obtain ⟨⟨old, he⟩, hs⟩ := st
    have e' : b = e ∨ b = it := by simpa using hb
    rcases e' with z | z
    · rw [z]; exact ⟨_, he, fun v q => nomatch q⟩
    · rw [z]; exact st_obj hs
  keep := fun i h h' st kp => let ⟨⟨old, he⟩, hi⟩ := st; ⟨⟨old, kp e (by simp) _ he⟩, st_keep hi fun o q => kp it (by simp) o q⟩
  item := by
    intro X hP hw hK hc i pins s σ H E I hf st hg
    subst hP hw hK
    obtain ⟨⟨old, he⟩, hit⟩ := st
    obtain ⟨xs, hx, hi⟩ := hg
    obtain ⟨fp, Pp, St, D⟩ := drw_of (A := X.A.in1) (I.ok.hd hc) I hx hit h1
    have hel : e < s.heap.objs.size := Heap.lt_size he
    have hil : it < s.heap.objs.size := by obtain ⟨_, q, _⟩ := st_obj hit; exact Heap.lt_size q
    have hef : e ∉ fp := by
      rw [D.fpe]
      intro m
      rcases List.mem_cons.mp m with m | m
      · exact hne m
      · exact h2 e m rfl
    refine wpAny_pyNext_enum_itemD D.d he D.st hi hne hef fun u h' tk hu ho hit' hT hsz hk => ?_
    obtain ⟨x, ex, ru⟩ := D.val i u hu
    refine ⟨_, rfl, wpAny_letOwnedTupleGo_enum (s := { s with heap := h', toks := tk + 1 }) ho fun h'' he' sb => ?_⟩
    have hT2 : h''.get? s.heap.objs.size = some { cls := .type "tuple", data := .seq #[.int i tk, u] } := (sb.2 _ (Nat.ne_of_gt hel)).trans hT
    have new : L2.ObjOk X.prog X.w (upd H s.heap.objs.size (.tup [.int (i : Nat), x])) h'' s.heap.objs.size (.tup [.int (i : Nat), x]) :=
      ⟨by show 2 ≤ PySem.sizeLine; rw [szl]; decide, [.int i tk, u], .cons ⟨_, rfl⟩ (.cons ru .nil), ⟨_, hT2, rfl, _, rfl⟩⟩
    have I1 : Inv X pins σ (upd H s.heap.objs.size (.tup [.int (i : Nat), x])) { s with heap := h'', toks := tk + 1 } :=
      I.turnedNew (ch := [e, it]) (fun b ob hb q => (sb.2 b (fun z => hb (by simp [z]))).trans (hk b ob (fun z => hb (by simp [z])) (fun z => hb (by simp [z])) q)) hf (Nat.le_refl _) new
    refine ⟨.ref s.heap.objs.size, _, I1, rfl, ⟨_, x, rfl, I.hok.fresh (Nat.le_refl _), rfl, fun ys hy => by rw [sk_inj I hy hx]; exact ex⟩, ⟨⟨u, ?_⟩, st_keep (D.back _ _ hit') fun o q => (sb.2 it (Ne.symm hne)).trans q⟩, fun b hb => ?_⟩
    · have e1 : ((i + 1 : Nat) : Int) = (i : Int) + 1 := by omega
      rw [e1]; exact he'
    · have hb' : b < s.heap.objs.size := by
        have e' : b = e ∨ b = it := by simpa using hb
        rcases e' with z | z
        · rw [z]; exact hel
        · rw [z]; exact hil
      rw [upd_ne (Nat.ne_of_lt hb')]
      exact (hf b hb).1
  done := by
    intro X hP hw hK hc i pins s σ H E I hf st hg
    subst hP hw hK
    obtain ⟨⟨old, he⟩, hit⟩ := st
    obtain ⟨xs, hx, hi⟩ := hg
    subst hi
    obtain ⟨fp, Pp, St, D⟩ := drw_of (A := X.A.in1) (I.ok.hd hc) I hx hit h1
    obtain ⟨f0, f1, f2, f3, f4, f5⟩ := hf it (by simp)
    exact wpAny_pyNext_enum_endD D.d he D.st fun h' eb => ⟨rfl, I.turned (t' := s.toks) (fun b o hb q => eb b o hb q) f0 f1 f3 f4 f5⟩
  self := fun A i s Q E st h => let ⟨⟨_, he⟩, _⟩ := st; wpAny_pyIter_enum he h
def ItZ (K : PySem.W.Frag) (k l : SK) : L2.It :=
  ⟨fun i H => ∃ xs ys, k.has K H xs ∧ l.has K H ys ∧ i < xs.length ∧ i < ys.length,
    fun i H v H' => ∃ T x y, v = .ref T ∧ H T = none ∧ H' = upd H T (.tup [x, y]) ∧ (∀ xs, k.has K H xs → xs[i]? = some x) ∧ ∀ ys, l.has K H ys → ys[i]? = some y,
    fun i H => ∃ xs ys, k.has K H xs ∧ l.has K H ys ∧ i ≤ xs.length ∧ i ≤ ys.length ∧ (i = xs.length ∨ i = ys.length)⟩
/-- the cells of a zip lie apart from each other and from what is walked -/
structure ZA (z TI TO i1 i2 : Addr) (k l : SK) : Prop where
  TIz : TI ≠ z
  TOz : TO ≠ z
  TITO : TI ≠ TO
  TI1 : TI ≠ i1
  TI2 : TI ≠ i2
  z1 : z ≠ i1
  z2 : z ≠ i2
  T1 : TO ≠ i1
  T2 : TO ≠ i2
  i12 : i1 ≠ i2
  ap : ∀ b, b ∈ k.ad ∨ b ∈ l.ad → b ≠ z ∧ b ≠ TO ∧ b ≠ i1 ∧ b ≠ i2
theorem ZA.sep {z TI TO i1 i2 : Addr} {k l : SK} (a : ZA z TI TO i1 i2 k l) : ZipSep2 z TI TO i1 i2 (i1 :: k.ad) (i2 :: l.ad) where
  TIz := a.TIz
  TOz := a.TOz
  TITO := a.TITO
  TIi1 := a.TI1
  mem1 := List.mem_cons_self
  zf1 := fun m => by
    rcases List.mem_cons.mp m with m | m
    · exact a.z1 m
    · exact (a.ap z (.inl m)).1 rfl
  Tf1 := fun m => by
    rcases List.mem_cons.mp m with m | m
    · exact a.T1 m
    · exact (a.ap TO (.inl m)).2.1 rfl
  TIi2 := a.TI2
  mem2 := List.mem_cons_self
  zf2 := fun m => by
    rcases List.mem_cons.mp m with m | m
    · exact a.z2 m
    · exact (a.ap z (.inr m)).1 rfl
  Tf2 := fun m => by
    rcases List.mem_cons.mp m with m | m
    · exact a.T2 m
    · exact (a.ap TO (.inr m)).2.1 rfl
  sep1_2 := fun m => by
    rcases List.mem_cons.mp m with m | m
    · exact a.i12 m
    · exact (a.ap i1 (.inr m)).2.2.1 rfl
  sep2_1 := fun m => by
    rcases List.mem_cons.mp m with m | m
    · exact a.i12 m.symm
    · exact (a.ap i2 (.inl m)).2.2.2 rfl
theorem turn_zp {P : Program} {w : World} {K : PySem.W.Frag} {elts : List Expr} {kk : Nat} {tpos : Pos} {k l : SK} {z TI TO i1 i2 : Addr} (a : ZA z TI TO i1 i2 k l) :
    Turn P w K (.Tuple elts kk tpos) (ItZ K k l) [z, TI, TO, i1, i2] z (fun i h => IsZip h z TI TO .none ∧ IsTupOf2 h TI (.ref i1) (.ref i2) ∧ (∃ x y, IsTupOf2 h TO x y) ∧ k.st i1 i h ∧ l.st i2 i h) where
  mem := by simp
  obj := fun i h st c hc => by
    obtain ⟨hz, hTI, ⟨x, y, hTO⟩, h1, h2⟩ := st
    have e' : c = z ∨ c = TI ∨ c = TO ∨ c = i1 ∨ c = i2 := by simpa using hc
    rcases e' with q | q | q | q | q
    · rw [q]; exact ⟨_, hz, fun v q => nomatch q⟩
    · rw [q]; exact ⟨_, hTI, fun v q => nomatch q⟩
    · rw [q]; exact ⟨_, hTO, fun v q => nomatch q⟩
    · rw [q]; exact st_obj h1
    · rw [q]; exact st_obj h2
  keep := fun i h h' st kp => by
    obtain ⟨hz, hTI, ⟨x, y, hTO⟩, h1, h2⟩ := st
    exact ⟨kp z (by simp) _ hz, kp TI (by simp) _ hTI, ⟨x, y, kp TO (by simp) _ hTO⟩, st_keep h1 fun o q => kp i1 (by simp) o q, st_keep h2 fun o q => kp i2 (by simp) o q⟩
  item := by
    intro X hP hw hK hc i pins s σ H E I hf st hg
    subst hP hw hK
    obtain ⟨hz, hTI, ⟨x0, y0, hTO⟩, h1, h2⟩ := st
    obtain ⟨xs, ys, hx, hy, l1, l2⟩ := hg
    obtain ⟨fp1, Pp1, St1, D1⟩ := drw_of (A := X.A.in1) (I.ok.hd hc) I hx h1 fun b hb => (a.ap b (.inl hb)).2.2.1
    obtain ⟨fp2, Pp2, St2, D2⟩ := drw_of (A := X.A.in1) (I.ok.hd hc) I hy h2 fun b hb => (a.ap b (.inr hb)).2.2.2
    have hzl : z < s.heap.objs.size := Heap.lt_size hz
    have S := a.sep
    rw [← D1.fpe, ← D2.fpe] at S
    refine wpAny_pyNext_zipD2_item S D1.d D2.d hz hTI hTO D1.st D2.st l1 l2 fun u u2 h' tk p1 p2 z' TO' s1 s2 hT hsz hk => ?_
    obtain ⟨x, ex, ru⟩ := D1.val i u p1
    obtain ⟨y, ey, ru2⟩ := D2.val i u2 p2
    refine ⟨_, rfl, wpAny_letOwnedTupleGo_zip (s := { s with heap := h', toks := tk }) z' fun h'' z'' sb => ?_⟩
    have hT2 : h''.get? s.heap.objs.size = some { cls := .type "tuple", data := .seq #[u, u2] } := (sb.2 _ (Nat.ne_of_gt hzl)).trans hT
    have new : L2.ObjOk X.prog X.w (upd H s.heap.objs.size (.tup [x, y])) h'' s.heap.objs.size (.tup [x, y]) :=
      ⟨by show 2 ≤ PySem.sizeLine; rw [szl]; decide, [u, u2], .cons ru (.cons ru2 .nil), ⟨_, hT2, rfl, _, rfl⟩⟩
    have I1 : Inv X pins σ (upd H s.heap.objs.size (.tup [x, y])) { s with heap := h'', toks := tk } :=
      I.turnedNew (ch := [z, TI, TO, i1, i2]) (fun c o hb q => (sb.2 c (fun q' => hb (by simp [q']))).trans (hk c o (fun q' => hb (by simp [q'])) (fun q' => hb (by simp [q'])) (fun q' => hb (by simp [q'])) (fun q' => hb (by simp [q'])) q)) hf (Nat.le_refl _) new
    refine ⟨.ref s.heap.objs.size, _, I1, rfl, ⟨_, x, y, rfl, I.hok.fresh (Nat.le_refl _), rfl, fun l hl => by rw [sk_inj I hl hx]; exact ex, fun l hl => by rw [sk_inj I hl hy]; exact ey⟩, ⟨z'', ?_, ⟨u, u2, ?_⟩, ?_, ?_⟩, fun c hcm => ?_⟩
    · exact (sb.2 _ a.TIz).trans (hk _ _ a.TIz a.TITO a.TI1 a.TI2 hTI)
    · exact (sb.2 _ a.TOz).trans TO'
    · exact st_keep (D1.back _ _ s1) fun o q => (sb.2 _ (Ne.symm a.z1)).trans q
    · exact st_keep (D2.back _ _ s2) fun o q => (sb.2 _ (Ne.symm a.z2)).trans q
    · have hlt : c < s.heap.objs.size := by
        have e' : c = z ∨ c = TI ∨ c = TO ∨ c = i1 ∨ c = i2 := by simpa using hcm
        rcases e' with q | q | q | q | q
        · rw [q]; exact hzl
        · rw [q]; exact Heap.lt_size hTI
        · rw [q]; exact Heap.lt_size hTO
        · rw [q]; obtain ⟨_, e1, _⟩ := st_obj h1; exact Heap.lt_size e1
        · rw [q]; obtain ⟨_, e2, _⟩ := st_obj h2; exact Heap.lt_size e2
      rw [upd_ne (Nat.ne_of_lt hlt)]
      exact (hf c hcm).1
  done := by
    intro X hP hw hK hc i pins s σ H E I hf st hg
    subst hP hw hK
    obtain ⟨hz, hTI, ⟨x0, y0, hTO⟩, h1, h2⟩ := st
    obtain ⟨xs, ys, hx, hy, l1, l2, hend⟩ := hg
    obtain ⟨fp1, Pp1, St1, D1⟩ := drw_of (A := X.A.in1) (I.ok.hd hc) I hx h1 fun b hb => (a.ap b (.inl hb)).2.2.1
    obtain ⟨fp2, Pp2, St2, D2⟩ := drw_of (A := X.A.in1) (I.ok.hd hc) I hy h2 fun b hb => (a.ap b (.inr hb)).2.2.2
    have S := a.sep
    rw [← D1.fpe, ← D2.fpe] at S
    exact wpAny_pyNext_zipD2_end S D1.d D2.d hz hTI hTO D1.st D2.st l1 l2 hend fun h' tk hk => ⟨rfl, I.turnedL (t' := tk) (ch := [z, TI, TO, i1, i2]) (fun c o hb q =>
      hk c o (fun q' => hb (by simp [q'])) (fun q' => hb (by simp [q'])) (fun q' => hb (by simp [q'])) (fun q' => hb (by simp [q'])) q) hf⟩
  self := fun A i s Q E st h => wpAny_pyIter_zip st.1 h
end
end Y
set_option Elab.async false
set_option linter.all false
set_option maxRecDepth 100000
set_option maxHeartbeats 4000000
namespace Y
open PySem PySem.Spec PyProof.Rows
open L2 (V Hp upd upd_same upd_ne ne_of ne_of_none RelV Vals SqL SqT Rd Cx Inv PE PT PW PS PSs PA PG PI TE TT TS TA TG TI VK XK Ends EP FpOk Turn PIE)
section
variable {L : Lk} {C : Ctx} {n : Nat} {W : XK} {X : Cx} {H : Hp} {r : List Addr} {h : Heap} {env : Env} {σ : Sg} {Q : VK} {x y : V} {dx dy : D} {pos p0 : Pos} {pe pe2 pe3 tg : Expr} {m m2 m3 : MV}
/-- the interpreter's walk and the model's -/
def IRel (L : Lk) (K : PySem.W.Frag) (H : Hp) (r : List Addr) (w : It) (J : L2.It) : Prop :=
  ∀ (i : Nat) (env : Env) (h' : Heap) (r' : List Addr) (σ : Sg) (H' : Hp), r <+: r' → Keep H H' → SR L K env h' r' σ H' → match w.next i h' with
    | .item d => J.go i H' ∧ ∀ x H'', J.yld i H' x H'' → Keep H' H'' ∧ SR L K env h' r' σ H'' ∧ RelD L K H'' r' d x
    | .stop => J.stop i H'
    | .err => True
def rdI (L : Lk) (K : PySem.W.Frag) (W : XK) (m : MI) : TI := fun σ H R => ∃ env h r, SR L K env h r σ H ∧ Post L K (IRel L K) W env σ r H R (m env h)
theorem _root_.L2.PI.imp {X : Cx} {tg e : Expr} {t t' : TI} (h : PI X tg e t) (i : ∀ σ H R, t' σ H R → t σ H R) : PI X tg e t' := ⟨fun pins s σ H R I q => h.run pins s σ H R I (i σ H R q)⟩
theorem Post.hereI {R : L2.It → Hp → Prop} {w : It} {J : L2.It} (p : Post L X.K (IRel L X.K) W env σ r H R (.ok w h)) (s : SR L X.K env h r σ H) (g : IRel L X.K H r w J) : R J H := p J H r (List.prefix_refl r) (Keep.refl H) s g
/-- a thing that is walked by its items -/
inductive KRel (L : Lk) (K : PySem.W.Frag) (H : Hp) (r : List Addr) : It → SK → Prop where
  | lst {a : Nat} {p : Addr} (e : r[a]? = some p) : KRel L K H r (.seq a) (.lst p)
  | tup {ds : List D} {p : Addr} (e : RelD L K H r (.tup ds) (.ref p)) : KRel L K H r (.tup ds) (.tup p)
  | txt {s : List Nat} {t : Tok} (e : okS s) : KRel L K H r (.str s) (.txt (toS s) t)
theorem KRel.mono {K : PySem.W.Frag} {H H' : Hp} {r r' : List Addr} {w : It} {k : SK} (g : KRel L K H r w k) (kp : Keep H H') (pr : r <+: r') : KRel L K H' r' w k := by
  cases g with
  | lst e =>
    refine .lst ?_
    obtain ⟨t, rfl⟩ := pr
    rw [List.getElem?_append_left (List.getElem?_eq_some_iff.mp e).1]
    exact e
  | tup e => exact .tup (e.mono kp pr)
  | txt e => exact .txt e
theorem sgn_rel {s : List Nat} (hs : okS s) : ∀ {t : List Nat}, (∀ c ∈ t, c ∈ s) → RelDs L X.K H r (t.map fun c => .str [c]) (t.map sgn)
  | [], _ => .nil
  | c :: t, h => .cons (mk_str (a := [c]) ⟨by show 1 ≤ PySem.sizeLine; rw [szl]; decide, fun z hz => by simp at hz; subst hz; exact hs.2 _ (h _ List.mem_cons_self)⟩) (sgn_rel hs fun d hd => h d (List.mem_cons_of_mem _ hd))
/-- its items now -/
theorem krel_next {w : It} {k : SK} (s : SR L X.K env h r σ H) (g : KRel L X.K H r w k) (i : Nat) : w.next i h = .err ∨ ∃ xs, k.has X.K H xs ∧
    ((∃ d x, w.next i h = .item d ∧ i < xs.length ∧ xs[i]? = some x ∧ RelD L X.K H r d x) ∨ (w.next i h = .stop ∧ i = xs.length)) := by
  cases g with
  | @lst a p e =>
    unfold It.next
    cases el : list? h (.ref a) with
    | none => exact .inl rfl
    | some ds =>
      have ea := list?_ref el
      obtain ⟨xs, h1, h2⟩ := s.hr.at_ a _ p ea e
      dsimp only
      cases ed : ds[i]? with
      | some d =>
        obtain ⟨v, e1, e2⟩ := h2.get ed
        exact .inr ⟨xs, L2.SqL.of h1, .inl ⟨d, v, rfl, by rw [← h2.length]; exact (List.getElem?_eq_some_iff.mp ed).1, e1, e2⟩⟩
      | none =>
        dsimp only
        by_cases hi : i = ds.length
        · rw [if_pos hi]
          exact .inr ⟨xs, L2.SqL.of h1, .inr ⟨rfl, by rw [← h2.length]; exact hi⟩⟩
        · rw [if_neg hi]; exact .inl rfl
  | @tup ds p e =>
    unfold It.next
    obtain ⟨q, xs, eq, sq, gs⟩ := rel_tup e
    cases eq
    cases ed : ds[i]? with
    | some d =>
      obtain ⟨v, e1, e2⟩ := gs.get ed
      exact .inr ⟨xs, sq, .inl ⟨d, v, rfl, by rw [← gs.length]; exact (List.getElem?_eq_some_iff.mp ed).1, e1, e2⟩⟩
    | none =>
      dsimp only
      by_cases hi : i = ds.length
      · rw [if_pos hi]
        exact .inr ⟨xs, sq, .inr ⟨rfl, by rw [← gs.length]; exact hi⟩⟩
      · rw [if_neg hi]; exact .inl rfl
  | @txt z t e =>
    unfold It.next
    have gs := sgn_rel (L := L) (X := X) (H := H) (r := r) e (t := z) fun c h => h
    have hh : (SK.txt (toS z) t).has X.K H (z.map sgn) := rfl
    cases ed : z[i]? with
    | some c =>
      have ed' : (z.map fun c => D.str [c])[i]? = some (.str [c]) := by rw [List.getElem?_map, ed]; rfl
      obtain ⟨v, e1, e2⟩ := gs.get ed'
      exact .inr ⟨_, hh, .inl ⟨.str [c], v, rfl, by rw [List.length_map]; exact (List.getElem?_eq_some_iff.mp ed).1, e1, e2⟩⟩
    | none =>
      dsimp only
      by_cases hi : i = z.length
      · rw [if_pos hi]
        exact .inr ⟨_, hh, .inr ⟨rfl, by rw [List.length_map]; exact hi⟩⟩
      · rw [if_neg hi]; exact .inl rfl
/-- .. of whoever reads it at a later heap -/
theorem has_inj (K : PySem.W.Frag) (H : Hp) : True := trivial
theorem irel_lst {a : Nat} {p : Addr} (e : r[a]? = some p) : IRel L X.K H r (.seq a) (L2.Itl X.K p) := fun i env h' r' σ H' pr kp s => by
  have g := (KRel.lst (L := L) (K := X.K) (H := H) e).mono kp pr
  rcases krel_next s g i with z | ⟨xs, hx, z⟩
  · rw [z]; trivial
  · rcases z with ⟨d, x, e1, hi, e2, e3⟩ | ⟨e1, hi⟩
    · rw [e1]
      exact ⟨⟨xs, x, hx, e2⟩, fun y H'' ⟨e4, e5⟩ => by subst e4; rw [e5 xs hx] at e2; cases e2; exact ⟨Keep.refl _, s, e3⟩⟩
    · rw [e1]
      exact ⟨xs, hx, by omega⟩
theorem irel_tup {ds : List D} {p : Addr} (e : RelD L X.K H r (.tup ds) (.ref p)) : IRel L X.K H r (.tup ds) (L2.Itt X.K p) := fun i env h' r' σ H' pr kp s => by
  have g := (KRel.tup (L := L) (K := X.K) (H := H) e).mono kp pr
  rcases krel_next s g i with z | ⟨xs, hx, z⟩
  · rw [z]; trivial
  · rcases z with ⟨d, x, e1, hi, e2, e3⟩ | ⟨e1, hi⟩
    · rw [e1]
      exact ⟨⟨xs, x, hx, e2⟩, fun y H'' ⟨e4, e5⟩ => by subst e4; rw [e5 xs hx] at e2; cases e2; exact ⟨Keep.refl _, s, e3⟩⟩
    · rw [e1]
      exact ⟨xs, hx, by omega⟩
theorem irel_str {z : List Nat} (e : okS z) : IRel L X.K H r (.str z) (L2.Its (toS z)) := fun i env h' r' σ H' pr kp s => by
  have hsz : (toS z).cps.size = z.length := by simp [toS]
  unfold It.next
  cases ed : z[i]? with
  | some c =>
    have hc : (toS z).cps[i]? = some c := by simp [toS, ed]
    refine ⟨by show i < (toS z).cps.size; rw [hsz]; exact (List.getElem?_eq_some_iff.mp ed).1, fun y H'' ⟨e4, c', e5, e6⟩ => ?_⟩
    subst e4
    rw [hc] at e5; cases e5
    subst e6
    exact ⟨Keep.refl _, s, mk_str (a := [c]) ⟨by show 1 ≤ PySem.sizeLine; rw [szl]; decide, fun q hq => by simp at hq; subst hq; exact e.2 _ (List.mem_of_getElem? ed)⟩⟩
  | none =>
    by_cases hi : i = z.length
    · show match (if i = z.length then Nxt.stop else Nxt.err) with | .item d => _ | .stop => _ | .err => True
      rw [if_pos hi]
      show (toS z).cps.size ≤ i
      rw [hsz]; omega
    · show match (if i = z.length then Nxt.stop else Nxt.err) with | .item d => _ | .stop => _ | .err => True
      rw [if_neg hi]
      trivial
/-- the iterator of a value -/
theorem itv_ok (s : SR L X.K env h r σ H) (gx : RelD L X.K H r dx x) {R : L2.It → Hp → Prop} (p : Post L X.K (IRel L X.K) W env σ r H R (iterR dx h)) {pins : List (Addr × Obj)} {s1 : Shared} {v : Value} (I1 : Inv X pins σ H s1) (rx : RelV x v) :
    wpAny (model X.prog X.w) X.A (pyIter v) (PIE X pins σ tg R) X.xe s1 := by
  unfold iterR at p
  split at p
  · rename_i w ew
    unfold iterOf at ew
    split at ew
    · cases ew
      obtain ⟨q, xs, rfl, sq, gs⟩ := rel_tup gx
      obtain rfl : v = Value.ref q := rx
      obtain ⟨its, rv, pp, hz⟩ := I1.tuple sq
      have qq := p.hereI s (irel_tup gx)
      refine wpAny_pyIter_tuple (show s1.heap.IsTuple q its.toArray from pp) (L2.pi_one (tk := s1.toks) I1 _ (L2.turn_tuple q _) ⟨_, Heap.get?_push_size _ rfl, rfl, rfl⟩ qq)
    · cases ew
      obtain ⟨rfl, ha⟩ := rel_str gx
      obtain ⟨t, rfl⟩ := rx
      have qq := p.hereI s (irel_str ha)
      rename_i z
      cases ha : (toS z).cps.all (· < 128)
      · exact wpAny_pyIter_wide ha (L2.pi_one (tk := s1.toks) I1 _ (L2.turn_str _ (toS z) t "str_iterator" (.inr rfl)) ⟨_, Heap.get?_push_size _ rfl, rfl, rfl⟩ qq)
      · exact wpAny_pyIter_ascii ha (L2.pi_one (tk := s1.toks) I1 _ (L2.turn_str _ (toS z) t "str_ascii_iterator" (.inl rfl)) ⟨_, Heap.get?_push_size _ rfl, rfl, rfl⟩ qq)
    · rename_i a
      unfold Heap.at at ew
      split at ew
      · rename_i ds ea
        cases ew
        obtain ⟨q, us, rfl, ep, hp, gs⟩ := rel_lst s gx ea
        obtain rfl : v = Value.ref q := rx
        obtain ⟨its, rv, pp, hz⟩ := I1.list (L2.SqL.of hp)
        have qq := p.hereI s (irel_lst ep)
        exact wpAny_pyIter_list pp.isList (L2.pi_one (tk := s1.toks) I1 _ (L2.turn_list q _) ⟨_, Heap.get?_push_size _ rfl, rfl, rfl⟩ qq)
      · cases ew
    · cases ew
  · exact p.elim
theorem piY (he : PE X pe (rd L X.K W m)) : PI X tg pe (rdI L X.K W (fun env h => (m env h).bind iterR)) :=
  ⟨fun pins s σ H R I ⟨env, h, r, sr, p⟩ => L2.thn (he.run pins s σ H _ I ⟨env, h, r, sr, Post.bind (R := RV L X.K) p⟩) fun v s1 ⟨x, H1, I1, rx, dx, h1, r1, a1, p1⟩ => itv_ok a1.s a1.rel p1 I1 rx⟩
theorem irel_rng {lo c : Int} {k : Nat} : IRel L X.K H r (.rng lo k c) (L2.Itc lo c k) := fun i env h' r' σ H' pr kp s => by
  unfold It.next
  by_cases hi : i < k
  · rw [if_pos hi]
    exact ⟨hi, fun y H'' ⟨e4, e5⟩ => by subst e4 e5; exact ⟨Keep.refl _, s, mk_int⟩⟩
  · rw [if_neg hi]
    exact Nat.le_of_not_lt hi
theorem irel_rng1 {lo : Int} {k : Nat} : IRel L X.K H r (.rng lo k 1) (L2.Itr lo k) := fun i env h' r' σ H' pr kp s => by
  unfold It.next
  by_cases hi : i < k
  · rw [if_pos hi]
    exact ⟨hi, fun y H'' ⟨e4, e5⟩ => by subst e4 e5; rw [Int.mul_one]; exact ⟨Keep.refl _, s, mk_int⟩⟩
  · rw [if_neg hi]
    exact Nat.le_of_not_lt hi
theorem rngSmall_of {i : Int} (h : rngSmall i = true) : -(2 ^ 62) ≤ i ∧ i < 2 ^ 62 := by
  unfold rngSmall at h
  simp only [Bool.and_eq_true, decide_eq_true_eq] at h
  omega
theorem gl_range (g : Good L C n W X) (hg : glB X.env.scope "range" = true) : L2.Gl X "range" ∧ X.mg "range" = none := ⟨(gl_of hg).1, g.link.bG _ (by decide +kernel)⟩
theorem pi_rng1Y (g : Good L C n W X) (hg : glB X.env.scope "range" = true) (ha : PE X pe (rd L X.K W m)) (hs : ∀ es, starEach (pe :: es) X.env = (false, eval pe X.env) :: starEach es X.env) :
    PI X tg (.Call (.Name "range" p0) [pe] [] pos) (rdI L X.K W (iRng1 m)) :=
  (L2.pi_range1 (gl_range g hg).1 (gl_range g hg).2 (L2.pa_cons ha L2.pa_nil (hs [])) (hs [])).imp fun σ H R ⟨env, h, r, s, p⟩ => ⟨env, h, r, s, (Post.bind (R := RV L X.K) p).mono fun x H1 ⟨dx, h1, r1, a1, p1⟩ => by
    cases dx <;> first | exact p1.elim | skip
    rename_i j
    cases rel_int a1.rel
    dsimp only at p1
    split at p1
    · rename_i hj
      obtain ⟨b1, b2⟩ := rngSmall_of hj
      exact ⟨j, rfl, b1, b2, p1.hereI a1.s irel_rng1⟩
    · exact p1.elim⟩
theorem pi_rng2Y (g : Good L C n W X) (hg : glB X.env.scope "range" = true) (ha : PE X pe (rd L X.K W m)) (hb : PE X pe2 (rd L X.K W m2)) (hs : ∀ es, starEach (pe :: es) X.env = (false, eval pe X.env) :: starEach es X.env) (hs2 : ∀ es, starEach (pe2 :: es) X.env = (false, eval pe2 X.env) :: starEach es X.env) :
    PI X tg (.Call (.Name "range" p0) [pe, pe2] [] pos) (rdI L X.K W (iRng2 m m2)) :=
  (L2.pi_range2 (gl_range g hg).1 (gl_range g hg).2 (L2.pa_cons ha (L2.pa_cons hb L2.pa_nil (hs2 [])) (hs [pe2])) (by rw [hs [pe2], hs2 []]; rfl) (hs2 [])).imp fun σ H R ⟨env, h, r, s, p⟩ => ⟨env, h, r, s, (Post.bind (R := RV L X.K) p).mono fun x H1 ⟨dx, h1, r1, a1, p1⟩ =>
    ⟨env, h1, r1, a1.s, (Post.bind (R := RV L X.K) p1).mono fun y H2 ⟨dy, h2, r2, a2, p2⟩ => by
    have gx := a1.rel.mono a2.k a2.pr
    cases dx <;> first | exact p2.elim | skip
    cases dy <;> first | exact p2.elim | skip
    rename_i i j
    cases rel_int gx
    cases rel_int a2.rel
    dsimp only at p2
    split at p2
    · rename_i hj
      obtain ⟨b1, b2⟩ := Bool.and_eq_true_iff.mp hj
      obtain ⟨c1, c2⟩ := rngSmall_of b1
      obtain ⟨c3, c4⟩ := rngSmall_of b2
      exact ⟨_, _, rfl, ⟨c1, c2, c3, c4⟩, p2.hereI a2.s irel_rng1⟩
    · exact p2.elim⟩⟩
theorem size_of (a b c : Int) (hc : c ≠ 0) : Builtin.Range.rangeSize a b c = ((if 0 < c then (if a < b then ((b - a - 1) / c + 1).toNat else 0) else (if b < a then ((a - b - 1) / (-c) + 1).toNat else 0) : Nat) : Int) := by
  unfold Builtin.Range.rangeSize
  by_cases h : 0 < c
  · rw [if_pos h, if_pos (show c > 0 from h)]
    split
    · have := Int.ediv_nonneg (show 0 ≤ b - a - 1 by omega) (show 0 ≤ c by omega)
      omega
    · rfl
  · rw [if_neg h, if_neg (show ¬ c > 0 from h)]
    by_cases h2 : b < a
    · rw [if_pos h2, if_pos (show a > b from h2)]
      have := Int.ediv_nonneg (show 0 ≤ a - b - 1 by omega) (show 0 ≤ -c by omega)
      omega
    · rw [if_neg h2, if_neg (show ¬ a > b from h2)]
      rfl
theorem small_rng {a b c : Int} (ha : rngSmall a = true) (hb : rngSmall b = true) (hc : c ≠ 0) (hl : c.natAbs < 1073741824) : Builtin.Range.small a b c = true := by
  obtain ⟨a1, a2⟩ := rngSmall_of ha
  obtain ⟨b1, b2⟩ := rngSmall_of hb
  have hn := size_of a b c hc
  have fit : ∀ i : Int, -(2 ^ 63) ≤ i → i < 2 ^ 63 → Builtin.Range.rangeFitsLong i = true := fun i h1 h2 => by
    unfold Builtin.Range.rangeFitsLong
    simp only [Bool.and_eq_true, decide_eq_true_eq]
    omega
  have hsz : 0 ≤ Builtin.Range.rangeSize a b c ∧ Builtin.Range.rangeSize a b c < 2 ^ 63 := by
    unfold Builtin.Range.rangeSize
    split
    · rename_i h
      split
      · have e1 := Int.ediv_nonneg (show 0 ≤ b - a - 1 by omega) (show 0 ≤ c by omega)
        have e2 := Int.ediv_le_self (a := b - a - 1) c (by omega)
        omega
      · omega
    · rename_i h
      split
      · have e1 := Int.ediv_nonneg (show 0 ≤ a - b - 1 by omega) (show 0 ≤ -c by omega)
        have e2 := Int.ediv_le_self (a := a - b - 1) (-c) (by omega)
        omega
      · omega
  unfold Builtin.Range.small
  rw [fit a (by omega) (by omega), fit b (by omega) (by omega), fit c (by omega) (by omega), fit _ (by omega) (by omega)]
  by_cases h : c > 0
  · rw [if_pos h, fit (b + (c - 1)) (by omega) (by omega)]; simp
  · rw [if_neg h, fit (b + (c + 1)) (by omega) (by omega)]; simp
theorem rng3_of {a b c : Int} {w : It} (e : rng3 a b c = some w) : ∃ k, w = .rng a k c ∧ L2.RgC a b c k := by
  unfold rng3 at e
  split at e
  · rename_i h
    simp only [Bool.and_eq_true, decide_eq_true_eq] at h
    obtain ⟨⟨⟨h1, h2⟩, h3⟩, h4⟩ := h
    cases e
    exact ⟨_, rfl, h3, h4, small_rng h1 h2 h3 h4, size_of a b c h3⟩
  · cases e
theorem pi_rng3Y (g : Good L C n W X) (hg : glB X.env.scope "range" = true) (ha : PE X pe (rd L X.K W m)) (hb : PE X pe2 (rd L X.K W m2)) (hc : PE X pe3 (rd L X.K W m3)) (hs : ∀ es, starEach (pe :: es) X.env = (false, eval pe X.env) :: starEach es X.env) (hs2 : ∀ es, starEach (pe2 :: es) X.env = (false, eval pe2 X.env) :: starEach es X.env) (hs3 : ∀ es, starEach (pe3 :: es) X.env = (false, eval pe3 X.env) :: starEach es X.env) :
    PI X tg (.Call (.Name "range" p0) [pe, pe2, pe3] [] pos) (rdI L X.K W (iRng3 m m2 m3)) :=
  (L2.pi_range3 (gl_range g hg).1 (gl_range g hg).2 (L2.pa_cons ha (L2.pa_cons hb (L2.pa_cons hc L2.pa_nil (hs3 [])) (hs2 [pe3])) (hs [pe2, pe3])) (hs [pe2, pe3]) (by rw [hs2 [pe3], hs3 []]; rfl)).imp fun σ H R ⟨env, h, r, s, p⟩ => ⟨env, h, r, s, (Post.bind (R := RV L X.K) p).mono fun x H1 ⟨dx, h1, r1, a1, p1⟩ =>
    ⟨env, h1, r1, a1.s, (Post.bind (R := RV L X.K) p1).mono fun y H2 ⟨dy, h2, r2, a2, p2⟩ =>
    ⟨env, h2, r2, a2.s, (Post.bind (R := RV L X.K) p2).mono fun z H3 ⟨dz, h3, r3, a3, p3⟩ => by
    have gx := (a1.rel.mono a2.k a2.pr).mono a3.k a3.pr
    have gy := a2.rel.mono a3.k a3.pr
    cases dx <;> first | exact p3.elim | skip
    cases dy <;> first | exact p3.elim | skip
    cases dz <;> first | exact p3.elim | skip
    rename_i i j k
    cases rel_int gx
    cases rel_int gy
    cases rel_int a3.rel
    dsimp only at p3
    split at p3
    · rename_i w ew
      obtain ⟨q, rfl, hq⟩ := rng3_of ew
      exact ⟨_, _, _, q, rfl, hq, p3.hereI a3.s irel_rng⟩
    · exact p3.elim⟩⟩⟩
theorem pair_rel (s : SR L X.K env h r σ H) {d1 d2 : D} {x y : V} (g1 : RelD L X.K H r d1 x) (g2 : RelD L X.K H r d2 y) {T : Addr} (hT : H T = none) : Keep H (upd H T (.tup [x, y])) ∧ SR L X.K env h r σ (upd H T (.tup [x, y])) ∧ RelD L X.K (upd H T (.tup [x, y])) r (.tup [d1, d2]) (.ref T) := by
  obtain ⟨s', g'⟩ := new_tup s (.cons g1 (.cons g2 .nil)) hT
  exact ⟨Keep.new hT, s', g'⟩
theorem irel_enm {w : It} {k : SK} (g : KRel L X.K H r w k) : IRel L X.K H r (.enm w) (ItE X.K k) := fun i env h' r' σ H' pr kp s => by
  have g := g.mono kp pr
  unfold It.next
  rcases krel_next s g i with z | ⟨xs, hx, z⟩
  · rw [z]; trivial
  · rcases z with ⟨d, x, e1, hi, e2, e3⟩ | ⟨e1, hi⟩
    · rw [e1]
      refine ⟨⟨xs, hx, hi⟩, fun y H'' ⟨T, x', e4, e5, e6, e7⟩ => ?_⟩
      rw [e7 xs hx] at e2
      cases e2
      subst e4 e6
      exact pair_rel s mk_int e3 e5
    · rw [e1]
      exact ⟨xs, hx, hi⟩
/-- what a value's walk is -/
theorem krel_of (s : SR L X.K env h r σ H) (gx : RelD L X.K H r dx x) {w : It} (e : iterOf h dx = some w) {v : Value} (rx : RelV x v) : ∃ k : SK, k.val = v ∧ KRel L X.K H r w k := by
  unfold iterOf at e
  split at e
  · cases e
    obtain ⟨q, xs, rfl, sq, gs⟩ := rel_tup gx
    obtain rfl : v = Value.ref q := rx
    exact ⟨.tup q, rfl, .tup gx⟩
  · cases e
    obtain ⟨rfl, ha⟩ := rel_str gx
    obtain ⟨t, rfl⟩ := rx
    exact ⟨.txt _ t, rfl, .txt ha⟩
  · rename_i a
    unfold Heap.at at e
    split at e
    · rename_i ds ea
      cases e
      obtain ⟨q, us, rfl, ep, hp, gs⟩ := rel_lst s gx ea
      obtain rfl : v = Value.ref q := rx
      exact ⟨.lst q, rfl, .lst ep⟩
    · cases e
  · cases e
theorem krel_has {w : It} {k : SK} (s : SR L X.K env h r σ H) (g : KRel L X.K H r w k) (hl : ∀ a, w = .seq a → ∃ ds, h[a]? = some (.lst ds)) : ∃ xs, k.has X.K H xs := by
  cases g with
  | @lst a p e =>
    obtain ⟨ds, ea⟩ := hl a rfl
    obtain ⟨xs, h1, h2⟩ := s.hr.at_ a _ p ea e
    exact ⟨xs, L2.SqL.of h1⟩
  | @tup ds p e =>
    obtain ⟨q, xs, eq, sq, gs⟩ := rel_tup e
    cases eq
    exact ⟨xs, sq⟩
  | @txt z t e => exact ⟨_, rfl⟩
theorem iter_lst {w : It} (e : iterOf h dx = some w) : ∀ a, w = .seq a → ∃ ds, h[a]? = some (.lst ds) := fun a ea => by
  unfold iterOf at e
  split at e
  · cases e; cases ea
  · cases e; cases ea
  · unfold Heap.at at e
    split at e
    · cases e; cases ea; exact ⟨_, by assumption⟩
    · cases e
  · cases e
theorem ad_lt {pins : List (Addr × Obj)} {s1 : Shared} {k : SK} {xs : List V} (I : Inv X pins σ H s1) (hk : k.has X.K H xs) : ∀ b ∈ k.ad, b < s1.heap.objs.size := by
  intro b hb
  cases k with
  | lst a =>
    have e : b = a := by simpa [SK.ad] using hb
    subst e
    obtain ⟨its, rv, p, _⟩ := I.list hk
    exact p.lt
  | tup a =>
    have e : b = a := by simpa [SK.ad] using hb
    subst e
    obtain ⟨its, rv, ⟨o, ho, _⟩, _⟩ := I.tuple hk
    exact Heap.lt_size ho
  | txt x t => simp [SK.ad] at hb
theorem gl_blt (g : Good L C n W X) {z : Str} (hz : z ∈ blts) (hg : glB X.env.scope z = true) : L2.Gl X z ∧ X.mg z = none := ⟨(gl_of hg).1, g.link.bG _ hz⟩
theorem pi_enmY (g : Good L C n W X) {elts : List Expr} {kk : Nat} {tpos : Pos} (hg : glB X.env.scope "enumerate" = true) (ha : PE X pe (rd L X.K W m)) (hs : ∀ es, starEach (pe :: es) X.env = (false, eval pe X.env) :: starEach es X.env) :
    PI X (.Tuple elts kk tpos) (.Call (.Name "enumerate" p0) [pe] [] pos) (rdI L X.K W (iEnm m)) := by
  obtain ⟨g1, g2⟩ := gl_blt g (by decide +kernel) hg
  refine ⟨fun pins s σ H R I ⟨env, h, r, sr, p⟩ => ?_⟩
  refine Call_ (L2.ld_blt I g1 g2 boot_enumerate (PyProof.Rows.callWith_type1 (args_cons (L2.thn (ha.run pins s σ H _ I ⟨env, h, r, sr, Post.bind (R := RV L X.K) p⟩) fun u s1 ⟨x, H1, I1, rx, dx, h1, r1, a1, p1⟩ => args_nil ?_) (hs [])) (hs []) rfl))
  unfold iterR at p1
  cases ew : iterOf h1 dx with
  | none => rw [ew] at p1; exact p1.elim
  | some w =>
    rw [ew] at p1
    obtain ⟨k, hk, kr⟩ := krel_of a1.s a1.rel ew rx
    subst hk
    obtain ⟨xs, hx⟩ := krel_has a1.s kr (iter_lst ew)
    obtain ⟨vs, hi⟩ := its_of I1 hx
    refine yy_enum_call (beg_of k vs) (begH_of hi) fun h' he hit hsz hkp => wpAny_pyIter_enum he ?_
    have I2 : Inv X pins σ H1 { s1 with heap := h' } := I1.kept (t' := s1.toks) hkp
    have lt := ad_lt I1 hx
    refine ⟨s1.heap.objs.size + 1, [s1.heap.objs.size + 1, s1.heap.objs.size], _, _, H1, rfl, I2, turn_en (k := k) (e := s1.heap.objs.size + 1) (it := s1.heap.objs.size) (Nat.succ_ne_self _) (fun b hb => Nat.ne_of_lt (lt b hb)) (fun b hb => Nat.ne_of_gt (Nat.lt_succ_of_lt (lt b hb))), ⟨⟨.none, he⟩, st_new k h' hit⟩, fun b hb => ?_, p1.hereI a1.s (irel_enm kr)⟩
    have e' : b = s1.heap.objs.size + 1 ∨ b = s1.heap.objs.size := by simpa using hb
    have hle : s1.heap.objs.size ≤ b := by
      rcases e' with z | z
      · rw [z]; exact Nat.le_add_right _ _
      · rw [z]; exact Nat.le_refl _
    exact I1.fpOk hle (I1.hok.fresh hle)
theorem irel_zip {w1 w2 : It} {k l : SK} (g1 : KRel L X.K H r w1 k) (g2 : KRel L X.K H r w2 l) : IRel L X.K H r (.zip w1 w2) (ItZ X.K k l) := fun i env h' r' σ H' pr kp s => by
  have g1 := g1.mono kp pr
  have g2 := g2.mono kp pr
  unfold It.next
  rcases krel_next s g1 i with z1 | ⟨xs, hx, z1⟩
  · rw [z1]
    trivial
  · rcases krel_next s g2 i with z2 | ⟨ys, hy, z2⟩
    · rw [z2]
      rcases z1 with ⟨d, x, e1, _⟩ | ⟨e1, _⟩ <;> (rw [e1]; trivial)
    · rcases z1 with ⟨d, x, e1, hi, e2, e3⟩ | ⟨e1, hi⟩
      · rcases z2 with ⟨d2, x2, f1, hi2, f2, f3⟩ | ⟨f1, hi2⟩
        · rw [e1, f1]
          refine ⟨⟨xs, ys, hx, hy, hi, hi2⟩, fun y H'' ⟨T, x', y', e4, e5, e6, e7, e8⟩ => ?_⟩
          rw [e7 xs hx] at e2
          rw [e8 ys hy] at f2
          cases e2; cases f2
          subst e4 e6
          exact pair_rel s e3 f3 e5
        · rw [e1, f1]
          exact ⟨xs, ys, hx, hy, by omega, by omega, .inr hi2⟩
      · rcases z2 with ⟨d2, x2, f1, hi2, f2, f3⟩ | ⟨f1, hi2⟩
        · rw [e1, f1]
          exact ⟨xs, ys, hx, hy, by omega, by omega, .inl hi⟩
        · rw [e1, f1]
          exact ⟨xs, ys, hx, hy, by omega, by omega, .inl hi⟩
theorem nn {a b : Nat} (h : a ≠ b) : (a : Addr) ≠ (b : Addr) := h
theorem za_of (N : Nat) {k l : SK} (h : ∀ b : Nat, b ∈ k.ad ∨ b ∈ l.ad → b < N) : ZA (N + 4) (N + 2) (N + 3) N (N + 1) k l where
  TIz := nn (by omega)
  TOz := nn (by omega)
  TITO := nn (by omega)
  TI1 := nn (by omega)
  TI2 := nn (by omega)
  z1 := nn (by omega)
  z2 := nn (by omega)
  T1 := nn (by omega)
  T2 := nn (by omega)
  i12 := nn (by omega)
  ap := fun b hb => by
    have := h b hb
    exact ⟨nn (by omega), nn (by omega), nn (by omega), nn (by omega)⟩
theorem le_of (N c : Nat) (h : c = N + 4 ∨ c = N + 2 ∨ c = N + 3 ∨ c = N ∨ c = N + 1) : N ≤ c := by omega
theorem pi_zipY (g : Good L C n W X) {elts : List Expr} {kk : Nat} {tpos : Pos} (hg : glB X.env.scope "zip" = true) (ha : PE X pe (rd L X.K W m)) (hb : PE X pe2 (rd L X.K W m2)) (hs : ∀ es, starEach (pe :: es) X.env = (false, eval pe X.env) :: starEach es X.env) (hs2 : ∀ es, starEach (pe2 :: es) X.env = (false, eval pe2 X.env) :: starEach es X.env) :
    PI X (.Tuple elts kk tpos) (.Call (.Name "zip" p0) [pe, pe2] [] pos) (rdI L X.K W (fun env h => (m env h).bind fun x h => (m2 env h).bind fun y h => (iterR x h).bind fun v h => (iterR y h).bind fun w h => .ok (.zip v w) h)) := by
  obtain ⟨g1, g2⟩ := gl_blt g (by decide +kernel) hg
  refine ⟨fun pins s σ H R I ⟨env, h, r, sr, p⟩ => ?_⟩
  refine Call_ (L2.ld_blt I g1 g2 PyProof.Rows.boot_zip (PyProof.Rows.callWith_type1 (args_cons (L2.thn (ha.run pins s σ H _ I ⟨env, h, r, sr, Post.bind (R := RV L X.K) p⟩) fun u s1 ⟨x, H1, I1, rx, dx, h1, r1, a1, p1⟩ =>
    args_cons (L2.thn (hb.run pins s1 σ H1 _ I1 ⟨env, h1, r1, a1.s, Post.bind (R := RV L X.K) p1⟩) fun u2 s2 ⟨y, H2, I2, ry, dy, h2, r2, a2, p2⟩ => args_nil ?_) (hs2 [])) (hs [pe2])) (hs [pe2]) (by rw [hs2 []]; rfl)))
  have gx := a1.rel.mono a2.k a2.pr
  unfold iterR at p2
  cases ew : iterOf h2 dx with
  | none => rw [ew] at p2; exact p2.elim
  | some w =>
  cases ew2 : iterOf h2 dy with
  | none => rw [ew] at p2; dsimp only [Res.bind] at p2; rw [ew2] at p2; exact p2.elim
  | some w2 =>
    rw [ew] at p2
    dsimp only [Res.bind] at p2
    rw [ew2] at p2
    obtain ⟨k, hk, kr⟩ := krel_of a2.s gx ew rx
    obtain ⟨l, hl, lr⟩ := krel_of a2.s a2.rel ew2 ry
    subst hk hl
    obtain ⟨xs, hx⟩ := krel_has a2.s kr (iter_lst ew)
    obtain ⟨ys, hy⟩ := krel_has a2.s lr (iter_lst ew2)
    obtain ⟨vs, hi⟩ := its_of I2 hx
    obtain ⟨vs2, hi2⟩ := its_of I2 hy
    have lt1 := ad_lt I2 hx
    have lt2 := ad_lt I2 hy
    refine zip_begins2 (beg_of k vs) (beg_of l vs2) (begH_of hi) (begH_of hi2) fun h' hz hTI hTO h1' h2' hsz hkp => wpAny_pyIter_zip hz ?_
    have I3 : Inv X pins σ H2 { s2 with heap := h' } := I2.kept (t' := s2.toks) hkp
    have za := za_of s2.heap.objs.size (k := k) (l := l) fun b hb => by rcases hb with hb | hb; exact lt1 b hb; exact lt2 b hb
    refine ⟨s2.heap.objs.size + 4, [s2.heap.objs.size + 4, s2.heap.objs.size + 2, s2.heap.objs.size + 3, s2.heap.objs.size, s2.heap.objs.size + 1], _, _, H2, rfl, I3, turn_zp za, ⟨hz, hTI, ⟨_, _, hTO⟩, st_new k h' h1', st_new l h' h2'⟩, fun c hcm => ?_, p2.hereI a2.s (irel_zip kr lr)⟩
    have e' : c = s2.heap.objs.size + 4 ∨ c = s2.heap.objs.size + 2 ∨ c = s2.heap.objs.size + 3 ∨ c = s2.heap.objs.size ∨ c = s2.heap.objs.size + 1 := by simpa using hcm
    have hle : s2.heap.objs.size ≤ c := le_of _ _ e'
    exact I2.fpOk hle (I2.hok.fresh hle)
theorem pi_rvdY (g : Good L C n W X) (hg : glB X.env.scope "reversed" = true) (ha : PE X pe (rd L X.K W m)) (hs : ∀ es, starEach (pe :: es) X.env = (false, eval pe X.env) :: starEach es X.env) :
    PI X tg (.Call (.Name "reversed" p0) [pe] [] pos) (rdI L X.K W (fun env h => (m env h).bind rvdR)) := by
  obtain ⟨g1, g2⟩ := gl_blt g (by decide +kernel) hg
  refine (RT.pi_revA g1 g2 ha (hs [])).imp fun σ H R ⟨env, h, r, s, p⟩ => ⟨env, h, r, s, (Post.bind (R := RV L X.K) p).mono fun x H1 ⟨dx, h1, r1, a1, p1⟩ => ?_⟩
  unfold rvdR at p1
  split at p1
  · rename_i ds
    obtain ⟨q, xs, rfl, sq, gs⟩ := rel_tup a1.rel
    refine ⟨q, xs, rfl, .inr ⟨sq, p1.hereI a1.s fun i env h' r' σ H' pr kp s => ?_⟩⟩
    have gs := gs.mono kp pr
    have sq := kp.sqT X.K sq
    unfold It.next
    cases ed : ds.reverse[i]? with
    | some d =>
      have hi : i < ds.length := by have := (List.getElem?_eq_some_iff.mp ed).1; simpa using this
      rw [List.getElem?_reverse hi] at ed
      obtain ⟨v, e1, e2⟩ := gs.get ed
      rw [gs.length] at e1
      refine ⟨⟨by rw [← gs.length]; exact hi, xs, v, sq, e1⟩, fun y H'' ⟨e4, e5⟩ => ?_⟩
      subst e4
      rw [e5 xs sq] at e1; cases e1
      exact ⟨Keep.refl _, s, e2⟩
    | none =>
      have hi : ds.length ≤ i := by have := List.getElem?_eq_none_iff.mp ed; simpa using this
      by_cases hj : i = ds.reverse.length
      · show match (if i = ds.reverse.length then Nxt.stop else Nxt.err) with | .item d => _ | .stop => _ | .err => True
        rw [if_pos hj]
        show xs.length ≤ i
        rw [← gs.length]; exact hi
      · show match (if i = ds.reverse.length then Nxt.stop else Nxt.err) with | .item d => _ | .stop => _ | .err => True
        rw [if_neg hj]; trivial
  · rename_i a
    unfold Heap.at at p1
    split at p1
    · rename_i ds ea
      obtain ⟨q, us, rfl, ep, hp, gs⟩ := rel_lst a1.s a1.rel ea
      refine ⟨q, us, rfl, .inl ⟨L2.SqL.of hp, p1.hereI a1.s fun i env h' r' σ H' pr kp s => ?_⟩⟩
      have ep' : r'[a]? = some q := by
        obtain ⟨t, rfl⟩ := pr
        rw [List.getElem?_append_left (List.getElem?_eq_some_iff.mp ep).1]; exact ep
      unfold It.next
      cases el : list? h' (.ref a) with
      | none => trivial
      | some zs =>
        have ea' := list?_ref el
        obtain ⟨ys, h1, h2⟩ := s.hr.at_ a _ q ea' ep'
        dsimp only
        by_cases hl : zs.length = ds.length
        · rw [if_pos hl]
          by_cases hi : i < ds.length
          · rw [if_pos hi]
            cases ed : zs[ds.length - 1 - i]? with
            | none => trivial
            | some d =>
              obtain ⟨v, e1, e2⟩ := h2.get ed
              rw [← gs.length]
              refine ⟨⟨hi, ys, v, L2.SqL.of h1, e1⟩, fun y H'' ⟨e4, e5⟩ => ?_⟩
              subst e4
              rw [e5 ys (L2.SqL.of h1)] at e1; cases e1
              exact ⟨Keep.refl _, s, e2⟩
          · rw [if_neg hi]
            show us.length ≤ i
            rw [← gs.length]; omega
        · rw [if_neg hl]; trivial
    · exact p1.elim
  · exact p1.elim
end
end Y
set_option Elab.async false
set_option linter.all false
set_option maxRecDepth 100000
set_option maxHeartbeats 4000000
namespace PySem
open Sem (wp)
namespace RvS
open PySem.Spec PyProof.Rows
theorem norev : typeLookup (.type "str") "__reversed__" = pure none := by rw [typeLookup_type, builtinLookup_eq_fast]; kernel_rfl
theorem getit : typeLookup (.type "str") "__getitem__" = pure (some (.builtin "str.__getitem__")) := by rw [typeLookup_type, builtinLookup_eq_fast]; kernel_rfl
def rsObj (x : Str) (t : Tok) (i : Int) : Obj := { cls := .type "reversed", data := .fields #[.str x t, rawInt i] }
def IsRs (h : Heap) (a : Addr) (x : Str) (t : Tok) (i : Int) : Prop := ∃ o, h.get? a = some o ∧ o.cls = .type "reversed" ∧ o.data = .fields #[.str x t, rawInt i]
theorem IsRs.at {h h' : Heap} {a : Addr} {x : Str} {t : Tok} {i : Int} (z : IsRs h a x t i) (e : ∀ o, h.get? a = some o → h'.get? a = some o) : IsRs h' a x t i := let ⟨o, ho, r⟩ := z; ⟨o, e _ ho, r⟩
section
variable {prog : Program} {w : World} {A : Around} {E : Value → Shared → Prop} {s : Shared} {x : Str} {t : Tok}
theorem IsRs.typeIs {a : Addr} {i : Int} (z : IsRs s.heap a x t i) : s.TypeIs (.ref a) "reversed" := let ⟨o, ho, hc, _⟩ := z; ⟨o, ho, hc⟩
theorem code_rev {Q₁ : Value → Shared → Prop} (hz : x.length ≤ sizeLine) (h : Q₁ (.ref s.heap.objs.size) { s with heap := s.heap.push (rsObj x t ((x.length : Int) - 1)), toks := s.toks + 1 + 1 }) :
    codeAny (model prog w) A (.call (.builtin "reversed.__new__") ⟨[.type "reversed", .str x t], []⟩) (wants Q₁ E) s := by
  have hT : s.TypeIs (.str x t) "str" := typeIs_str _ _ _
  rw [sizeLine_eq] at hz
  refine codeAny_of_tree ?_
  show wpAny _ A.in1 (do checkBuiltinCall "reversed.__new__" ⟨[.type "reversed", .str x t], []⟩; again (.builtin "reversed.__new__" ⟨[.type "reversed", .str x t], []⟩)) _ _ s
  refine wpAny_bind (wpAny_of_eq (F.newCall_reversed_1 _) (wpAny_pure ⟨plainId_quiet F.plain_reversed_new _, codeAny_builtin F.entry_reversed_new ?_⟩))
  rw [Around.under_plainId F.plain_reversed_new _]
  unfold Builtin.«reversed.__new__»
  refine wpAny_bind (wpAny_of_eq (newClass_reversed _) ?_)
  try dsimp only
  refine wpAny_bind (wpAny_of_eq (a := ()) (by first | rfl | kernel_rfl) ?_)
  try dsimp only
  refine wpAny_bind (wpAny_of_eq (a := ()) (by first | rfl | kernel_rfl) ?_)
  try dsimp only
  refine wpAny_bind (wpAny_specialOf hT norev ?_)
  try dsimp only
  refine wpAny_bind ?_
  wp_delta
  refine wpAny_bind (wpAny_isInstance (T := "str") (U := "dict") (b := false) hT PySem.F.sub_str_dict ?_)
  try dsimp only
  try rw [if_neg Bool.false_ne_true]
  try dsimp only
  refine wpAny_bind (wpAny_specialOf hT getit ?_)
  try dsimp only
  try rw [if_pos (by decide +kernel)]
  refine wpAny_pure ?_
  try dsimp only
  try rw [if_neg (by decide)]
  try dsimp only
  refine wpAny_bind (PyProof.Rows.len_str (by omega) ?_)
  refine wpAny_bind (wpAny_of_eq (a := some ((x.length : Nat) : Int)) rfl ?_)
  try dsimp only
  refine wpAny_bind ?_
  show wpAny _ _ (newObj (.type "reversed") (.fields #[.str x t, rawInt ((x.length : Int) - 1)])) _ _ _
  refine wpAny_newObj_type ?_
  exact wpAny_pure h
theorem call_rev {Q : Value → Shared → Prop} (hz : x.length ≤ sizeLine) (h : Q (.ref s.heap.objs.size) { s with heap := s.heap.push (rsObj x t ((x.length : Int) - 1)), toks := s.toks + 1 + 1 }) : wpAny (model prog w) A (call (.type "reversed") [.str x t]) Q E s := by
  refine callType_codes (Q₁ := fun obj s₁ => s₁.TypeIs obj "reversed" ∧ Q obj s₁) RT.called_rt (F.typeCall_reversed_1 _) F.entry_object_init
    (code_rev (A := A.in1) hz ⟨⟨_, Heap.get?_push_size _ rfl, rfl⟩, h⟩) fun obj s₁ h₁ => ?_
  exact ⟨h₁.1, F.args_object_init_2 obj _, object_init_meets RT.called_rt.init.lookup RT.called_rt.made (by decide) prog w A.in1 _ s₁ ⟨h₁.1, rfl, h₁.2⟩⟩
theorem next_item {it : Addr} {i c : Nat} {Q : Value → Shared → Prop} (hit : IsRs s.heap it x t (i : Int)) (hx : x.cps[i]? = some c) (hz : x.length ≤ sizeLine)
    (hQ : ∀ h' u k, IsRs h' it x t ((i : Int) - 1) → Heap.SameBut it s.heap h' → Q (.str ⟨#[c]⟩ u) { s with heap := h', toks := k }) : wpAny (model prog w) A (Builtin.SmallTypes.nextOf (.ref it)) Q E s := by
  obtain ⟨o, ho, hc, hd⟩ := id hit
  have hi : i < x.cps.size := (Array.getElem?_eq_some_iff.mp hx).1
  have hi' : i < x.length := hi
  have hT : s.TypeIs (.str x t) "str" := typeIs_str _ _ _
  rw [sizeLine_eq] at hz
  unfold Builtin.SmallTypes.nextOf
  refine wpAny_bind (wpAny_callSpecial?_slot (name := Str.ofString "__next__") hit.typeIs RT.slot_rt_next
    (wpAny_call_entry RT.slot_rt_next hit.typeIs RT.entry_rt_next ?_ (RT.args_rt_next _)))
  unfold Builtin.«reversed.__next__»
  refine wpAny_bind (wpAny_of_eq (a := (Value.ref it, [])) rfl ?_)
  try dsimp only
  refine wpAny_bind (wpAny_field ho hd (x := .str x t) rfl ?_)
  try dsimp only
  refine wpAny_bind (wpAny_field ho hd (x := rawInt (i : Int)) rfl ?_)
  show wpAny _ _ (if (i : Int) < 0 then _ else _) _ _ s
  rw [if_neg (by omega)]
  try dsimp only
  refine wpAny_bind (wpAny_specialOf hT getit ?_)
  try dsimp only
  try rw [if_neg (by decide)]
  try dsimp only
  refine wpAny_bind (wpAny_mkInt ?_)
  refine wpAny_bind (wpAny_attempt ?_)
  have fin : (seqIndex? (i : Int) x.length).bind (x.cps[·]?) = some c := by rw [seqIndex_of (by omega) (by omega)]; exact hx
  refine PyProof.Rows.getItem_str (s := { s with toks := s.toks + 1 }) (by simp; omega) fin ?_
  try dsimp only
  refine wpAny_bind (wpAny_field (s := { s with toks := s.toks + 1 + 1 }) ho hd (x := rawInt (i : Int)) rfl ?_)
  try dsimp only
  refine wpAny_bind (wpAny_setField (s := { s with toks := s.toks + 1 + 1 }) ho hd (by simp) ?_)
  first
  | refine wpAny_pure ⟨_, rfl, wpAny_pure (hQ _ _ _ ?_ (Heap.SameBut.update ..))⟩
  | refine wpAny_bind (wpAny_pure (wpAny_pure ⟨_, rfl, wpAny_pure (hQ _ _ _ ?_ (Heap.SameBut.update ..))⟩))
  exact ⟨_, Heap.get?_update_self _ ho (Obj.isFreed_of_fields (Obj.data_mapFields hd _)), (Obj.cls_mapFields ..).trans hc, by
    rw [Obj.data_mapFields hd]; simp⟩
theorem next_end {it : Addr} {Q : Value → Shared → Prop} (hh : A.handled = none) (hit : IsRs s.heap it x t (-1))
    (hE : ∀ h' e, Heap.ExtBut it s.heap h' → (∃ o, h'.get? e = some o ∧ o.cls = .type "StopIteration") → E (.ref e) { s with heap := h' }) : wpAny (model prog w) A (Builtin.SmallTypes.nextOf (.ref it)) Q E s := by
  obtain ⟨o, ho, hc, hd⟩ := id hit
  unfold Builtin.SmallTypes.nextOf
  refine wpAny_bind (wpAny_callSpecial?_slot (name := Str.ofString "__next__") hit.typeIs RT.slot_rt_next
    (wpAny_call_entry RT.slot_rt_next hit.typeIs RT.entry_rt_next ?_ (RT.args_rt_next _)))
  unfold Builtin.«reversed.__next__»
  refine wpAny_bind (wpAny_of_eq (a := (Value.ref it, [])) rfl ?_)
  try dsimp only
  refine wpAny_bind (wpAny_field ho hd (x := .str x t) rfl ?_)
  try dsimp only
  refine wpAny_bind (wpAny_field ho hd (x := rawInt (-1)) rfl ?_)
  show wpAny _ _ (if (-1 : Int) < 0 then _ else _) _ _ s
  rw [if_pos (by decide)]
  try dsimp only
  refine wpAny_bind (wpAny_rule ?_)
  refine wpAny_bind ?_
  wp_delta
  refine wpAny_bind (wpAny_setField ho hd (by simp) ?_)
  have ho2 := Heap.get?_update_self (Obj.mapFields (·.setIfInBounds 1 (rawInt (-1)))) ho (Obj.isFreed_of_fields (Obj.data_mapFields hd _))
  refine wpAny_setField (s := { s with heap := s.heap.update it (Obj.mapFields (·.setIfInBounds 1 (rawInt (-1)))) }) ho2 (Obj.data_mapFields hd _) (by simp) ?_
  try dsimp only
  first
  | show wpAny _ _ (newExc (.type "StopIteration") [] >>= _) _ _ _
  | (refine wpAny_bind ?_; show wpAny _ _ (newExc (.type "StopIteration") [] >>= _) _ _ _)
  | (refine wpAny_bind ?_; wp_delta; show wpAny _ _ (newExc (.type "StopIteration") [] >>= _) _ _ _)
  refine wpAny_bind ?_
  simp only [newExc, newTuple]
  refine wpAny_bind (wpAny_newObj_type ?_ (by size_fits))
  refine wpAny_bind (m := firstArgMember _ _) (wpAny_of_eq (a := Value.none) (by first | rfl | (simp only [firstArgMember]; rfl)) ?_)
  refine wpAny_newObj_type ?_ (by size_fits)
  simp only [raiseNew]
  refine wpAny_bind (wpAny_handled ?_)
  first | rw [show A.in1.handled = none from hh] | rw [hh]
  refine wpAny_bind (wpAny_pure (wpAny_throw ?_))
  refine hE _ _ ?_ ⟨_, Heap.get?_push_size _ rfl, rfl⟩
  refine ((?_ : Heap.ExtBut it s.heap _).push _).push _
  exact fun b ob hb e => (Heap.get?_update_other _ _ (Ne.symm hb)).trans ((Heap.get?_update_other _ _ (Ne.symm hb)).trans e)
theorem iter {it : Addr} {i : Int} {Q : Value → Shared → Prop} (hit : IsRs s.heap it x t i) (h : Q (.ref it) s) : wpAny (model prog w) A (pyIter (.ref it)) Q E s := by
  refine wpAny_pyIter_slot hit.typeIs RT.slot_rt_iter (wpAny_call_entry RT.slot_rt_iter hit.typeIs RT.entry_rt_iter ?_ (RT.args_rt_iter _))
  show wpAny _ _ (ret (.ref it)) _ _ s
  exact wpAny_pure ⟨_, rfl, "reversed", _, hit.typeIs, RT.slot_rt_next.lookup, h⟩
end
/-- the state behind i items -/
def St (it : Addr) (x : Str) (t : Tok) (i : Nat) (h : Heap) : Prop := i ≤ x.length ∧ IsRs h it x t ((x.length : Int) - 1 - (i : Int))
theorem draws {prog : Program} {w : World} {A : Around} (hh : A.handled = none) (it : Addr) (x : Str) (t : Tok) (hz : x.length ≤ sizeLine) :
    Draws prog w A it [it] x.length (fun i v => ∃ c u, x.cps[x.length - 1 - i]? = some c ∧ v = .str ⟨#[c]⟩ u) (St it x t) where
  live := fun i h ⟨_, o, ho, _⟩ => ⟨o, ho⟩
  frame := fun i h h' ⟨a, b⟩ k => ⟨a, b.at fun o e => k it (by simp) o e⟩
  item := fun i s Q E hi ⟨_, hs⟩ hQ => by
    have e1 : (x.length : Int) - 1 - (i : Int) = ((x.length - 1 - i : Nat) : Int) := by omega
    have hlt : x.length - 1 - i < x.cps.size := by show _ < x.length; omega
    rw [e1] at hs
    refine next_item hs (Array.getElem?_eq_getElem hlt) hz fun h' u k a b => hQ _ _ _ ⟨_, _, Array.getElem?_eq_getElem hlt, rfl⟩ ⟨by omega, ?_⟩ b
    have e2 : ((x.length - 1 - i : Nat) : Int) - 1 = (x.length : Int) - 1 - ((i + 1 : Nat) : Int) := by omega
    rw [e2] at a
    exact a
  done := fun s Q E ⟨_, hs⟩ hE => by
    have e1 : (x.length : Int) - 1 - (x.length : Int) = -1 := by omega
    rw [e1] at hs
    exact next_end hh hs hE
set_option maxHeartbeats 4000000 in
theorem enum_new {it : Addr} {x : Str} {t : Tok} {i : Int} :
    Meets (Builtin.«enumerate.__new__» ⟨[.type "enumerate", .ref it], []⟩) (fun _ R s => IsRs s.heap it x t i ∧
      R (.ok (.ret (.ref s.heap.objs.size))) { s with heap := s.heap.push { cls := .type "enumerate", data := .fields #[.none, .bool false, .ref it, rawInt 0, .none, .none] } }) :=
  .of_wp fun prog w A R s h => by
    obtain ⟨hp, g, d, tk, os⟩ := s; obtain ⟨h1, h⟩ := h
    have hsub := sub_enumerate
    have q1 : ∀ {A' : Around} {E : Value → Shared → Prop} {Q : Value → Shared → Prop}, Q (.ref it) ⟨hp, g, d, tk, os⟩ → wpAny (model prog w) A' (pyIter (.ref it)) Q E ⟨hp, g, d, tk, os⟩ :=
      fun q => iter (s := ⟨hp, g, d, tk, os⟩) h1 q
    wp_walk using q1
    refine wpAny_stack_any fun st => wpAny_pure ?_
    split
    · rename_i c _ _ _ _ _
      cases (c == Value.type "enumerate")
      · wp_walk using q1
        exact ⟨_, rfl, h⟩
      · wp_walk using q1
        exact ⟨_, rfl, h⟩
    · wp_walk using q1
      exact ⟨_, rfl, h⟩
theorem enum_call {prog : Program} {w : World} {A : Around} {E : Value → Shared → Prop} {s : Shared} {it : Addr} {x : Str} {t : Tok} {i : Int} {Q : Value → Shared → Prop} (h1 : IsRs s.heap it x t i)
    (h : ∀ h', IsEnum h' s.heap.objs.size it 0 .none → h'.objs.size = s.heap.objs.size + 1 → (∀ b o, s.heap.get? b = some o → h'.get? b = some o) → Q (.ref s.heap.objs.size) { s with heap := h' }) :
    wpAny (model prog w) A (call (.type "enumerate") [.ref it]) Q E s := by
  refine callType_new F.called_enumerate (by decide) (F.typeCall_enumerate_1 _) (F.newCall_enumerate_1 _) (fun obj => F.args_object_init_2 obj _) F.entry_enumerate_new
    (enum_new (x := x) (t := t) (i := i)) ⟨h1, ?_⟩
  show _ ∧ _
  have he : IsEnum (s.heap.push { cls := .type "enumerate", data := .fields #[.none, .bool false, .ref it, rawInt 0, .none, .none] }) s.heap.objs.size it 0 .none :=
    Heap.get?_push_size s.heap (o := { cls := .type "enumerate", data := .fields #[.none, .bool false, .ref it, rawInt 0, .none, .none] }) rfl
  exact ⟨⟨_, he, rfl⟩, h _ he (Heap.size_push ..) fun b o z => Heap.get?_push_of_some _ z⟩
end RvS
end PySem
namespace Y
open PySem PySem.Spec PyProof.Rows
open L2 (V Hp upd upd_same upd_ne ne_of ne_of_none RelV Vals SqL SqT Rd Cx Inv PE PT PW PS PSs PA PG PI TE TT TS TA TG TI VK XK Ends EP FpOk Turn PIE)
def ItER (x : Str) : L2.It :=
  ⟨fun i H => i < x.length, fun i H v H' => ∃ T c, v = .ref T ∧ H T = none ∧ H' = upd H T (.tup [.int (i : Nat), .str ⟨#[c]⟩]) ∧ x.cps[x.length - 1 - i]? = some c, fun i H => i = x.length⟩
theorem turn_er {P : Program} {w : World} {K : PySem.W.Frag} {elts : List Expr} {kk : Nat} {tpos : Pos} {x : Str} {t : Tok} {e it : Addr} (hz : x.length ≤ PySem.sizeLine) (hne : e ≠ it) :
    Turn P w K (.Tuple elts kk tpos) (ItER x) [e, it] e (fun i h => (∃ old, IsEnum h e it ((i : Nat) : Int) old) ∧ RvS.St it x t i h) where
  mem := by simp
  obj := fun i h st b hb => by
    obtain ⟨⟨old, he⟩, hs⟩ := st
    have e' : b = e ∨ b = it := by simpa using hb
    rcases e' with z | z
    · rw [z]; exact ⟨_, he, fun v q => nomatch q⟩
    · rw [z]
      obtain ⟨_, o, ho, hc, hd⟩ := hs
      exact ⟨o, ho, fun v q => by rw [hd] at q; cases q⟩
  keep := fun i h h' st kp => let ⟨⟨old, he⟩, hi⟩ := st; ⟨⟨old, kp e (by simp) _ he⟩, hi.1, hi.2.at fun o q => kp it (by simp) o q⟩
  item := by
    intro X hP hw hK hc i pins s σ H E I hf st hg
    subst hP hw hK
    obtain ⟨⟨old, he⟩, hit⟩ := st
    have hi : i < x.length := hg
    have D := RvS.draws (prog := X.prog) (w := X.w) (A := X.A.in1) (I.ok.hd hc) it x t hz
    have hel : e < s.heap.objs.size := Heap.lt_size he
    have hil : it < s.heap.objs.size := by obtain ⟨_, o, q, _⟩ := hit; exact Heap.lt_size q
    have hef : e ∉ [it] := by simpa using hne
    refine wpAny_pyNext_enum_itemD D he hit hi hne hef fun u h' tk hu ho hit' hT hsz hk => ?_
    obtain ⟨c, uu, ex, eu⟩ := hu
    subst eu
    refine ⟨_, rfl, wpAny_letOwnedTupleGo_enum (s := { s with heap := h', toks := tk + 1 }) ho fun h'' he' sb => ?_⟩
    have hT2 : h''.get? s.heap.objs.size = some { cls := .type "tuple", data := .seq #[.int i tk, .str ⟨#[c]⟩ uu] } := (sb.2 _ (Nat.ne_of_gt hel)).trans hT
    have new : L2.ObjOk X.prog X.w (upd H s.heap.objs.size (.tup [.int (i : Nat), .str ⟨#[c]⟩])) h'' s.heap.objs.size (.tup [.int (i : Nat), .str ⟨#[c]⟩]) :=
      ⟨by show 2 ≤ PySem.sizeLine; rw [szl]; decide, [.int i tk, .str ⟨#[c]⟩ uu], .cons ⟨_, rfl⟩ (.cons ⟨_, rfl⟩ .nil), ⟨_, hT2, rfl, _, rfl⟩⟩
    have I1 : Inv X pins σ (upd H s.heap.objs.size (.tup [.int (i : Nat), .str ⟨#[c]⟩])) { s with heap := h'', toks := tk + 1 } :=
      I.turnedNew (ch := [e, it]) (fun b ob hb q => (sb.2 b (fun z => hb (by simp [z]))).trans (hk b ob (fun z => hb (by simp [z])) (fun z => hb (by simp [z])) q)) hf (Nat.le_refl _) new
    refine ⟨.ref s.heap.objs.size, _, I1, rfl, ⟨_, c, rfl, I.hok.fresh (Nat.le_refl _), rfl, ex⟩, ⟨⟨.str ⟨#[c]⟩ uu, ?_⟩, hit'.1, hit'.2.at fun o q => (sb.2 it (Ne.symm hne)).trans q⟩, fun b hb => ?_⟩
    · have e1 : ((i + 1 : Nat) : Int) = (i : Int) + 1 := by omega
      rw [e1]; exact he'
    · have hb' : b < s.heap.objs.size := by
        have e' : b = e ∨ b = it := by simpa using hb
        rcases e' with z | z
        · rw [z]; exact hel
        · rw [z]; exact hil
      rw [upd_ne (Nat.ne_of_lt hb')]
      exact (hf b hb).1
  done := by
    intro X hP hw hK hc i pins s σ H E I hf st hg
    subst hP hw hK
    obtain ⟨⟨old, he⟩, hit⟩ := st
    have hi : i = x.length := hg
    subst hi
    have D := RvS.draws (prog := X.prog) (w := X.w) (A := X.A.in1) (I.ok.hd hc) it x t hz
    obtain ⟨f0, f1, f2, f3, f4, f5⟩ := hf it (by simp)
    exact wpAny_pyNext_enum_endD D he hit fun h' eb => ⟨rfl, I.turned (t' := s.toks) (fun b o hb q => eb b o hb q) f0 f1 f3 f4 f5⟩
  self := fun A i s Q E st h => let ⟨⟨_, he⟩, _⟩ := st; wpAny_pyIter_enum he h
section
variable {L : Lk} {C : Ctx} {n : Nat} {W : XK} {X : Cx} {H : Hp} {r : List Addr} {h : Heap} {env : Env} {σ : Sg} {pos pos2 p0 p1 : Pos} {pe : Expr} {m : MV}
theorem irel_er {z : List Nat} (e : okS z) : IRel L X.K H r (.enm (.str z.reverse)) (ItER (toS z)) := fun i env h' r' σ H' pr kp s => by
  have hsz : (toS z).cps.size = z.length := by simp [toS]
  have hl : (toS z).length = z.length := toS_len z
  unfold It.next It.next
  by_cases hi : i < z.length
  · have e1 : z.reverse[i]? = some z[z.length - 1 - i] := by
      rw [List.getElem?_reverse hi, List.getElem?_eq_getElem]
    rw [e1]
    dsimp only
    refine ⟨by show i < (toS z).length; rw [hl]; exact hi, fun y H'' ⟨T, c, e4, e5, e6, e7⟩ => ?_⟩
    have hc : c = z[z.length - 1 - i] := by
      rw [hl] at e7
      have e8 : (toS z).cps[z.length - 1 - i]? = z[z.length - 1 - i]? := by simp [toS]
      rw [e8, List.getElem?_eq_getElem (by omega)] at e7
      exact (Option.some.inj e7).symm
    subst e4 e6 hc
    exact pair_rel s mk_int (mk_str (a := [z[z.length - 1 - i]]) ⟨by show 1 ≤ PySem.sizeLine; rw [szl]; decide, fun q hq => by simp at hq; subst hq; exact e.2 _ (List.getElem_mem _)⟩) e5
  · have e1 : z.reverse[i]? = none := List.getElem?_eq_none (by rw [List.length_reverse]; omega)
    rw [e1]
    dsimp only
    rw [List.length_reverse]
    by_cases hj : i = z.length
    · rw [if_pos hj]
      show i = (toS z).length
      rw [hl]; exact hj
    · rw [if_neg hj]; trivial
theorem pi_erY (g : Good L C n W X) {elts : List Expr} {kk : Nat} {tpos : Pos} (hg : glB X.env.scope "enumerate" = true) (hg2 : glB X.env.scope "reversed" = true) (ha : PE X pe (rd L X.K W m)) (hs : ∀ es, starEach (pe :: es) X.env = (false, eval pe X.env) :: starEach es X.env) :
    PI X (.Tuple elts kk tpos) (.Call (.Name "enumerate" p0) [.Call (.Name "reversed" p1) [pe] [] pos2] [] pos) (rdI L X.K W (iEnmR m)) := by
  obtain ⟨g1, g2⟩ := gl_blt g (by decide +kernel) hg
  obtain ⟨g3, g4⟩ := gl_blt g (by decide +kernel) hg2
  refine ⟨fun pins s σ H R I ⟨env, h, r, sr, p⟩ => ?_⟩
  refine Call_ (L2.ld_blt I g1 g2 boot_enumerate (PyProof.Rows.callWith_type1 (args_cons ?_ rfl) rfl rfl))
  refine Call_ (L2.ld_blt I g3 g4 PyProof.Rows.boot_reversed (PyProof.Rows.callWith_type1 (args_cons (L2.thn (ha.run pins s σ H _ I ⟨env, h, r, sr, Post.bind (R := RV L X.K) p⟩) fun u s1 ⟨x, H1, I1, rx, dx, h1, r1, a1, p1⟩ => args_nil ?_) (hs [])) (hs []) rfl))
  cases dx <;> first | exact p1.elim | skip
  rename_i z
  obtain ⟨rfl, hz⟩ := rel_str a1.rel
  obtain ⟨t, rfl⟩ := rx
  have hzl : (toS z).length ≤ PySem.sizeLine := by rw [toS_len]; exact hz.1
  refine RvS.call_rev hzl ?_
  have hk1 : ∀ b o, s1.heap.get? b = some o → (s1.heap.push (RvS.rsObj (toS z) t (((toS z).length : Int) - 1))).get? b = some o := fun b o q => Heap.get?_push_of_some _ q
  have I2 : Inv X pins σ H1 { s1 with heap := s1.heap.push (RvS.rsObj (toS z) t (((toS z).length : Int) - 1)), toks := s1.toks + 1 + 1 } := I1.kept (t' := s1.toks + 1 + 1) hk1
  have hrs : RvS.IsRs (s1.heap.push (RvS.rsObj (toS z) t (((toS z).length : Int) - 1))) s1.heap.objs.size (toS z) t (((toS z).length : Int) - 1) := ⟨_, Heap.get?_push_size _ rfl, rfl, rfl⟩
  have hsz1 : (s1.heap.push (RvS.rsObj (toS z) t (((toS z).length : Int) - 1))).objs.size = s1.heap.objs.size + 1 := Heap.size_push ..
  refine args_nil (RvS.enum_call (s := { s1 with heap := s1.heap.push (RvS.rsObj (toS z) t (((toS z).length : Int) - 1)), toks := s1.toks + 1 + 1 }) hrs fun h' he hsz hkp => ?_)
  have he : IsEnum h' (s1.heap.objs.size + 1) s1.heap.objs.size 0 .none := by have := he; rw [hsz1] at this; exact this
  show wpAny _ _ _ _ _ _
  rw [hsz1]
  refine wpAny_pyIter_enum he ?_
  have I3 : Inv X pins σ H1 { s1 with heap := h', toks := s1.toks + 1 + 1 } := I2.kept (t' := s1.toks + 1 + 1) hkp
  refine ⟨s1.heap.objs.size + 1, [s1.heap.objs.size + 1, s1.heap.objs.size], _, _, H1, rfl, I3, turn_er (x := toS z) (t := t) (e := s1.heap.objs.size + 1) (it := s1.heap.objs.size) hzl (Nat.succ_ne_self _), ⟨⟨.none, he⟩, Nat.zero_le _, ?_⟩, fun b hb => ?_, p1.hereI a1.s (irel_er hz)⟩
  · have e0 : ((toS z).length : Int) - 1 - ((0 : Nat) : Int) = ((toS z).length : Int) - 1 := by omega
    rw [e0]
    exact hrs.at fun o q => hkp _ o q
  · have e' : b = s1.heap.objs.size + 1 ∨ b = s1.heap.objs.size := by simpa using hb
    have hle : s1.heap.objs.size ≤ b := by
      rcases e' with z | z
      · rw [z]; exact Nat.le_add_right _ _
      · rw [z]; exact Nat.le_refl _
    exact I1.fpOk hle (I1.hok.fresh hle)
end
end Y
set_option Elab.async false
set_option linter.all false
set_option maxRecDepth 100000
set_option maxHeartbeats 4000000
namespace Y
open PySem PySem.Spec PyProof.Rows
open L2 (V Hp upd upd_same upd_ne ne_of ne_of_none RelV Vals SqL SqT Rd Cx Inv PE PT PW PS PSs PA PG PGs PI TE TT TS TA TG TGs TI VK XK Ends EP FpOk Turn PIE)
mutual
def gY (K : PySem.W.Frag) : Tg → TG
  | .nm i => L2.gName i
  | .tp ts => fun v σ H Q => L2.gTup K ts.length (gYs K ts) v σ H Q ∨ L2.gUnl K ts.length (gYs K ts) v σ H Q
def gYs (K : PySem.W.Frag) : List Tg → TGs
  | [] => L2.gNil
  | t :: ts => L2.gCons (gY K t) (gYs K ts)
end
section
variable {L : Lk} {C : Ctx} {n : Nat} {W : XK} {X : Cx} {H : Hp} {r : List Addr} {h : Heap} {env env' : Env} {σ : Sg} {x y : V} {dx dy : D} {pos p0 : Pos} {pe pe2 pe3 tg : Expr} {m m2 m3 : MV}
mutual
theorem pgY (hc : X.calm = true) (hN : X.N.Nodup) {st : Str → Bool} (hst : ∀ x, st x = true → L2.Loc X.env.scope x ∧ (X.fn x = true ∨ X.env.scope.names.lookup x = some .local)) : ∀ (t : Tg) (e : Expr), chkT X.N st t e = true → PG X e (gY X.K t)
  | .nm i, e, h => by
    cases e <;> first | (exfalso; unfold chkT at h; cases h; done) | skip
    unfold chkT at h
    simp only [Bool.and_eq_true, decide_eq_true_eq] at h
    exact L2.pg_name hN h.1 (hst _ h.2).1 (hst _ h.2).2
  | .tp ts, e, h => by
    cases e <;> first | (exfalso; unfold chkT at h; cases h; done) | skip
    unfold chkT at h
    obtain ⟨h1, h2, h3⟩ := pgsY hc hN hst ts _ h
    have a := L2.pg_tup (pos := by assumption) (k := by assumption) hc h1 h2 h3
    have b := L2.pg_unl (pos := by assumption) (k := by assumption) hc h1 h2 h3
    exact ⟨fun pins s σ H v u Q I r q => q.elim (a.run pins s σ H v u Q I r) (b.run pins s σ H v u Q I r)⟩
theorem pgsY (hc : X.calm = true) (hN : X.N.Nodup) {st : Str → Bool} (hst : ∀ x, st x = true → L2.Loc X.env.scope x ∧ (X.fn x = true ∨ X.env.scope.names.lookup x = some .local)) : ∀ (ts : List Tg) (es : List Expr), chkTs X.N st ts es = true →
    PGs X es (gYs X.K ts) ∧ (assignEach es X.env).length = ts.length ∧ (assignEach es X.env).findIdx? (·.1) = none
  | [], [], _ => ⟨L2.pgs_nil, rfl, rfl⟩
  | [], _ :: _, h => by unfold chkTs at h; cases h
  | _ :: _, [], h => by unfold chkTs at h; cases h
  | t :: ts, e :: es, h => by
    unfold chkTs at h
    obtain ⟨h1, h2⟩ := Bool.and_eq_true_iff.mp h
    obtain ⟨i1, i2, i3⟩ := pgsY hc hN hst ts es h2
    have e1 : assignEach (e :: es) X.env = (false, PySem.assign e X.env) :: assignEach es X.env := by
      cases t <;> cases e <;> first | rfl | (exfalso; unfold chkT at h1; cases h1; done)
    refine ⟨L2.pgs_cons (pgY hc hN hst t e h1) i1 (by rw [e1]; rfl), by rw [e1, List.length_cons, i2]; rfl, ?_⟩
    rw [e1, List.findIdx?_cons, i3]
    rfl
end
/-- a state that differs from σ in the slots of is alone -/
def Diff (is : List Nat) (σ σ2 : Sg) : Prop := σ2.length = σ.length ∧ ∀ i, i ∉ is → σ2[i]? = σ[i]?
theorem Diff.refl {is : List Nat} {σ : Sg} : Diff is σ σ := ⟨rfl, fun _ _ => rfl⟩
theorem Diff.trans {is js : List Nat} {σ σ2 σ3 : Sg} (a : Diff is σ σ2) (b : Diff js σ2 σ3) : Diff (is ++ js) σ σ3 :=
  ⟨b.1.trans a.1, fun i hi => (b.2 i fun z => hi (List.mem_append_right _ z)).trans (a.2 i fun z => hi (List.mem_append_left _ z))⟩
mutual
theorem gY_ok : ∀ (t : Tg) {d : D} {x : V} {env env' : Env} {σ : Sg} {Q : Sg → Hp → Prop}, Y.assign t d h env = some env' → SR L X.K env h r σ H → RelD L X.K H r d x → (∀ σ2, SR L X.K env' h r σ2 H → Diff t.slots σ σ2 → Q σ2 H) → gY X.K t x σ H Q
  | .nm i, d, x, env, env', σ, Q, e, s, g, q => by
    unfold Y.assign at e
    cases e
    show Q (σ.set i (some x)) H
    refine q _ (s.slot g) ⟨List.length_set, fun j hj => ?_⟩
    rw [List.getElem?_set_ne]
    rintro rfl
    exact hj (by simp [Tg.slots])
  | .tp ts, d, x, env, env', σ, Q, e, s, g, q => by
    unfold Y.assign at e
    split at e
    · rename_i ds ed
      obtain ⟨p, xs, rfl, sq, gs⟩ := rel_items s g ed
      have hl := assigns_len e
      rcases sq with sq | sq
      · exact .inr ⟨p, xs, rfl, sq, by rw [← gs.length]; exact hl, gYs_ok ts e s gs fun σ2 s2 d2 => q σ2 s2 (by unfold Tg.slots; exact d2)⟩
      · exact .inl ⟨p, xs, rfl, sq, by rw [← gs.length]; exact hl, gYs_ok ts e s gs fun σ2 s2 d2 => q σ2 s2 (by unfold Tg.slots; exact d2)⟩
    · cases e
theorem gYs_ok : ∀ (ts : List Tg) {ds : List D} {xs : List V} {env env' : Env} {σ : Sg} {Q : Sg → Hp → Prop}, Y.assigns ts ds h env = some env' → SR L X.K env h r σ H → RelDs L X.K H r ds xs → (∀ σ2, SR L X.K env' h r σ2 H → Diff (Tg.slotss ts) σ σ2 → Q σ2 H) → gYs X.K ts xs σ H Q
  | [], ds, xs, env, env', σ, Q, e, s, g, q => by
    cases ds with
    | nil =>
      unfold Y.assigns at e
      cases e
      cases rels0 g
      exact ⟨rfl, q σ s Diff.refl⟩
    | cons d ds => unfold Y.assigns at e; cases e
  | t :: ts, ds, xs, env, env', σ, Q, e, s, g, q => by
    cases ds with
    | nil => unfold Y.assigns at e; cases e
    | cons d ds =>
      unfold Y.assigns at e
      split at e
      · rename_i env1 e1
        obtain ⟨v, ys, rfl, g1, g2⟩ := rels1 g
        refine ⟨v, ys, rfl, gY_ok t e1 s g1 fun σ2 s2 d2 => gYs_ok ts e s2 g2 fun σ3 s3 d3 => q σ3 s3 ?_⟩
        unfold Tg.slotss
        exact d2.trans d3
      · cases e
theorem assigns_len : ∀ {ts : List Tg} {ds : List D} {env env' : Env}, Y.assigns ts ds h env = some env' → ds.length = ts.length
  | [], [], _, _, _ => rfl
  | [], _ :: _, _, _, e => by unfold Y.assigns at e; cases e
  | _ :: _, [], _, _, e => by unfold Y.assigns at e; cases e
  | t :: ts, d :: ds, _, _, e => by
    unfold Y.assigns at e
    split at e
    · rw [List.length_cons, List.length_cons, assigns_len e]
    · cases e
end
theorem wipe_len (env : Env) : ∀ is : List Nat, (wipe env is).length = env.length
  | [] => rfl
  | i :: is => by unfold wipe; rw [List.length_set, wipe_len env is]
theorem wipe_at {env : Env} {i : Nat} {d : D} : ∀ {is : List Nat}, (wipe env is)[i]? = some (some d) → env[i]? = some (some d) ∧ i ∉ is
  | [], h => ⟨h, by simp⟩
  | j :: is, h => by
    unfold wipe at h
    by_cases hi : j = i
    · subst hi
      by_cases hv : j < (wipe env is).length
      · rw [List.getElem?_set_self hv] at h; cases h
      · rw [List.getElem?_eq_none (by rw [List.length_set]; omega)] at h; cases h
    · rw [List.getElem?_set_ne hi] at h
      obtain ⟨h1, h2⟩ := wipe_at h
      exact ⟨h1, fun m => by rcases List.mem_cons.mp m with m | m; exact hi m.symm; exact h2 m⟩
theorem wipe2_at (σ : Sg) {i : Nat} : ∀ {is : List Nat}, i ∉ is → (L2.wipe σ is)[i]? = σ[i]?
  | [], _ => rfl
  | j :: is, h => by
    unfold L2.wipe
    rw [List.getElem?_set_ne (fun e => h (by rw [e]; exact List.mem_cons_self)), wipe2_at σ fun m => h (List.mem_cons_of_mem _ m)]
theorem wipe2_in (σ : Sg) {i : Nat} : ∀ {is : List Nat}, i ∈ is → (L2.wipe σ is)[i]? = if i < σ.length then some none else none
  | [], h => by cases h
  | j :: is, h => by
    unfold L2.wipe
    by_cases hj : j = i
    · subst hj
      rw [List.getElem?_set]
      simp only [L2.wipe_length, ite_true]
    · rw [List.getElem?_set_ne hj]
      exact wipe2_in σ ((List.mem_cons.mp h).resolve_left fun e => hj e.symm)
theorem SR.wipe' (s : SR L X.K env h r σ H) (is : List Nat) : SR L X.K (wipe env is) h r (L2.wipe σ is) H :=
  s.less (by rw [wipe_len, L2.wipe_length]; exact s.len) fun i d e => by
    obtain ⟨h1, h2⟩ := wipe_at e
    exact ⟨h1, wipe2_at σ h2⟩
theorem wipe_diff {σ σ2 : Sg} {is js : List Nat} (d : Diff js (L2.wipe σ is) σ2) (hs : ∀ i ∈ js, i ∈ is) : L2.wipe σ2 is = L2.wipe σ is := by
  have hl : σ2.length = σ.length := by rw [d.1, L2.wipe_length]
  refine List.ext_getElem? fun i => ?_
  by_cases hi : i ∈ is
  · rw [wipe2_in σ2 hi, wipe2_in σ hi, hl]
  · rw [wipe2_at σ2 hi, d.2 i fun z => hi (hs i z)]
end
end Y
set_option Elab.async false
set_option linter.all false
set_option maxRecDepth 100000
set_option maxHeartbeats 4000000
namespace Y
open PySem PySem.Spec PyProof.Rows
open L2 (V Hp upd upd_same upd_ne ne_of ne_of_none RelV Vals SqL SqT Rd Cx Inv PE PT PTs PW PS PSs PA PG PGs PI TE TT TS TA TG TGs TI VK XK Ends EP FpOk Turn PIE)
abbrev NoW : XK := fun _ _ _ => False
section
variable {L : Lk} {C : Ctx} {n : Nat} {W : XK} {X : Cx} {H : Hp} {r : List Addr} {h : Heap} {env env' : Env} {σ : Sg} {x y : V} {dx dy : D} {pos p0 : Pos} {tg iter elt : Expr} {ifs : List Expr} {scope : Scope}
theorem good_blk (g : Good L C n W X) (s : Shared) (H : Hp) (cl : List (Str × Addr)) (Cc : Addr) (fp : List Addr) : Good L C n NoW (X.blk s H scope (compEnvC scope cl Cc X.env) fp) :=
  ⟨g.calm, g.room, g.nd, fun u s' ⟨a, B, sI, pins, σ, H, cls, d, e, I, nb, up, sky, na, os, ag, w⟩ => w, g.link, g.fns, g.clen, g.lows, g.code⟩
theorem blk_scope (s : Shared) (H : Hp) (cl : List (Str × Addr)) (Cc : Addr) (fp : List Addr) : (X.blk s H scope (compEnvC scope cl Cc X.env) fp).env.scope = L2.relS scope X.env.scope := rfl
theorem own_idx (N : List Str) (own : List Nat) : (ownOf N own).map (·.2) = own := by
  unfold ownOf
  rw [List.map_map]
  exact List.map_id'' (fun _ => rfl) own
theorem lc_imp {own : List Nat} {t : Tg} {mi : MI} {mt : MT} {me : MV} {fuel : Nat} (hsl : ∀ i ∈ t.slots, i ∈ own) (σ : Sg) (H : Hp) (Q : VK) (q : rd L X.K W (cLc fuel own t mi mt me) σ H Q) :
    L2.tLc (rdI L X.K W mi) (gY X.K t) (rdT L X.K NoW mt) (rd L X.K NoW me) ((ownOf X.N own).map (·.2)) σ H Q := by
  obtain ⟨env, h, r, s, p⟩ := q
  refine ⟨env, h, r, s, (Post.bind (R := IRel L X.K) p).mono fun J H1 ⟨w, h1, r1, a1, p1⟩ => ?_⟩
  intro D hD
  rw [own_idx]
  split at p1
  · rename_i sf ef
    have kD : Keep H1 (upd H1 D (.lst [])) := Keep.new hD
    have s0 : SR L X.K env (h1 ++ [.lst []]) (r1 ++ [D]) σ (upd H1 D (.lst [])) := a1.s.push hD ⟨[], upd_same, .nil⟩
    refine ⟨fun i m H' => ∃ (s' : Heap) (r' : List Addr), r1 ++ [D] <+: r' ∧ Keep H1 H' ∧ SR L X.K env s' r' σ H' ∧ turns w (fun s : Heap => s) (lcStep h1.length t (wipe env own) mt me) m i s' = some (.inl sf), ⟨fuel, h1 ++ [.lst []], r1 ++ [D], List.prefix_refl _, kD, s0, ef⟩, ?_⟩
    rintro i m H' ⟨s', r', pr, kp, sr, et⟩
    have pr1 : r1 <+: r' := (List.prefix_append r1 [D]).trans pr
    have eD : r'[h1.length]? = some D := by
      obtain ⟨u, rfl⟩ := pr
      rw [List.append_assoc, ← a1.s.hr.len, List.getElem?_append_right (Nat.le_refl _), Nat.sub_self]
      rfl
    cases m with
    | zero => unfold turns at et; cases et
    | succ f =>
      have ir := a1.rel i env s' r' σ H' pr1 kp sr
      unfold turns at et
      split at et
      · cases et
      · rename_i en
        rw [en] at ir
        cases et
        refine .inl ⟨ir, p1 (.ref D) H' r' pr1 kp sr ?_⟩
        unfold RelD
        exact ⟨D, rfl, eD⟩
      · rename_i d en
        rw [en] at ir
        refine .inr ⟨ir.1, fun H2 => ∃ (s' : Heap) (r' : List Addr), r1 ++ [D] <+: r' ∧ Keep H1 H2 ∧ SR L X.K env s' r' σ H2 ∧ turns w (fun s : Heap => s) (lcStep h1.length t (wipe env own) mt me) f (i + 1) s' = some (.inl sf), fun H2 ⟨s2, r2, q1, q2, q3, q4⟩ => ⟨f, Nat.lt_succ_self f, s2, r2, q1, q2, q3, q4⟩, fun x H2 hy => ?_⟩
        obtain ⟨k2, sr2, gx⟩ := ir.2 x H2 hy
        have kp2 := kp.trans k2
        cases e1 : lcStep h1.length t (wipe env own) mt me d s' with
        | none => rw [e1] at et; cases et
        | some v =>
        cases v with
        | inr q => rw [e1] at et; cases et
        | inl s1 =>
        rw [e1] at et
        have et : turns w (fun s : Heap => s) (lcStep h1.length t (wipe env own) mt me) f (i + 1) s1 = some (.inl sf) := et
        unfold lcStep at e1
        cases ha : assign t d s' (wipe env own) with
        | none => rw [ha] at e1; cases e1
        | some env1 =>
        rw [ha] at e1
        dsimp only at e1
        refine gY_ok t ha (sr2.wipe' own) gx fun σ2 sr3 df => ⟨wipe_diff df hsl, env1, s', r', sr3, ?_⟩
        cases em : mt env1 s' with
        | err => rw [em] at e1; cases e1
        | exc c ds h' => rw [em] at e1; cases e1
        | ok b s2 =>
        rw [em] at e1
        intro b' H3 r3 pr3 k3 sr4 gb
        have gb : b = b' := gb
        subst gb
        cases b with
        | false =>
          cases e1
          rw [if_neg Bool.false_ne_true]
          exact ⟨_, r3, pr.trans pr3, kp2.trans k3, sr2.mk' sr4.hr k3 pr3, et⟩
        | true =>
          rw [if_pos rfl]
          dsimp only at e1
          refine ⟨env1, s2, r3, sr4, ?_⟩
          cases ee : me env1 s2 with
          | err => rw [ee] at e1; cases e1
          | exc c ds h' => rw [ee] at e1; cases e1
          | ok y s3 =>
          rw [ee] at e1
          dsimp only at e1
          intro yv H4 r4 pr4 k4 sr5 gy
          unfold Heap.at at e1
          split at e1
          · rename_i acc ea
            split at e1
            · rename_i hl
              cases e1
              have pr5 : r1 ++ [D] <+: r4 := pr.trans (pr3.trans pr4)
              have eD4 : r4[h1.length]? = some D := by
                obtain ⟨u, rfl⟩ := pr5
                rw [List.append_assoc, ← a1.s.hr.len, List.getElem?_append_right (Nat.le_refl _), Nat.sub_self]
                rfl
              obtain ⟨vs, f1, f2⟩ := sr5.hr.at_ _ _ D ea eD4
              have sr6 : SR L X.K env s3 r4 σ H4 := sr2.mk' sr5.hr (k3.trans k4) (pr3.trans pr4)
              obtain ⟨u, eu, mu, mt'⟩ := (sr5.hr.at_ _ _ D ea eD4).muta
              have kput : Keep H4 (upd H4 D (.lst (vs ++ [yv]))) := Keep.put eu mu
              refine ⟨vs, f1, by rw [← f2.length, szl]; exact hl, _, r4, pr5, ((kp2.trans k3).trans k4).trans kput, sr6.put (o' := HV.lst (acc ++ [y])) ea eD4 ⟨_, upd_same, (f2.append (.cons gy .nil)).mono kput (List.prefix_refl _)⟩, et⟩
            · cases e1
          · cases e1
  · exact p1.elim
theorem lcY (g : Good L C n W X) {own : List Nat} {t : Tg} {mi : MI} {mt : MT} {me : MV} {fuel : Nat} (hi : PI X tg iter (rdI L X.K W mi)) (ok : L2.BlkOk X.N X.env.scope scope (ownOf X.N own)) (hg : chkT X.N (locC scope X.env.scope) t tg = true) (hsl : ∀ i ∈ t.slots, i ∈ own)
    (ht : ∀ (s : Shared) (H : Hp) (Cc : Addr) (cl : List (Str × Addr)) (fp : List Addr), PTs (X.blk s H scope (compEnvC scope cl Cc X.env) fp) ifs (rdT L X.K NoW mt))
    (he : ∀ (s : Shared) (H : Hp) (Cc : Addr) (cl : List (Str × Addr)) (fp : List Addr), PE (X.blk s H scope (compEnvC scope cl Cc X.env) fp) elt (rd L X.K NoW me))
    (hs : ∀ x, foldedSetIterable iter X.env x = pure x) :
    PE X (.ListComp elt [⟨tg, iter, ifs, 0⟩] scope pos) (rd L X.K W (cLc fuel own t mi mt me)) :=
  (L2.pe_lc (g := gY X.K t) g.calm g.nd hi ok (fun s H Cc cl fp => pgY (X := X.blk s H scope (compEnvC scope cl Cc X.env) fp) g.calm g.nd (fun x hx => ⟨locC_loc hx, locC_fn hx⟩) t tg hg) ht he hs).imp (lc_imp hsl)
theorem setLcY0 (g : Good L C n W X) {own : List Nat} {t : Tg} {mi : MI} {mt : MT} {me : MV} {fuel i : Nat} {y : Str} {py spos : Pos} (hy : X.N[i]? = some y) (hyl : X.env.scope.names.lookup y = some .local) (hsw : swapsWith (.ListComp elt [⟨tg, iter, ifs, 0⟩] scope pos) (some (.Name y py)) spos.line X.env = pure true)
    (hi : PI X tg iter (rdI L X.K W mi)) (ok : L2.BlkOk X.N X.env.scope scope (ownOf X.N own)) (hg : chkT X.N (locC scope X.env.scope) t tg = true) (hsl : ∀ i ∈ t.slots, i ∈ own)
    (ht : ∀ (s : Shared) (H : Hp) (Cc : Addr) (cl : List (Str × Addr)) (fp : List Addr), PTs (X.blk s H scope (compEnvC scope cl Cc X.env) fp) ifs (rdT L X.K NoW mt))
    (he : ∀ (s : Shared) (H : Hp) (Cc : Addr) (cl : List (Str × Addr)) (fp : List Addr), PE (X.blk s H scope (compEnvC scope cl Cc X.env) fp) elt (rd L X.K NoW me))
    (hs : ∀ x, foldedSetIterable iter X.env x = pure x) :
    PS X (.Assign [.Name y py] (.ListComp elt [⟨tg, iter, ifs, 0⟩] scope pos) spos) (L2.tAsg (rd L X.K W (cLc fuel own t mi mt me)) (L2.gName i)) :=
  (L2.ps_setLc (g := gY X.K t) g.calm g.nd hy hyl hsw hi ok (fun s H Cc cl fp => pgY (X := X.blk s H scope (compEnvC scope cl Cc X.env) fp) g.calm g.nd (fun x hx => ⟨locC_loc hx, locC_fn hx⟩) t tg hg) ht he hs).imp fun D σ H q => lc_imp hsl σ H _ q
end
end Y
set_option Elab.async false
set_option linter.all false
set_option maxRecDepth 100000
set_option maxHeartbeats 4000000
namespace Y
open PySem PySem.Spec PyProof.Rows
open L2 (V Hp upd upd_same upd_ne ne_of ne_of_none RelV Vals SqL SqT Rd Cx Inv PE PT PTs PW PS PSs PA PG PGs PI TE TT TS TA TG TGs TI VK XK WX Ends EP Takes Room)
section
variable {L : Lk} {C : Ctx} {n : Nat} {W : XK} {X : Cx} {H : Hp} {r : List Addr} {h : Heap} {env : Env} {σ : Sg}
theorem HR.extN {H1 : Hp} (s : HR L X.K r h H) (e : LamX.ExtN H H1) (t : LamX.Tabs L.tb H1) : HR L X.K r h H1 :=
  ⟨s.len, s.nd, fun i o q e1 e2 => by
    obtain ⟨u, eu, mu, mt⟩ := (s.at_ i o q e1 e2).muta
    exact (s.at_ i o q e1 e2).mono (fun b o' hb st => e b o' hb fun ps z => by rw [z] at st; exact st) (List.prefix_refl r) ((e q u eu mt).trans eu.symm), t⟩
theorem good_lam (g : Good L C n W X) (ht : C.tl = true) {scope : Scope} {body : E} {A : Around} {outer : List PySem.Env} {s : Shared} {E : XK} {f c' : Addr} {m : Nat}
    (hr : Room (lvl m + 1) (A.deeper (LamX.lamEnv X scope s.heap.objs.size f c'))) (hf : ∀ (k : Nat) (x : Str), L.nm.fn[k]? = some x → L2.FnOk X.prog X.w X.K X.mg X.base (L2.CX X.prog X.w) (lvl m) (L.fa k) (L.fd k) (L.ps k) (spF L X.K C.low k))
    (hl : ∀ b k ds h, C.low b k ds h = .err ∨ ds.length = (L.ps k).length) : Good L C.dn m E (LamX.lamCx X A outer s H E scope f c') :=
  ⟨rfl, hr, g.nd, L2.takes_of rfl rfl rfl rfl, g.link, hf, hl, fun z => (by cases z), fun z => (by cases z)⟩
theorem toldY (g : Good L C n W X) {m : MV} {scope : Scope} {body : Expr} {p lp pos : Pos} (hg : glB X.env.scope "_law_told" = true) (hs : LamX.lamSB X.env.scope scope = true)
    (hb : C.tl = true → ∀ (n' : Nat) (A : Around) (outer : List PySem.Env) (s : Shared) (H : Hp) (E : XK) (f c' : Addr), Good L C.dn n' E (LamX.lamCx X A outer s H E scope f c') → PE (LamX.lamCx X A outer s H E scope f c') body (rd L X.K E m)) :
    PE X (.Call (.Name "_law_told" p) [.Lambda ⟨[], [], none, [], [], none, []⟩ body scope lp] [] pos) (rd L X.K W (cTold C m)) := by
  obtain ⟨g1, g2, g3⟩ := gl_of hg
  cases ht : C.tl with
  | false =>
    refine ⟨fun pins s σ H Q I ⟨env, h, r, sr, q⟩ => ?_⟩
    unfold cTold at q
    rw [ht, if_neg Bool.false_ne_true] at q
    exact q.elim
  | true =>
  obtain ⟨⟨c, P, hc, TB, hT, hu⟩, ga, a, nn, Ng, sg, pg, i, k, k2, h0, hds, p1, p2, p3, p4, p5, p6, cs, oc, dV, kV, doc, pm, cdv, ct, od, an, osl, m1, m2, m3, m4, m5, S, n0, va, ni, nl, vn, hh, hcs, hx, hn⟩ := g.code ht
  obtain ⟨m', hr, hf, hl⟩ := g.lows ht
  obtain ⟨a1, a2, a3⟩ := vis_of va
  obtain ⟨b1, b2, b3⟩ := vis_of vn
  have G := gives9 (X := X) (Ng := Ng) (x := "_law_told") (a := a) (q := X.env.qual ++ "<lambda>") (vl := "value") (n := nn) (sg := sg) (g := ga) (cdg := cdv) (h0 := h0) (hds := hds) (cs := cs) (i := i) (k := k) (k2 := k2) (p1 := p1) (p2 := p2) (p3 := p3) (p4 := p4) (p5 := p5) (p6 := p6) S.nd ni nl b2 b3 hh
    (fun c hc => by
      obtain ⟨h1, h2, h3, h4⟩ := hcs c hc
      unfold glB at h1
      simp only [Bool.and_eq_true, Bool.not_eq_true', decide_eq_true_eq] at h1
      exact ⟨h1.1.1, h1.1.2, h2, h3, h4⟩) hx (fun f => by
      unfold L2.start
      simp)
  refine (LamX.pe_lamcall (T := L.tb) (k := lvl m' + 1) (t := fun E => rd L X.K E m) g1 m1 m2 m3 m4 m5 S n0 a1 G TB hc hT hu hr (LamX.lamS_by hs) rfl (fun _ _ _ _ _ => rfl) (fun A outer s H E f c' hr' => hb ht m' A outer s H E f c' (good_lam (body := .cnon) g ht hr' hf hl)) g2 a2 a3).imp fun σ H Q ⟨env, h, r, s, q⟩ => ?_
  unfold cTold at q
  rw [ht, if_pos rfl] at q
  refine ⟨s.hr.tab, fun H1 eN t1 => ?_⟩
  have kN : Keep H H1 := fun b o' hb st => eN b o' hb fun ps z => by rw [z] at st; exact st
  have s1 : SR L X.K env h r σ H1 := s.mk' (s.hr.extN eN t1) kN (List.prefix_refl r)
  refine ⟨env, h, r, s1, ?_⟩
  cases e : m env h with
  | err => rw [e] at q; exact q.elim
  | ok d h' =>
    rw [e] at q
    intro v H2 r2 pr kp s2 gv
    refine ⟨by show 2 ≤ PySem.sizeLine; rw [szl]; decide, fun p hp => ?_⟩
    refine q _ _ r2 pr ((kN.trans kp).trans (Keep.new hp)) (s2.new hp) ?_
    unfold RelD
    refine ⟨p, _, rfl, L2.SqT.of upd_same, .cons ?_ (.cons (gv.mono (Keep.new hp) (List.prefix_refl _)) .nil)⟩
    unfold RelD
    exact ⟨by decide, by rw [szl]; decide, by decide⟩
  | exc c ds h' =>
    rw [e] at q
    unfold toldN at q
    dsimp only at q
    intro x H2 r2 pr kp s2 gx
    obtain ⟨d, v, rfl, hxd, gv⟩ := gx
    cases en : C.P.told c with
    | none => rw [en] at q; exact q.elim
    | some nm =>
      rw [en] at q
      obtain ⟨okn, q0, hq, e1, e2, e3⟩ := hn c nm en
      refine ⟨q0, hq, x, v, by rw [e1], rfl, by rw [e3]; exact hxd, fun p hp => ?_⟩
      refine q _ _ r2 pr ((kN.trans kp).trans (Keep.new hp)) ((s1.mk' s2 kp pr).new hp) ?_
      unfold RelD
      refine ⟨p, _, rfl, L2.SqT.of upd_same, .cons ?_ (.cons (gv.mono (Keep.new hp) (List.prefix_refl _)) .nil)⟩
      unfold RelD
      exact ⟨by rw [e2], okn⟩
end
end Y
set_option Elab.async false
set_option linter.all false
set_option maxRecDepth 100000
set_option maxHeartbeats 4000000
namespace Y
open PySem PySem.Spec PyProof.Rows
open L2 (V Hp upd upd_same upd_ne ne_of ne_of_none RelV Vals SqL SqT Rd Cx Inv PE PT PTs PW PS PSs PA PG PGs PI TE TT TS TA TG TGs TI VK XK Ends EP FpOk Turn PIE)
section
variable {L : Lk} {C : Ctx} {n : Nat} {W : XK} {X : Cx} {pos p0 : Pos} {pe : Expr}
theorem pe_const {m : MV} {v : V} {d : D} (hp : PE X pe (L2.tC v)) (hm : ∀ env h, m env h = .ok d h) (g : ∀ H r, RelD L X.K H r d v) : PE X pe (rd L X.K W m) :=
  hp.imp fun σ H Q ⟨env, h, r, s, p⟩ => by
    rw [hm] at p
    exact p.here s (g H r)
theorem pe_errY {m : MV} (hm : ∀ env h, m env h = .err) : PE X pe (rd L X.K W m) :=
  ⟨fun pins s σ H Q I ⟨env, h, r, sr, p⟩ => by rw [hm] at p; exact p.elim⟩
theorem pt_errY {m : MT} (hm : ∀ env h, m env h = .err) : PT X pe (rdT L X.K W m) :=
  ⟨fun pins s σ H Q I ⟨env, h, r, sr, p⟩ => by rw [hm] at p; exact p.elim⟩
/-- what is shown of an expression -/
structure Okay (L : Lk) (C : Ctx) (W : XK) (X : Cx) (e : E) (pe : Expr) : Prop where
  v : PE X pe (rd L X.K W (ev C e).v)
  t : tOk e = true → PT X pe (rdT L X.K W (ev C e).t)
  i : ∀ (t : Tg) (tg : Expr) (st : Str → Bool), itOk e t = true → chkT X.N st t tg = true → PI X tg pe (rdI L X.K W (ev C e).i)
theorem Okay.plain {e : E} {m : MV} (he : ev C e = mkV m) (hv : PE X pe (rd L X.K W m)) (ht : ∀ whole, isTrue pe X.env whole = (do let v ← whole; standAt pe.pos; holding [v] (truthy v))) : Okay L C W X e pe :=
  ⟨by rw [he]; exact hv, fun _ => by rw [he]; exact pt_of hv ht, fun _ _ _ _ _ => by rw [he]; exact piY hv⟩
theorem Okay.walk {e : E} {m : MI} (he : ev C e = mkI m) (hi : ∀ (t : Tg) (tg : Expr) (st : Str → Bool), itOk e t = true → chkT X.N st t tg = true → PI X tg pe (rdI L X.K W m)) : Okay L C W X e pe :=
  ⟨by rw [he]; exact pe_errY fun _ _ => rfl, fun _ => by rw [he]; exact pt_errY fun _ _ => rfl, fun t tg st h1 h2 => by rw [he]; exact hi t tg st h1 h2⟩
theorem base_of {po : Expr} (h : noSup po = true) (z : Str) (env : PySem.Env) (t : Sem Value) : attributeBase po z env t = t := by
  cases po <;> first | rfl | skip
  rename_i f as ks p
  cases f <;> first | rfl | skip
  cases as <;> first | rfl | skip
  cases ks <;> first | rfl | skip
  cases h
theorem folded_of {nm : Nm} {N : List Str} {sc : Scope} {e : E} {pe : Expr} (h : chkE nm N sc e pe = true) (env : PySem.Env) : ∀ x, foldedSetIterable pe env x = pure x := by
  cases e <;> cases pe <;> first
    | (intro x; rfl)
    | (exfalso; unfold chkE at h; simp at h; done)
theorem plainix_of {nm : Nm} {N : List Str} {sc : Scope} {e : E} {pe : Expr} (h : chkE nm N sc e pe = true) : L2.PlainIx pe := by
  cases e <;> cases pe <;> first
    | (intro o i; rfl)
    | (exfalso; unfold chkE at h; simp at h; done)
theorem few_of {es : List Expr} {env : PySem.Env} {pos : Pos} (h : (backTo pos (starEach es env)).any (·.1) = false) (hl : es.length < 25) :
    ((backTo pos (starEach es env)).all (fun x => !x.1) && (backToKw pos (keywordEach [] env)).all (fun x => x.1.isSome) && decide (es.length + ([] : List Keyword).length + (if ([] : List Keyword).isEmpty then 0 else 1) < 30)) = true := by
  have h1 : (backTo pos (starEach es env)).all (fun x => !x.1) = true := by
    rw [List.all_eq_true]
    intro x hx
    rw [List.any_eq_false] at h
    have := h x hx
    simpa using this
  rw [h1]
  show (true && true && decide _) = true
  simp
  omega
theorem star_args {nm : Nm} {N : List Str} {sc : Scope} {es : List E} {pes : List Expr} (h : chkEs nm N sc es pes = true) (env : PySem.Env) (pos : Pos) : ∀ e r, pes = e :: r → starEach (e :: r) env = (false, eval e env) :: starEach r env ∧ (backTo pos (starEach r env)).any (·.1) = false := by
  rintro e r rfl
  cases es with
  | nil => unfold chkEs at h; cases h
  | cons a as =>
    unfold chkEs at h
    obtain ⟨h1, h2⟩ := Bool.and_eq_true_iff.mp h
    exact ⟨star_of h1 env r, back_of h2 env pos⟩
theorem nil_args {nm : Nm} {N : List Str} {sc : Scope} {es : List E} {pes : List Expr} (h : chkEs nm N sc es pes = true) : pes = [] → cArgs (evs C es) = cArgs [] := by
  rintro rfl
  cases es with
  | nil => rfl
  | cons a as => unfold chkEs at h; cases h
end
end Y
set_option Elab.async false
set_option linter.all false
set_option maxRecDepth 100000
set_option maxHeartbeats 8000000
namespace Y
open PySem PySem.Spec PyProof.Rows
open L2 (V Hp upd upd_same upd_ne ne_of ne_of_none RelV Vals SqL SqT Rd Cx Inv PE PT PTs PW PS PSs PA PG PGs PI TE TT TS TA TG TGs TI VK XK Ends EP FpOk Turn PIE)
variable {L : Lk} {C : Ctx} {n : Nat}
theorem biN_blt : ∀ b, biOk b = true → biN b ∈ blts := by intro b h; cases b <;> first | (cases h; done) | decide +kernel
theorem constY {W : XK} {X : Cx} (g : Good L C n W X) {k : Nat} {x : Str} {p : Pos} (hg : glB X.env.scope x = true) (hk : L.nm.cn[k]? = some x) : PE X (.Name x p) (rd L X.K W (cGlb C k)) := by
  obtain ⟨h1, h2, h3⟩ := gl_of hg
  refine ⟨fun pins s σ H Q I ⟨env, h, r, sr, q⟩ => ?_⟩
  unfold cGlb at q
  cases e : C.P.consts[k]? with
  | none => rw [e] at q; exact q.elim
  | some d =>
    rw [e] at q
    obtain ⟨u, v, hm, hr, hd⟩ := g.link.cG k x d hk e
    exact (L2.pe_glob h1 hm hr h2).run pins s σ H Q I (q.here sr (hd H r))
theorem fnvY {W : XK} {X : Cx} (g : Good L C n W X) {k : Nat} {x : Str} {p : Pos} (hg : glB X.env.scope x = true) (hk : L.nm.fn[k]? = some x) (hz : x ≠ Str.empty) : PE X (.Name x p) (rd L X.K W (cC (.fn k))) := by
  obtain ⟨h1, h2, h3⟩ := gl_of hg
  exact pe_const (L2.pe_glob h1 (g.link.fnG k x hk hz).1 (v := .ref (L.fa k)) rfl h2) (fun _ _ => rfl) fun H r => by unfold RelD; exact ⟨rfl, x, hk, hz⟩
theorem biY {W : XK} {X : Cx} (g : Good L C n W X) {b : Bi} {as : ML} {e : Expr} {es : List Expr} {p pos : Pos} (hb : biOk b = true) (hg : glB X.env.scope (biN b) = true) (ha : PA X (e :: es) (rdA L X.K W as)) (h1 : starEach (e :: es) X.env = (false, eval e X.env) :: starEach es X.env) (h2 : (backTo pos (starEach es X.env)).any (·.1) = false) :
    PE X (.Call (.Name (biN b) p) (e :: es) [] pos) (rd L X.K W (cApp as fun ds _ h => biF b ds h)) := by
  obtain ⟨g1, g2, g3⟩ := gl_of hg
  have gm := g.link.bG _ (biN_blt b hb)
  have mk : ∀ f : Value, (∀ (env : Env) (h : Heap) (r : List Addr) (σ : Sg) (H : Hp) (Q : VK) (ds : List D) (xs : List V), SR L X.K env h r σ H → RelDs L X.K H r ds xs → Post L X.K (RV L X.K) W env σ r H Q (biF b ds h) → wCall X f xs H Q) →
      ∀ σ H Q, rd L X.K W (cApp as fun ds _ h => biF b ds h) σ H Q → L2.tCB (wCall X f) (rdA L X.K W as) σ H Q := fun f hf σ H Q q =>
    to_tA (T := fun xs H1 Q => wCall X f xs H1 Q) (k := fun ds _ h => biF b ds h) (fun _ _ => rfl) (fun env hh r σ H Q ds xs s gs p => hf env hh r σ H Q ds xs s gs p) σ H Q q
  cases b <;> first | (cases hb; done) | skip
  case len => exact (L2.pe_callB (call_w (f := .builtin "len")) g1 gm (by decide +kernel) ha g3 g2 h1 h2).imp (mk _ fun env h r σ H Q ds xs s gs p => bi_len s gs p)
  case all => exact (L2.pe_callB (call_w (f := .builtin "all")) g1 gm (by decide +kernel) ha g3 g2 h1 h2).imp (mk _ fun env h r σ H Q ds xs s gs p => bi_all g s gs p)
  case any => exact (L2.pe_callB (call_w (f := .builtin "any")) g1 gm (by decide +kernel) ha g3 g2 h1 h2).imp (mk _ fun env h r σ H Q ds xs s gs p => bi_any g s gs p)
  case sum => exact (L2.pe_callB (call_w (f := .builtin "sum")) g1 gm (by decide +kernel) ha g3 g2 h1 h2).imp (mk _ fun env h r σ H Q ds xs s gs p => bi_sum g s gs p)
  case ord => exact (L2.pe_callB (call_w (f := .builtin "ord")) g1 gm (by decide +kernel) ha g3 g2 h1 h2).imp (mk _ fun env h r σ H Q ds xs s gs p => bi_ord s gs p)
  case abs => exact (L2.pe_callB (call_w (f := .builtin "abs")) g1 gm (by decide +kernel) ha g3 g2 h1 h2).imp (mk _ fun env h r σ H Q ds xs s gs p => bi_abs s gs p)
  case min => exact (L2.pe_callB (call_w (f := .builtin "min")) g1 gm (by decide +kernel) ha g3 g2 h1 h2).imp (mk _ fun env h r σ H Q ds xs s gs p => bi_min g s gs p)
  case max => exact (L2.pe_callB (call_w (f := .builtin "max")) g1 gm (by decide +kernel) ha g3 g2 h1 h2).imp (mk _ fun env h r σ H Q ds xs s gs p => bi_max g s gs p)
  case sorted => exact (L2.pe_callB (call_w (f := .builtin "sorted")) g1 gm (by decide +kernel) ha g3 g2 h1 h2).imp (mk _ fun env h r σ H Q ds xs s gs p => bi_sorted g s gs p)
  case min1 => exact (L2.pe_callB (call_w (f := .builtin "min")) g1 gm (by decide +kernel) ha g3 g2 h1 h2).imp (mk _ fun env h r σ H Q ds xs s gs p => bi_min1 g s gs p)
  case max1 => exact (L2.pe_callB (call_w (f := .builtin "max")) g1 gm (by decide +kernel) ha g3 g2 h1 h2).imp (mk _ fun env h r σ H Q ds xs s gs p => bi_max1 g s gs p)
  case divmod => exact (L2.pe_callB (call_w (f := .builtin "divmod")) g1 gm (by decide +kernel) ha g3 g2 h1 h2).imp (mk _ fun env h r σ H Q ds xs s gs p => bi_divmod s gs p)
  case tuple => exact (L2.pe_callTy (call_w (f := .type "tuple")) g1 gm (by decide +kernel) ha g3 g2 h1 h2).imp (mk _ fun env h r σ H Q ds xs s gs p => bi_tuple s gs p)
  case dict => exact (L2.pe_callTy (call_w (f := .type "dict")) g1 gm (by decide +kernel) ha g3 g2 h1 h2).imp (mk _ fun env h r σ H Q ds xs s gs p => bi_dict s gs p)
  case list => exact (L2.pe_callTy (call_w (f := .type "list")) g1 gm (by decide +kernel) ha g3 g2 h1 h2).imp (mk _ fun env h r σ H Q ds xs s gs p => bi_list s gs p)
  case int => exact (L2.pe_callTy (call_w (f := .type "int")) g1 gm (by decide +kernel) ha g3 g2 h1 h2).imp (mk _ fun env h r σ H Q ds xs s gs p => bi_int s gs p)
  case str => exact (L2.pe_callTy (call_w (f := .type "str")) g1 gm (by decide +kernel) ha g3 g2 h1 h2).imp (mk _ fun env h r σ H Q ds xs s gs p => bi_str s gs p)
theorem bmYY {W : XK} {X : Cx} (g : Good L C n W X) {m : Bm} {o : MV} {as : ML} {po e : Expr} {es : List Expr} {apos pos : Pos} (hm : bmOk m = true) (ho : PE X po (rd L X.K W o)) (ha : PA X (e :: es) (rdA L X.K W as)) (hn : noSup po = true) (hl : es.length < 20) (hline : (apos.endLine == pos.line) = true)
    (h1 : starEach (e :: es) X.env = (false, eval e X.env) :: starEach es X.env) (h2 : (backTo pos (starEach es X.env)).any (·.1) = false) : PE X (.Call (.Attribute po (bmN m) apos) (e :: es) [] pos) (rd L X.K W (cBm C.base m o as)) := by
  have hfew := few_of (es := e :: es) (env := X.env) (pos := pos) (by rw [h1]; exact h2) (by rw [List.length_cons]; omega)
  cases m <;> first | (cases hm; done) | skip
  case append => exact bmY ho ha F.plainAttrs_list F.slot_list_append F.type_list_append (fun s gx gs p => m_append s gx gs p) (base_of hn _ _ _) hfew hline h1 h2
  case split => exact bmY ho ha F.plainAttrs_str F.slot_str_split F.type_str_split (fun s gx gs p => m_split s gx gs p) (base_of hn _ _ _) hfew hline h1 h2
  case partition => exact bmY ho ha F.plainAttrs_str F.slot_str_partition F.type_str_partition (fun s gx gs p => m_part s gx gs p) (base_of hn _ _ _) hfew hline h1 h2
  case join => exact bmY ho ha F.plainAttrs_str F.slot_str_join F.type_str_join (fun s gx gs p => m_join s gx gs p) (base_of hn _ _ _) hfew hline h1 h2
  case startswith => exact bmY ho ha F.plainAttrs_str F.slot_str_startswith F.type_str_startswith (fun s gx gs p => m_starts s gx gs p) (base_of hn _ _ _) hfew hline h1 h2
  case endswith => exact bmY ho ha F.plainAttrs_str F.slot_str_endswith F.type_str_endswith (fun s gx gs p => m_ends s gx gs p) (base_of hn _ _ _) hfew hline h1 h2
  case ljust => exact bmY ho ha F.plainAttrs_str F.slot_str_ljust F.type_str_ljust (fun s gx gs p => m_ljust s gx gs p) (base_of hn _ _ _) hfew hline h1 h2
  case rstrip => exact bmY ho ha F.plainAttrs_str F.slot_str_rstrip F.type_str_rstrip (fun s gx gs p => m_rstrip s gx gs p) (base_of hn _ _ _) hfew hline h1 h2
  case lstrip => exact bmY ho ha F.plainAttrs_str F.slot_str_lstrip F.type_str_lstrip (fun s gx gs p => m_lstrip s gx gs p) (base_of hn _ _ _) hfew hline h1 h2
  case index => exact bmY ho ha F.plainAttrs_list F.slot_list_index F.type_list_index (fun s gx gs p => m_index s gx gs p) (base_of hn _ _ _) hfew hline h1 h2
  case extend => exact bmY ho ha F.plainAttrs_list F.slot_list_extend F.type_list_extend (fun s gx gs p => m_extend s gx gs p) (base_of hn _ _ _) hfew hline h1 h2
theorem _root_.L2.PTs.imp {X : Cx} {e : List Expr} {t t' : TT} (h : PTs X e t) (i : ∀ σ H Q, t' σ H Q → t σ H Q) : PTs X e t' := ⟨fun pins s σ H Q I q => h.run pins s σ H Q I (i σ H Q q)⟩
theorem pts0Y {W : XK} {X : Cx} : PTs X [] (rdT L X.K W (cTests (evt C []))) :=
  L2.pts_nil.imp fun σ H Q ⟨env, h, r, s, p⟩ => p.hereB s rfl
theorem pts1Y {W : XK} {X : Cx} {c : Expr} {e : E} (hc : PT X c (rdT L X.K W (ev C e).t)) : PTs X [c] (rdT L X.K W (cTests (evt C [e]))) :=
  (L2.pts_one hc).imp fun σ H Q ⟨env, h, r, s, p⟩ => ⟨env, h, r, s, (Post.bind (R := RB) p).mono fun b H1 ⟨d, h1, r1, a1, p1⟩ => by
    cases a1.rel
    cases b with
    | true => exact p1.hereB a1.s rfl
    | false => exact p1.hereB a1.s rfl⟩
theorem ht_of {po : Expr} {z : Str} {apos pos : Pos} {pes : List Expr} {env : PySem.Env} (hbase : attributeBase po z env (eval po env) = eval po env)
    (hfew : ((backTo pos (starEach pes env)).all (fun x => !x.1) && (backToKw pos (keywordEach [] env)).all (fun x => x.1.isSome) && decide (pes.length + ([] : List Keyword).length + (if ([] : List Keyword).isEmpty then 0 else 1) < 30)) = true) (hline : (apos.endLine == pos.line) = true) :
    ∃ pl, eval (.Call (.Attribute po z apos) pes [] pos) env = (do
      let ov ← eval po env
      standAt apos.atName
      let (f, first) ← holding [ov] (getMethod ov z pl)
      callWith pos f first (backTo pos (starEach pes env)) (backToKw pos (keywordEach [] env))) := by
  have hform : methodCallForm (pes.length + ([] : List Keyword).length) (backTo pos (starEach pes env)) (backToKw pos (keywordEach [] env)) = true := hfew
  have hpos : methodCallPos true po env apos pos = pure pos := by unfold methodCallPos; simp [hline]
  rw [arm_eval_Call, hbase]
  unfold methodCall
  rw [hform, hpos]
  simp only [pure_bind]
  exact ⟨_, rfl⟩
theorem pw_of {X : Cx} {op : BoolOp} {es : List Expr} {pos : Pos} {t : TT} (h : PT X (.BoolOp op es pos) t) : PW X (.BoolOp op es pos) t := ⟨fun w pins s σ H Q I q => h.run pins s σ H Q I q⟩
mutual
theorem evalE_ok : ∀ (e : E) {C : Ctx} {n : Nat} {X : Cx} {W : XK} {pe : Expr}, Good L C n W X → chkE L.nm X.N X.env.scope e pe = true → Okay L C W X e pe
  | .cint i, C, n, X, W, pe, g, h => by
    cases pe <;> first | (exact absurd h Bool.false_ne_true) | skip
    rename_i c k pos
    cases c <;> first | (exact absurd h Bool.false_ne_true) | skip
    unfold chkE at h
    cases of_decide_eq_true h
    exact .plain rfl (pe_const L2.pe_int (fun _ _ => rfl) fun _ _ => mk_int) fun _ => rfl
  | .cstr z, C, n, X, W, pe, g, h => by
    cases pe <;> first | (exact absurd h Bool.false_ne_true) | skip
    rename_i c k pos
    cases c <;> first | (exact absurd h Bool.false_ne_true) | skip
    unfold chkE at h
    simp only [Bool.and_eq_true, decide_eq_true_eq, List.all_eq_true] at h
    obtain ⟨⟨rfl, h2⟩, h3⟩ := h
    exact .plain rfl (pe_const L2.pe_str (fun _ _ => rfl) fun _ _ => mk_str ⟨by rw [szl]; exact h2, fun c hc => by simpa using h3 c hc⟩) fun _ => rfl
  | .cbl b, C, n, X, W, pe, g, h => by
    cases pe <;> first | (exact absurd h Bool.false_ne_true) | skip
    rename_i c k pos
    cases c <;> first | (exact absurd h Bool.false_ne_true) | skip
    unfold chkE at h
    cases eq_of_beq h
    exact .plain rfl (pe_const L2.pe_bl (fun _ _ => rfl) fun _ _ => mk_bl) fun _ => rfl
  | .cnon, C, n, X, W, pe, g, h => by
    cases pe <;> first | (exact absurd h Bool.false_ne_true) | skip
    rename_i c k pos
    cases c <;> first | (exact absurd h Bool.false_ne_true) | skip
    exact .plain rfl (pe_const L2.pe_non (fun _ _ => rfl) fun _ _ => mk_non) fun _ => rfl
  | .var i, C, n, X, W, pe, g, h => by
    cases pe <;> first | (exact absurd h Bool.false_ne_true) | skip
    unfold chkE at h
    obtain ⟨h1, h2⟩ := Bool.and_eq_true_iff.mp h
    obtain ⟨v1, v2, v3⟩ := vis_of h2
    refine .plain rfl ((L2.pe_var (of_decide_eq_true h1) v1 v2 v3).imp fun σ H Q ⟨env, hh, r, s, p⟩ => ?_) fun _ => rfl
    show L2.tVar i σ H Q
    have p : Post L X.K (RV L X.K) W env σ r H Q (match env[i]? with | some (some d) => .ok d hh | _ => .err) := p
    split at p
    · rename_i d ed
      obtain ⟨v, ev, rv⟩ := s.er i d ed
      exact ⟨v, ev, p.here s rv⟩
    · exact p.elim
  | .glb k, C, n, X, W, pe, g, h => by
    cases pe <;> first | (exact absurd h Bool.false_ne_true) | skip
    unfold chkE at h
    obtain ⟨h1, h2⟩ := Bool.and_eq_true_iff.mp h
    exact .plain rfl (constY g h1 (of_decide_eq_true h2)) fun _ => rfl
  | .fnv k, C, n, X, W, pe, g, h => by
    cases pe <;> first | (exact absurd h Bool.false_ne_true) | skip
    unfold chkE at h
    simp only [Bool.and_eq_true, decide_eq_true_eq] at h
    exact .plain rfl (fnvY g h.1.1 h.1.2 h.2) fun _ => rfl
  | .bin op a b, C, n, X, W, pe, g, h => by
    cases pe <;> first | (exact absurd h Bool.false_ne_true) | skip
    unfold chkE at h
    simp only [Bool.and_eq_true, decide_eq_true_eq] at h
    obtain ⟨⟨rfl, h1⟩, h2⟩ := h
    exact .plain rfl ((L2.pe_op op_w (evalE_ok a g h1).v (evalE_ok b g h2).v).imp fun σ H Q q =>
      to_tOp (fun _ _ => rfl) (fun env hh r σ H Q dx dy x y s gx gy p => binop_ok g s gx gy p) σ H Q q) fun _ => rfl
  | .neg a, C, n, X, W, pe, g, h => by
    cases pe <;> first | (exact absurd h Bool.false_ne_true) | skip
    rename_i op pa pos
    cases op <;> first | (exact absurd h Bool.false_ne_true) | skip
    unfold chkE at h
    exact .plain rfl ((L2.pe_un un_w (evalE_ok a g h).v).imp fun σ H Q q =>
      to_tUn (fun _ _ => rfl) (fun env hh r σ H Q dx x s gx p => neg_ok g s gx p) σ H Q q) fun _ => rfl
  | .notv a, C, n, X, W, pe, g, h => by
    cases pe <;> first | (exact absurd h Bool.false_ne_true) | skip
    rename_i op pa pos
    cases op <;> first | (exact absurd h Bool.false_ne_true) | skip
    unfold chkE at h
    have ih := evalE_ok a g h
    exact ⟨pe_notY ih.v, fun ht => pt_notY (ih.t (by unfold tOk at ht; exact ht)), fun _ _ _ _ _ => piY (pe_notY ih.v)⟩
  | .cmp op a b, C, n, X, W, pe, g, h => by
    cases pe <;> first | (exact absurd h Bool.false_ne_true) | skip
    rename_i pa ops es pos
    rcases ops with _ | ⟨o, _ | ⟨o2, ops⟩⟩ <;> first | (exact absurd h Bool.false_ne_true) | skip
    rcases es with _ | ⟨pb, _ | ⟨pc, es⟩⟩ <;> first | (exact absurd h Bool.false_ne_true) | skip
    unfold chkE at h
    simp only [Bool.and_eq_true, decide_eq_true_eq] at h
    obtain ⟨⟨rfl, h1⟩, h2⟩ := h
    have hv := fun σ H Q q => to_tOp (L := L) (W := W) (K := X.K) (rr := wOp X (compareOp o)) (ma := (ev C a).v) (mb := (ev C b).v) (m := cOp (cmpF o) (ev C a).v (ev C b).v) (k := cmpF o) (fun _ _ => rfl) (fun env hh r σ H Q dx dy x y s gx gy p => cmpF_ok g s gx gy p) σ H Q q
    exact ⟨(L2.pe_cmpR op_w (evalE_ok a g h1).v (evalE_ok b g h2).v (noset_of h2 o)).imp hv,
      fun _ => pt_bool (L2.pt_cmpR op_w (evalE_ok a g h1).v (evalE_ok b g h2).v (noset_of h2 o)) hv cmp_bool,
      fun _ _ _ _ _ => piY ((L2.pe_cmpR op_w (evalE_ok a g h1).v (evalE_ok b g h2).v (noset_of h2 o)).imp hv)⟩
  | .chain o1 o2 a b c, C, n, X, W, pe, g, h => by
    cases pe <;> first | (exact absurd h Bool.false_ne_true) | skip
    rename_i pa ops es pos
    rcases ops with _ | ⟨p1, _ | ⟨p2, _ | ⟨p3, ops⟩⟩⟩ <;> first | (exact absurd h Bool.false_ne_true) | skip
    rcases es with _ | ⟨pb, _ | ⟨pc, _ | ⟨pd, es⟩⟩⟩ <;> first | (exact absurd h Bool.false_ne_true) | skip
    unfold chkE at h
    simp only [Bool.and_eq_true, decide_eq_true_eq] at h
    obtain ⟨⟨⟨⟨rfl, rfl⟩, h1⟩, h2⟩, h3⟩ := h
    have hm : lastMarks [p1, p2] [pb, pc] = false := noset_of h3 p2
    have hv := (L2.pe_chain (pos := pos) (op_w (f := compareOp p1)) (op_w (f := compareOp p2)) (evalE_ok a g h1).v (evalE_ok b g h2).v (evalE_ok c g h3).v hm).imp (chain_of g)
    exact ⟨hv, fun _ => pt_bool (L2.pt_chain op_w op_w (evalE_ok a g h1).v (evalE_ok b g h2).v (evalE_ok c g h3).v hm) (chain_of g) chain_bool, fun _ _ _ _ _ => piY hv⟩
  | .andv a b, C, n, X, W, pe, g, h => by
    cases pe <;> first | (exact absurd h Bool.false_ne_true) | skip
    rename_i op es pos
    cases op <;> first | (exact absurd h Bool.false_ne_true) | skip
    rcases es with _ | ⟨pa, _ | ⟨pb, _ | ⟨pc, es⟩⟩⟩ <;> first | (exact absurd h Bool.false_ne_true) | skip
    · unfold chkE at h
      obtain ⟨h1, h2⟩ := Bool.and_eq_true_iff.mp h
      have ia := evalE_ok a g h1
      have ib := evalE_ok b g h2
      have hv : PE X (.BoolOp .And [pa, pb] pos) (rd L X.K W (cAnd (ev C a).v (ev C b).v)) := pe_andY ia.v (L2.pe_one ib.v)
      refine ⟨hv, fun ht => ?_, fun _ _ _ _ _ => piY hv⟩
      unfold tOk at ht
      obtain ⟨t1, t2⟩ := Bool.and_eq_true_iff.mp ht
      exact (pw_andY (ia.t t1) (L2.pw_and1 (ib.t t2))).pt
    · unfold chkE at h
      obtain ⟨h1, h2⟩ := Bool.and_eq_true_iff.mp h
      have ia := evalE_ok a g h1
      have ib := evalE_ok b g h2
      have hv : PE X (.BoolOp .And (pa :: pb :: pc :: es) pos) (rd L X.K W (cAnd (ev C a).v (ev C b).v)) := pe_andY ia.v ib.v
      refine ⟨hv, fun ht => ?_, fun _ _ _ _ _ => piY hv⟩
      unfold tOk at ht
      obtain ⟨t1, t2⟩ := Bool.and_eq_true_iff.mp ht
      exact (pw_andY (ia.t t1) (pw_of (ib.t t2))).pt
  | .orv a b, C, n, X, W, pe, g, h => by
    cases pe <;> first | (exact absurd h Bool.false_ne_true) | skip
    rename_i op es pos
    cases op <;> first | (exact absurd h Bool.false_ne_true) | skip
    rcases es with _ | ⟨pa, _ | ⟨pb, _ | ⟨pc, es⟩⟩⟩ <;> first | (exact absurd h Bool.false_ne_true) | skip
    · unfold chkE at h
      obtain ⟨h1, h2⟩ := Bool.and_eq_true_iff.mp h
      have ia := evalE_ok a g h1
      have ib := evalE_ok b g h2
      have hv : PE X (.BoolOp .Or [pa, pb] pos) (rd L X.K W (cOr (ev C a).v (ev C b).v)) := pe_orY ia.v (L2.pe_one ib.v)
      refine ⟨hv, fun ht => ?_, fun _ _ _ _ _ => piY hv⟩
      unfold tOk at ht
      obtain ⟨t1, t2⟩ := Bool.and_eq_true_iff.mp ht
      exact (pw_orY (ia.t t1) (L2.pw_or1 (ib.t t2))).pt
    · unfold chkE at h
      obtain ⟨h1, h2⟩ := Bool.and_eq_true_iff.mp h
      have ia := evalE_ok a g h1
      have ib := evalE_ok b g h2
      have hv : PE X (.BoolOp .Or (pa :: pb :: pc :: es) pos) (rd L X.K W (cOr (ev C a).v (ev C b).v)) := pe_orY ia.v ib.v
      refine ⟨hv, fun ht => ?_, fun _ _ _ _ _ => piY hv⟩
      unfold tOk at ht
      obtain ⟨t1, t2⟩ := Bool.and_eq_true_iff.mp ht
      exact (pw_orY (ia.t t1) (pw_of (ib.t t2))).pt
  | .ife t a b, C, n, X, W, pe, g, h => by
    cases pe <;> first | (exact absurd h Bool.false_ne_true) | skip
    rename_i pt pa pb pos
    unfold chkE at h
    simp only [Bool.and_eq_true] at h
    obtain ⟨⟨⟨h1, h2⟩, h3⟩, h4⟩ := h
    have hv := pe_ifY (pos := pos) ((evalE_ok t g h1).t h2) (evalE_ok a g h3).v (evalE_ok b g h4).v
    exact ⟨hv, fun ht => (by unfold tOk at ht; exact absurd ht Bool.false_ne_true), fun _ _ _ _ _ => piY hv⟩
  | .call k es, C, n, X, W, pe, g, h => by
    cases pe <;> first | (exact absurd h Bool.false_ne_true) | skip
    rename_i f as ks pos
    cases ks <;> first | (exact absurd h Bool.false_ne_true) | skip
    unfold chkE at h
    obtain ⟨h0, h4⟩ := Bool.and_eq_true_iff.mp h
    unfold callB at h0
    split at h0
    · simp only [Bool.and_eq_true, decide_eq_true_eq] at h0
      obtain ⟨⟨h1, h2⟩, h3⟩ := h0
      obtain ⟨g1, g2, g3⟩ := gl_of h1
      exact .plain rfl (callY g h2 h3 g1 g2 (evalEs_ok es g h4) (nil_args h4) (star_args h4 _ _)) fun _ => rfl
    · simp only [Bool.and_eq_true, decide_eq_true_eq] at h0
      obtain ⟨⟨⟨⟨h1, h2⟩, h3⟩, h5⟩, h6⟩ := h0
      obtain ⟨g1, g2, g3⟩ := gl_of h1
      obtain ⟨pl, hpl⟩ := ht_of (env := X.env) (z := _) (base_of h3 _ _ _) (few_of (pos := pos) (back_of h4 X.env pos) (by omega)) h6
      exact .plain rfl (clsY (pl := pl) g h2 g1 g2 (evalEs_ok es g h4) (nil_args h4) (star_args h4 _ _) hpl) fun _ => rfl
    · exact absurd h0 Bool.false_ne_true
  | .new c es, C, n, X, W, pe, g, h => by
    cases pe <;> first | (exact absurd h Bool.false_ne_true) | skip
    rename_i f as ks pos
    cases f <;> first | (exact absurd h Bool.false_ne_true) | skip
    cases ks <;> first | (exact absurd h Bool.false_ne_true) | skip
    unfold chkE at h
    simp only [Bool.and_eq_true, decide_eq_true_eq] at h
    obtain ⟨⟨⟨h1, h2⟩, h3⟩, h4⟩ := h
    obtain ⟨g1, g2, g3⟩ := gl_of h1
    exact .plain rfl (newY g h2 h3 g1 g2 (evalEs_ok es g h4) (nil_args h4) (star_args h4 _ _)) fun _ => rfl
  | .mth m o es, C, n, X, W, pe, g, h => by
    cases pe <;> first | (exact absurd h Bool.false_ne_true) | skip
    rename_i f as ks pos
    cases f <;> first | (exact absurd h Bool.false_ne_true) | skip
    cases ks <;> first | (exact absurd h Bool.false_ne_true) | skip
    unfold chkE at h
    simp only [Bool.and_eq_true, decide_eq_true_eq] at h
    obtain ⟨⟨⟨⟨⟨h1, h2⟩, h3⟩, h5⟩, h6⟩, h4⟩ := h
    obtain ⟨pl, hpl⟩ := ht_of (env := X.env) (z := _) (base_of h3 _ _ _) (few_of (pos := pos) (back_of h4 X.env pos) (by omega)) h6
    exact .plain rfl (methY (pl := pl) g h2 (evalE_ok o g h1).v (evalEs_ok es g h4) (nil_args h4) (star_args h4 _ _) hpl) fun _ => rfl
  | .bi b es, C, n, X, W, pe, g, h => by
    cases pe <;> first | (exact absurd h Bool.false_ne_true) | skip
    rename_i f as ks pos
    cases f <;> first | (exact absurd h Bool.false_ne_true) | skip
    cases as <;> first | (exact absurd h Bool.false_ne_true) | skip
    cases ks <;> first | (exact absurd h Bool.false_ne_true) | skip
    unfold chkE at h
    simp only [Bool.and_eq_true, decide_eq_true_eq] at h
    obtain ⟨⟨⟨h1, rfl⟩, h3⟩, h4⟩ := h
    obtain ⟨s1, s2⟩ := star_args h4 X.env pos _ _ rfl
    exact .plain rfl (biY g h3 h1 (evalEs_ok es g h4) s1 s2) fun _ => rfl
  | .bm m o es, C, n, X, W, pe, g, h => by
    cases pe <;> first | (exact absurd h Bool.false_ne_true) | skip
    rename_i f as ks pos
    cases f <;> first | (exact absurd h Bool.false_ne_true) | skip
    cases as <;> first | (exact absurd h Bool.false_ne_true) | skip
    cases ks <;> first | (exact absurd h Bool.false_ne_true) | skip
    unfold chkE at h
    simp only [Bool.and_eq_true, decide_eq_true_eq] at h
    obtain ⟨⟨⟨⟨⟨⟨h1, rfl⟩, h3⟩, h4⟩, h5⟩, h6⟩, h7⟩ := h
    obtain ⟨s1, s2⟩ := star_args h7 X.env pos _ _ rfl
    exact .plain rfl (bmYY g h3 (evalE_ok o g h1).v (evalEs_ok es g h7) h4 h5 h6 s1 s2) fun _ => rfl
  | .isi a ts, C, n, X, W, pe, g, h => by
    cases pe <;> first | (rcases ts with _ | ⟨t, _ | ⟨t2, ts⟩⟩ <;> (exact absurd h Bool.false_ne_true)) | skip
    rename_i f as ks pos
    cases f <;> first | (rcases ts with _ | ⟨t, _ | ⟨t2, ts⟩⟩ <;> (exact absurd h Bool.false_ne_true)) | skip
    rcases as with _ | ⟨pa, _ | ⟨pt, _ | ⟨pu, as⟩⟩⟩ <;> first | (cases pt <;> rcases ts with _ | ⟨t, _ | ⟨t2, ts⟩⟩ <;> (exact absurd h Bool.false_ne_true)) | (rcases ts with _ | ⟨t, _ | ⟨t2, ts⟩⟩ <;> (exact absurd h Bool.false_ne_true)) | skip
    cases ks <;> first | (cases pt <;> rcases ts with _ | ⟨t, _ | ⟨t2, ts⟩⟩ <;> (exact absurd h Bool.false_ne_true)) | (rcases ts with _ | ⟨t, _ | ⟨t2, ts⟩⟩ <;> (exact absurd h Bool.false_ne_true)) | skip
    cases pt <;> first | (rcases ts with _ | ⟨t, _ | ⟨t2, ts⟩⟩ <;> (exact absurd h Bool.false_ne_true)) | skip
    · rcases ts with _ | ⟨t, _ | ⟨t2, ts⟩⟩ <;> first | (exact absurd h Bool.false_ne_true) | skip
      unfold chkE at h
      simp only [Bool.and_eq_true, decide_eq_true_eq] at h
      obtain ⟨⟨⟨⟨h1, rfl⟩, h3⟩, rfl⟩, h5⟩ := h
      exact .plain rfl (isi_oneY g h1 h3 (evalE_ok a g h5).v (star_of h5 _ _)) fun _ => rfl
    · rename_i x p1 es kk p2
      have h' : (glB X.env.scope x && decide (x = ("isinstance" : Str)) && tyNames X.env.scope ts es && decide (ts.length ≤ 100) && chkE L.nm X.N X.env.scope a pa) = true := by
        rcases ts with _ | ⟨t, _ | ⟨t2, ts⟩⟩ <;> (unfold chkE at h; exact h)
      simp only [Bool.and_eq_true, decide_eq_true_eq] at h'
      obtain ⟨⟨⟨⟨h1, rfl⟩, h3⟩, h4⟩, h5⟩ := h'
      exact .plain rfl (isi_tupY g h1 h3 h4 (evalE_ok a g h5).v (star_of h5 _ _)) fun _ => rfl
  | .attr o f, C, n, X, W, pe, g, h => by
    cases pe <;> first | (exact absurd h Bool.false_ne_true) | skip
    unfold chkE at h
    simp only [Bool.and_eq_true, decide_eq_true_eq] at h
    obtain ⟨⟨h1, h2⟩, h3⟩ := h
    exact .plain rfl (attrY g h3 (evalE_ok o g h1).v (base_of h2 _ _ _)) fun _ => rfl
  | .idx a i, C, n, X, W, pe, g, h => by
    cases pe <;> first | (exact absurd h Bool.false_ne_true) | skip
    unfold chkE at h
    obtain ⟨h1, h2⟩ := Bool.and_eq_true_iff.mp h
    exact .plain rfl ((L2.pe_ix ix_w (evalE_ok a g h1).v (evalE_ok i g h2).v (plainix_of h2)).imp fun σ H Q q =>
      to_tOp (fun _ _ => rfl) (fun env hh r σ H Q dx dy x y s gx gy p => idx_ok g s gx gy p) σ H Q q) fun _ => rfl
  | .slc a lo hi, C, n, X, W, pe, g, h => by
    cases pe <;> first | (exact absurd h Bool.false_ne_true) | skip
    rename_i pa ps pos
    cases ps <;> first | (exact absurd h Bool.false_ne_true) | skip
    rename_i pl ph st p2
    cases st <;> first | (cases pl <;> cases ph <;> (exact absurd h Bool.false_ne_true)) | skip
    have nonv : ∀ {e : E}, e.wr = false → ∀ env h, (ev C e).v env h = .ok .non h := fun {e} he env h => by
      cases e <;> first | rfl | (cases he; done)
    cases pl with
    | none =>
      cases ph with
      | none =>
        unfold chkE at h
        simp only [Bool.and_eq_true, Bool.not_eq_true'] at h
        obtain ⟨⟨h1, h2⟩, h3⟩ := h
        have hv := slcY (pos := pos) (p0 := p2) g (evalE_ok a g h1).v (part_none (W := W) (nonv h2)) (part_none (W := W) (nonv h3))
        exact .plain (m := cSlc lo.wr hi.wr (ev C a).v (ev C lo).v (ev C hi).v) rfl (by rw [h2, h3]; exact hv) fun _ => rfl
      | some ph =>
        unfold chkE at h
        simp only [Bool.and_eq_true, Bool.not_eq_true'] at h
        obtain ⟨⟨⟨h1, h2⟩, h3⟩, h4⟩ := h
        have hv := slcY (pos := pos) (p0 := p2) g (evalE_ok a g h1).v (part_none (W := W) (nonv h2)) (part_some (evalE_ok hi g h4).v)
        exact .plain (m := cSlc lo.wr hi.wr (ev C a).v (ev C lo).v (ev C hi).v) rfl (by rw [h2, h3]; exact hv) fun _ => rfl
    | some pl =>
      cases ph with
      | none =>
        unfold chkE at h
        simp only [Bool.and_eq_true, Bool.not_eq_true'] at h
        obtain ⟨⟨⟨h1, h2⟩, h3⟩, h4⟩ := h
        have hv := slcY (pos := pos) (p0 := p2) g (evalE_ok a g h1).v (part_some (evalE_ok lo g h4).v) (part_none (W := W) (nonv h3))
        exact .plain (m := cSlc lo.wr hi.wr (ev C a).v (ev C lo).v (ev C hi).v) rfl (by rw [h2, h3]; exact hv) fun _ => rfl
      | some ph =>
        unfold chkE at h
        simp only [Bool.and_eq_true, Bool.not_eq_true'] at h
        obtain ⟨⟨⟨⟨h1, h2⟩, h3⟩, h4⟩, h5⟩ := h
        have hv := slcY (pos := pos) (p0 := p2) g (evalE_ok a g h1).v (part_some (evalE_ok lo g h4).v) (part_some (evalE_ok hi g h5).v)
        exact .plain (m := cSlc lo.wr hi.wr (ev C a).v (ev C lo).v (ev C hi).v) rfl (by rw [h2, h3]; exact hv) fun _ => rfl
  | .tup es, C, n, X, W, pe, g, h => by
    cases pe <;> first | (exact absurd h Bool.false_ne_true) | skip
    unfold chkE at h
    exact .plain rfl ((L2.pe_tup (evalEs_ok es g h)).imp fun σ H Q q =>
      to_tA (T := fun xs H1 Q => xs.length ≤ PySem.sizeLine ∧ ∀ p, H1 p = none → Q (.ref p) (upd H1 p (.tup xs))) (k := fun ds _ h => mkTup ds h) (fun _ _ => rfl) (fun env hh r σ H Q ds xs s gs p => p.tup s gs) σ H Q q) fun _ => rfl
  | .lst es, C, n, X, W, pe, g, h => by
    cases pe <;> first | (exact absurd h Bool.false_ne_true) | skip
    unfold chkE at h
    exact .plain rfl ((L2.pe_lst (evalEs_ok es g h)).imp fun σ H Q q =>
      to_tA (T := fun xs H1 Q => xs.length ≤ PySem.sizeLine ∧ ∀ p, H1 p = none → Q (.ref p) (upd H1 p (.lst xs))) (k := fun ds _ h => mkLst ds h) (fun _ _ => rfl) (fun env hh r σ H Q ds xs s gs p => p.lst s gs) σ H Q q) fun _ => rfl
  | .lc own tg it ifs elt, C, n, X, W, pe, g, h => by
    cases pe <;> first | (rcases ifs with _ | ⟨c, _ | ⟨c2, ifs⟩⟩ <;> (exact absurd h Bool.false_ne_true)) | skip
    rename_i pelt gens scope pos
    rcases gens with _ | ⟨⟨ptg, pit, pifs, as⟩, _ | ⟨gen2, gens⟩⟩ <;> first | (rcases ifs with _ | ⟨c, _ | ⟨c2, ifs⟩⟩ <;> (exact absurd h Bool.false_ne_true)) | (rcases ifs with _ | ⟨c, _ | ⟨c2, ifs⟩⟩ <;> rcases pifs with _ | ⟨pc, _ | ⟨pc2, pifs⟩⟩ <;> (exact absurd h Bool.false_ne_true)) | skip
    rcases ifs with _ | ⟨c, _ | ⟨c2, ifs⟩⟩
    · rcases pifs with _ | ⟨pc, pifs⟩ <;> first | (exact absurd h Bool.false_ne_true) | skip
      unfold chkE at h
      simp only [Bool.and_eq_true, List.all_eq_true, decide_eq_true_eq] at h
      obtain ⟨⟨⟨⟨⟨⟨rfl, h1⟩, h2⟩, h3⟩, h4⟩, h5⟩, h6⟩ := h
      exact .plain rfl (lcY g ((evalE_ok it g h1).i _ _ _ h2 h5) (L2.blkOk_by h4) h5 (fun i hi => by simpa using h3 i hi) (fun s H Cc cl fp => pts0Y) (fun s H Cc cl fp => (evalE_ok elt (good_blk g s H cl Cc fp) h6).v) (folded_of h1 _)) fun _ => rfl
    · rcases pifs with _ | ⟨pc, _ | ⟨pc2, pifs⟩⟩ <;> first | (exact absurd h Bool.false_ne_true) | skip
      unfold chkE at h
      simp only [Bool.and_eq_true, List.all_eq_true, decide_eq_true_eq] at h
      obtain ⟨⟨⟨⟨⟨⟨⟨⟨rfl, h1⟩, h2⟩, h3⟩, h4⟩, h5⟩, h6⟩, h7⟩, h8⟩ := h
      exact .plain rfl (lcY g ((evalE_ok it g h1).i _ _ _ h2 h5) (L2.blkOk_by h4) h5 (fun i hi => by simpa using h3 i hi) (fun s H Cc cl fp => pts1Y ((evalE_ok c (good_blk g s H cl Cc fp) h6).t h7)) (fun s H Cc cl fp => (evalE_ok elt (good_blk g s H cl Cc fp) h8).v) (folded_of h1 _)) fun _ => rfl
    · rcases pifs with _ | ⟨pc, _ | ⟨pc2, pifs⟩⟩ <;> (exact absurd h Bool.false_ne_true)
  | .rng1 a, C, n, X, W, pe, g, h => by
    cases pe <;> first | (exact absurd h Bool.false_ne_true) | skip
    rename_i f as ks pos
    cases f <;> first | (exact absurd h Bool.false_ne_true) | skip
    rcases as with _ | ⟨pa, _ | ⟨pb, as⟩⟩ <;> first | (exact absurd h Bool.false_ne_true) | skip
    cases ks <;> first | (exact absurd h Bool.false_ne_true) | skip
    unfold chkE at h
    simp only [Bool.and_eq_true, decide_eq_true_eq] at h
    obtain ⟨⟨h1, rfl⟩, h3⟩ := h
    exact .walk rfl fun t tg st h4 h5 => pi_rng1Y g h1 (evalE_ok a g h3).v (star_of h3 _)
  | .rng2 a b, C, n, X, W, pe, g, h => by
    cases pe <;> first | (exact absurd h Bool.false_ne_true) | skip
    rename_i f as ks pos
    cases f <;> first | (exact absurd h Bool.false_ne_true) | skip
    rcases as with _ | ⟨pa, _ | ⟨pb, _ | ⟨pc, as⟩⟩⟩ <;> first | (exact absurd h Bool.false_ne_true) | skip
    cases ks <;> first | (exact absurd h Bool.false_ne_true) | skip
    unfold chkE at h
    simp only [Bool.and_eq_true, decide_eq_true_eq] at h
    obtain ⟨⟨⟨h1, rfl⟩, h3⟩, h4⟩ := h
    exact .walk rfl fun t tg st _ _ => pi_rng2Y g h1 (evalE_ok a g h3).v (evalE_ok b g h4).v (star_of h3 _) (star_of h4 _)
  | .rng3 a b c, C, n, X, W, pe, g, h => by
    cases pe <;> first | (exact absurd h Bool.false_ne_true) | skip
    rename_i f as ks pos
    cases f <;> first | (exact absurd h Bool.false_ne_true) | skip
    rcases as with _ | ⟨pa, _ | ⟨pb, _ | ⟨pc, _ | ⟨pd, as⟩⟩⟩⟩ <;> first | (exact absurd h Bool.false_ne_true) | skip
    cases ks <;> first | (exact absurd h Bool.false_ne_true) | skip
    unfold chkE at h
    simp only [Bool.and_eq_true, decide_eq_true_eq] at h
    obtain ⟨⟨⟨⟨h1, rfl⟩, h3⟩, h4⟩, h5⟩ := h
    exact .walk rfl fun t tg st _ _ => pi_rng3Y g h1 (evalE_ok a g h3).v (evalE_ok b g h4).v (evalE_ok c g h5).v (star_of h3 _) (star_of h4 _) (star_of h5 _)
  | .enm a, C, n, X, W, pe, g, h => by
    cases pe <;> first | (exact absurd h Bool.false_ne_true) | skip
    rename_i f as ks pos
    cases f <;> first | (exact absurd h Bool.false_ne_true) | skip
    rcases as with _ | ⟨pa, _ | ⟨pb, as⟩⟩ <;> first | (exact absurd h Bool.false_ne_true) | skip
    cases ks <;> first | (exact absurd h Bool.false_ne_true) | skip
    unfold chkE at h
    simp only [Bool.and_eq_true, decide_eq_true_eq] at h
    obtain ⟨⟨h1, rfl⟩, h3⟩ := h
    refine .walk rfl fun t tg st h4 h5 => ?_
    cases t with
    | nm i => cases h4
    | tp ts =>
      cases tg <;> first | (exfalso; unfold chkT at h5; cases h5; done) | skip
      exact pi_enmY g h1 (evalE_ok a g h3).v (star_of h3 _)
  | .zip a b, C, n, X, W, pe, g, h => by
    cases pe <;> first | (exact absurd h Bool.false_ne_true) | skip
    rename_i f as ks pos
    cases f <;> first | (exact absurd h Bool.false_ne_true) | skip
    rcases as with _ | ⟨pa, _ | ⟨pb, _ | ⟨pc, as⟩⟩⟩ <;> first | (exact absurd h Bool.false_ne_true) | skip
    cases ks <;> first | (exact absurd h Bool.false_ne_true) | skip
    unfold chkE at h
    simp only [Bool.and_eq_true, decide_eq_true_eq] at h
    obtain ⟨⟨⟨h1, rfl⟩, h3⟩, h4⟩ := h
    refine .walk rfl fun t tg st h5 h6 => ?_
    cases t with
    | nm i => cases h5
    | tp ts =>
      cases tg <;> first | (exfalso; unfold chkT at h6; cases h6; done) | skip
      exact pi_zipY g h1 (evalE_ok a g h3).v (evalE_ok b g h4).v (star_of h3 _) (star_of h4 _)
  | .enmr a, C, n, X, W, pe, g, h => by
    cases pe <;> first | (exact absurd h Bool.false_ne_true) | skip
    rename_i f as ks pos
    cases f <;> first | (exact absurd h Bool.false_ne_true) | skip
    rcases as with _ | ⟨pa, _ | ⟨pb, as⟩⟩ <;> first | (exact absurd h Bool.false_ne_true) | (exfalso; unfold chkE at h; simp at h; done) | skip
    cases pa <;> first | (exact absurd h Bool.false_ne_true) | skip
    rename_i f2 as2 ks2 pos2
    cases f2 <;> first | (exact absurd h Bool.false_ne_true) | skip
    rcases as2 with _ | ⟨pa, _ | ⟨pb, as2⟩⟩ <;> first | (exact absurd h Bool.false_ne_true) | skip
    cases ks2 <;> first | (exact absurd h Bool.false_ne_true) | skip
    cases ks <;> first | (exact absurd h Bool.false_ne_true) | skip
    unfold chkE at h
    simp only [Bool.and_eq_true, decide_eq_true_eq] at h
    obtain ⟨⟨⟨⟨h1, rfl⟩, h2⟩, rfl⟩, h3⟩ := h
    refine .walk rfl fun t tg st h4 h5 => ?_
    cases t with
    | nm i => cases h4
    | tp ts =>
      cases tg <;> first | (exfalso; unfold chkT at h5; cases h5; done) | skip
      exact pi_erY g h1 h2 (evalE_ok a g h3).v (star_of h3 _)
  | .rvd a, C, n, X, W, pe, g, h => by
    cases pe <;> first | (exact absurd h Bool.false_ne_true) | skip
    rename_i f as ks pos
    cases f <;> first | (exact absurd h Bool.false_ne_true) | skip
    rcases as with _ | ⟨pa, _ | ⟨pb, as⟩⟩ <;> first | (exact absurd h Bool.false_ne_true) | skip
    cases ks <;> first | (exact absurd h Bool.false_ne_true) | skip
    unfold chkE at h
    simp only [Bool.and_eq_true, decide_eq_true_eq] at h
    obtain ⟨⟨h1, rfl⟩, h3⟩ := h
    exact .walk rfl fun t tg st h4 h5 => pi_rvdY g h1 (evalE_ok a g h3).v (star_of h3 _)
  | .calls i es, C, n, X, W, pe, g, h => by
    cases pe <;> first | (exact absurd h Bool.false_ne_true) | skip
    rename_i f as ks pos
    cases f <;> first | (exact absurd h Bool.false_ne_true) | skip
    cases as <;> first | (exact absurd h Bool.false_ne_true) | skip
    cases ks <;> first | (exact absurd h Bool.false_ne_true) | skip
    unfold chkE at h
    simp only [Bool.and_eq_true, decide_eq_true_eq] at h
    obtain ⟨⟨h1, h2⟩, h3⟩ := h
    obtain ⟨s1, s2⟩ := star_args h3 X.env pos _ _ rfl
    exact .plain rfl (callsY g h1 h2 (evalEs_ok es g h3) s1 s2) fun _ => rfl
  | .rev a, C, n, X, W, pe, g, h => by cases pe <;> (exact absurd h Bool.false_ne_true)
  | .dnk, C, n, X, W, pe, g, h => by cases pe <;> (exact absurd h Bool.false_ne_true)
  | .dnt, C, n, X, W, pe, g, h => by cases pe <;> (exact absurd h Bool.false_ne_true)
  | .dlit [] [], C, n, X, W, pe, g, h => by
    cases pe <;> first | (exact absurd h Bool.false_ne_true) | skip
    rename_i ks vs pos
    unfold chkE at h
    simp only [Bool.and_eq_true] at h
    obtain ⟨⟨⟨⟨h1, h2⟩, h3⟩, h4⟩, h5⟩ := h
    rcases ks with _ | ⟨_ | pk, ks⟩
    · rcases vs with _ | ⟨pv, vs⟩
      · exact .plain rfl dnkY fun _ => rfl
      · exact absurd h3 Bool.false_ne_true
    · exact absurd h1 Bool.false_ne_true
    · exact absurd h2 Bool.false_ne_true
  | .dlit [] (_ :: _), C, n, X, W, pe, g, h => by
    cases pe <;> first | (exact absurd h Bool.false_ne_true) | skip
    unfold chkE at h
    simp at h
  | .dlit (_ :: _) [], C, n, X, W, pe, g, h => by
    cases pe <;> first | (exact absurd h Bool.false_ne_true) | skip
    unfold chkE at h
    simp at h
  | .dlit (_ :: _ :: _) (_ :: _), C, n, X, W, pe, g, h => by
    cases pe <;> first | (exact absurd h Bool.false_ne_true) | skip
    unfold chkE at h
    simp at h
  | .dlit [k] (_ :: _ :: _), C, n, X, W, pe, g, h => by
    cases pe <;> first | (exact absurd h Bool.false_ne_true) | skip
    unfold chkE at h
    simp at h
  | .dlit [k] [v], C, n, X, W, pe, g, h => by
    cases pe <;> first | (exact absurd h Bool.false_ne_true) | skip
    rename_i ks vs pos
    unfold chkE at h
    simp only [Bool.and_eq_true] at h
    obtain ⟨⟨⟨⟨h1, h2⟩, h3⟩, h4⟩, h5⟩ := h
    rcases ks with _ | ⟨_ | pk, _ | ⟨k2, ks⟩⟩
    · exact absurd h2 Bool.false_ne_true
    · exact absurd h1 Bool.false_ne_true
    · exact absurd h1 Bool.false_ne_true
    · rcases vs with _ | ⟨pv, _ | ⟨v2, vs⟩⟩
      · exact absurd h3 Bool.false_ne_true
      · unfold chkEs at h2 h3
        exact .plain rfl (dlitY (evalE_ok k g (Bool.and_eq_true_iff.mp h2).1).v (evalE_ok v g (Bool.and_eq_true_iff.mp h3).1).v) fun _ => rfl
      · unfold chkEs at h3
        exact absurd (Bool.and_eq_true_iff.mp h3).2 Bool.false_ne_true
    · rcases k2 with _ | k2
      · exact absurd h1 Bool.false_ne_true
      · unfold chkEs at h2
        exact absurd (Bool.and_eq_true_iff.mp h2).2 Bool.false_ne_true
  | .lenset b a, C, n, X, W, pe, g, h => by
    cases pe <;> first | (exact absurd h Bool.false_ne_true) | skip
    rename_i f as ks pos
    cases f <;> first | (exact absurd h Bool.false_ne_true) | skip
    rcases as with _ | ⟨pa, _ | ⟨pb, as⟩⟩ <;> first | (exact absurd h Bool.false_ne_true) | (exfalso; unfold chkE at h; simp at h; done) | skip
    cases pa <;> first | (exact absurd h Bool.false_ne_true) | skip
    rename_i x px f2 as2 ks2 pos2
    cases f2 <;> first | (exact absurd h Bool.false_ne_true) | skip
    rcases as2 with _ | ⟨pa, _ | ⟨pb, as2⟩⟩ <;> first | (exact absurd h Bool.false_ne_true) | (exfalso; unfold chkE at h; simp at h; done) | skip
    cases ks2 <;> first | (exact absurd h Bool.false_ne_true) | (exfalso; unfold chkE at h; simp at h; done) | skip
    cases ks <;> first | (exact absurd h Bool.false_ne_true) | (exfalso; unfold chkE at h; simp at h; done) | skip
    unfold chkE at h
    simp only [Bool.and_eq_true, decide_eq_true_eq] at h
    obtain ⟨⟨⟨⟨h1, rfl⟩, h3⟩, rfl⟩, h5⟩ := h
    cases b with
    | false => exact .plain rfl (lensetY g h1 h3 (evalE_ok a g h5).v (star_of h5 _ _)) fun _ => rfl
    | true => exact .plain rfl (srtsY g h1 h3 (evalE_ok a g h5).v (star_of h5 _ _)) fun _ => rfl
  | .mind a z, C, n, X, W, pe, g, h => by
    cases pe <;> first | (exact absurd h Bool.false_ne_true) | skip
    rename_i f as ks pos
    cases f <;> first | (exact absurd h Bool.false_ne_true) | skip
    rcases as with _ | ⟨pa, _ | ⟨pb, as⟩⟩ <;> first | (exact absurd h Bool.false_ne_true) | (exfalso; unfold chkE at h; simp at h; done) | skip
    rcases ks with _ | ⟨⟨k, pz, p2⟩, _ | ⟨kb, ks⟩⟩ <;> first | (exact absurd h Bool.false_ne_true) | (exfalso; unfold chkE at h; simp at h; done) | skip
    cases k <;> first | (exact absurd h Bool.false_ne_true) | skip
    unfold chkE at h
    simp only [Bool.and_eq_true, decide_eq_true_eq] at h
    obtain ⟨⟨⟨⟨h1, rfl⟩, rfl⟩, h4⟩, h5⟩ := h
    exact .plain rfl (minDY g h1 (evalE_ok a g h4).v (evalE_ok z g h5).v (star_of h4 _ _)) fun _ => rfl
  | .maxd a z, C, n, X, W, pe, g, h => by
    cases pe <;> first | (exact absurd h Bool.false_ne_true) | skip
    rename_i f as ks pos
    cases f <;> first | (exact absurd h Bool.false_ne_true) | skip
    rcases as with _ | ⟨pa, _ | ⟨pb, as⟩⟩ <;> first | (exact absurd h Bool.false_ne_true) | (exfalso; unfold chkE at h; simp at h; done) | skip
    rcases ks with _ | ⟨⟨k, pz, p2⟩, _ | ⟨kb, ks⟩⟩ <;> first | (exact absurd h Bool.false_ne_true) | (exfalso; unfold chkE at h; simp at h; done) | skip
    cases k <;> first | (exact absurd h Bool.false_ne_true) | skip
    unfold chkE at h
    simp only [Bool.and_eq_true, decide_eq_true_eq] at h
    obtain ⟨⟨⟨⟨h1, rfl⟩, rfl⟩, h4⟩, h5⟩ := h
    exact .plain rfl (maxDY g h1 (evalE_ok a g h4).v (evalE_ok z g h5).v (star_of h4 _ _)) fun _ => rfl
  | .told a, C, n, X, W, pe, g, h => by
    cases pe <;> first | (exact absurd h Bool.false_ne_true) | skip
    rename_i f as ks pos
    cases f <;> first | (exact absurd h Bool.false_ne_true) | skip
    rcases as with _ | ⟨pa, _ | ⟨pb, as⟩⟩ <;> first | (exact absurd h Bool.false_ne_true) | (exfalso; unfold chkE at h; simp at h; done) | skip
    cases pa <;> first | (exact absurd h Bool.false_ne_true) | skip
    rename_i x px ps body scope lp
    obtain ⟨q1, q2, q3, q4, q5, q6, q7⟩ := ps
    cases q1 <;> first | (exact absurd h Bool.false_ne_true) | skip
    cases q2 <;> first | (exact absurd h Bool.false_ne_true) | skip
    cases q3 <;> first | (exact absurd h Bool.false_ne_true) | skip
    cases q4 <;> first | (exact absurd h Bool.false_ne_true) | skip
    cases q5 <;> first | (exact absurd h Bool.false_ne_true) | skip
    cases q6 <;> first | (exact absurd h Bool.false_ne_true) | skip
    cases q7 <;> first | (exact absurd h Bool.false_ne_true) | skip
    cases ks <;> first | (exact absurd h Bool.false_ne_true) | skip
    unfold chkE at h
    simp only [Bool.and_eq_true, decide_eq_true_eq] at h
    obtain ⟨⟨⟨h1, rfl⟩, h3⟩, h4⟩ := h
    exact .plain (m := cTold C (ev C.dn a).v) rfl (toldY g h1 h3 fun ht n' A outer s H E f c' g' => (evalE_ok a g' h4).v) fun _ => rfl
  | .fst a, C, n, X, W, pe, g, h => by cases pe <;> (exact absurd h Bool.false_ne_true)
  | .items a, C, n, X, W, pe, g, h => by cases pe <;> (exact absurd h Bool.false_ne_true)
  | .vals a, C, n, X, W, pe, g, h => by cases pe <;> (exact absurd h Bool.false_ne_true)
theorem evalEs_ok : ∀ (es : List E) {C : Ctx} {n : Nat} {X : Cx} {W : XK} {pes : List Expr}, Good L C n W X → chkEs L.nm X.N X.env.scope es pes = true → PA X pes (rdA L X.K W (evalEs C es))
  | [], C, n, X, W, [], g, h => L2.pa_nil.imp fun σ H Q ⟨env, hh, r, s, p⟩ => by
    show Q [] H
    exact p [] H r (List.prefix_refl r) (Keep.refl H) s (by unfold RelDs; rfl)
  | e :: es, C, n, X, W, pe :: pes, g, h => by
    unfold chkEs at h
    obtain ⟨h1, h2⟩ := Bool.and_eq_true_iff.mp h
    refine (L2.pa_cons (evalE_ok e g h1).v (evalEs_ok es g h2) (star_of h1 _ _)).imp fun σ H Q ⟨env, hh, r, s, p⟩ => ?_
    refine ⟨env, hh, r, s, (Post.bind (R := RV L X.K) p).mono fun x H1 ⟨dx, h1, r1, a1, p1⟩ => ?_⟩
    refine ⟨env, h1, r1, a1.s, (Post.bind (R := RVs L X.K) p1).mono fun xs H2 ⟨ds, h2, r2, a2, p2⟩ => ?_⟩
    exact p2 (x :: xs) H2 r2 (List.prefix_refl r2) (Keep.refl H2) a2.s (.cons (a1.rel.mono a2.k a2.pr) a2.rel)
  | [], C, n, X, W, _ :: _, g, h => by unfold chkEs at h; cases h
  | _ :: _, C, n, X, W, [], g, h => by unfold chkEs at h; cases h
end
end Y
set_option Elab.async false
set_option linter.all false
set_option maxRecDepth 100000
set_option maxHeartbeats 4000000
namespace Y
open PySem PySem.Spec PyProof.Rows
open L2 (V Hp upd upd_same upd_ne ne_of ne_of_none RelV Vals SqL SqT Rd Cx Inv PE PT PTs PW PS PSs PA PG PGs PI TE TT TS TA TG TGs TI VK XK Ends EP FpOk Turn PIE)
section
variable (L : Lk) (K : PySem.W.Frag)
def PostS (D : Ends) (W : XK) (r : List Addr) (H : Hp) : SRes → Prop
  | .nx env' h' => ∀ σ' H' r', r <+: r' → Keep H H' → SR L K env' h' r' σ' H' → D.nx σ' H'
  | .ret d h' => ∀ v H' r', r <+: r' → Keep H H' → HR L K r' h' H' → RelD L K H' r' d v → D.rt v H'
  | .brk env' h' => ∀ σ' H' r', r <+: r' → Keep H H' → SR L K env' h' r' σ' H' → D.bk σ' H'
  | .cnt env' h' => ∀ σ' H' r', r <+: r' → Keep H H' → SR L K env' h' r' σ' H' → D.ct σ' H'
  | .exc c ds h' => ∀ x H' r', r <+: r' → Keep H H' → HR L K r' h' H' → XRel L K c ds r' H' x → W (.ref (L.ca c)) (some x) H'
  | .err => False
def rdS (W : XK) (m : Env → Heap → SRes) : TS := fun D σ H => ∃ env h r, SR L K env h r σ H ∧ PostS L K D W r H (m env h)
end
section
variable {L : Lk} {C : Ctx} {n : Nat} {W : XK} {X : Cx} {H : Hp} {r : List Addr} {h : Heap} {env : Env} {σ : Sg} {D : Ends} {pos p0 : Pos} {pe : Expr}
theorem PostS.later {x : SRes} {H1 : Hp} {r1 : List Addr} {K : PySem.W.Frag} (p : PostS L K D W r H x) (pr : r <+: r1) (k : Keep H H1) : PostS L K D W r1 H1 x := by
  cases x with
  | nx e h' => exact fun a b c d f g => p a b c (pr.trans d) (k.trans f) g
  | ret e h' => exact fun a b c d f g => p a b c (pr.trans d) (k.trans f) g
  | brk e h' => exact fun a b c d f g => p a b c (pr.trans d) (k.trans f) g
  | cnt e h' => exact fun a b c d f g => p a b c (pr.trans d) (k.trans f) g
  | exc e ds h' => exact fun a b c d f g => p a b c (pr.trans d) (k.trans f) g
  | err => exact p
theorem PostS.of {K : PySem.W.Frag} {x : Res Y.D} {f : Y.D → Heap → SRes} (p : PostS L K D W r H (ofRes x f)) : Post L K (RV L K) W env σ r H (fun v H1 => ∃ d h1 r1, Aft L K (RV L K) env σ r H v H1 d h1 r1 ∧ PostS L K D W r1 H1 (f d h1)) x := by
  cases x with
  | ok d h' => exact fun v H' r' a b c e => ⟨d, h', r', ⟨a, b, c, e⟩, p.later a b⟩
  | exc c ds h' => exact p
  | err => exact p
theorem PostS.nxH {K : PySem.W.Frag} (p : PostS L K D W r H (.nx env h)) (s : SR L K env h r σ H) : D.nx σ H := p σ H r (List.prefix_refl r) (Keep.refl H) s
theorem seqY {a b : Env → Heap → SRes} {st : Stmt} {rest : List Stmt} (ha : PS X st (rdS L X.K W a)) (hb : PSs X rest (rdS L X.K W b)) : PSs X (st :: rest) (rdS L X.K W (seqS a b)) :=
  (L2.pss_cons ha hb).imp fun D σ H ⟨env, h, r, s, p⟩ => ⟨env, h, r, s, by
    unfold seqS at p
    cases e : a env h with
    | nx env' h' => rw [e] at p; exact fun σ' H' r' pr k s' => ⟨env', h', r', s', PostS.later p pr k⟩
    | ret d h' => rw [e] at p; exact p
    | brk e' h' => rw [e] at p; exact p
    | cnt e' h' => rw [e] at p; exact p
    | exc c ds h' => rw [e] at p; exact p
    | err => rw [e] at p; exact p⟩
theorem nilY : PSs X [] (rdS L X.K W fun env h => .nx env h) := L2.pss_nil.imp fun D σ H ⟨env, h, r, s, p⟩ => p.nxH s
theorem passY : PS X (.Pass pos) (rdS L X.K W fun env h => .nx env h) := L2.ps_pass.imp fun D σ H ⟨env, h, r, s, p⟩ => p.nxH s
theorem brkY : PS X (.Break pos) (rdS L X.K W fun env h => .brk env h) := L2.ps_break.imp fun D σ H ⟨env, h, r, s, p⟩ => p σ H r (List.prefix_refl r) (Keep.refl H) s
theorem cntY : PS X (.Continue pos) (rdS L X.K W fun env h => .cnt env h) := L2.ps_continue.imp fun D σ H ⟨env, h, r, s, p⟩ => p σ H r (List.prefix_refl r) (Keep.refl H) s
theorem exprY {m : MV} (he : PE X pe (rd L X.K W m)) (hs : swapsWith pe none pos.line X.env = pure false) : PS X (.Expr pe pos) (rdS L X.K W fun env h => ofRes (m env h) fun _ h => .nx env h) :=
  (L2.ps_expr he hs).imp fun D σ H ⟨env, h, r, s, p⟩ => ⟨env, h, r, s, p.of.mono fun v H1 ⟨d, h1, r1, a1, p1⟩ => p1.nxH a1.s⟩
theorem retY {m : MV} (he : PE X pe (rd L X.K W m)) : PS X (.Return (some pe) pos) (rdS L X.K W fun env h => ofRes (m env h) fun d h => .ret d h) :=
  (L2.ps_ret he).imp fun D σ H ⟨env, h, r, s, p⟩ => ⟨env, h, r, s, (p.of (env := env) (σ := σ)).mono fun v H1 ⟨d, h1, r1, a1, p1⟩ => p1 v H1 r1 (List.prefix_refl r1) (Keep.refl H1) a1.s.hr a1.rel⟩
theorem retnY : PS X (.Return none pos) (rdS L X.K W fun _ h => .ret .non h) :=
  L2.ps_retN.imp fun D σ H ⟨env, h, r, s, p⟩ => p .non H r (List.prefix_refl r) (Keep.refl H) s.hr mk_non
theorem iteY {t : MT} {a b : Env → Heap → SRes} {pt : Expr} {pa pb : List Stmt} (ht : PT X pt (rdT L X.K W t)) (ha : PSs X pa (rdS L X.K W a)) (hb : PSs X pb (rdS L X.K W b)) : PS X (.If pt pa pb pos) (rdS L X.K W (iteS t a b)) :=
  (L2.ps_if ht ha hb).imp fun D σ H ⟨env, h, r, s, p⟩ => ⟨env, h, r, s, by
    unfold iteS at p
    cases e : t env h with
    | ok c h' =>
      rw [e] at p
      intro c' H' r' pr k s' g
      cases g
      cases c with
      | true => exact ⟨env, h', r', s', PostS.later p pr k⟩
      | false => exact ⟨env, h', r', s', PostS.later p pr k⟩
    | exc c ds h' => rw [e] at p; exact p
    | err => rw [e] at p; exact p⟩
theorem setY {m : MV} {i : Nat} {x : Str} (hN : X.N.Nodup) (hi : X.N[i]? = some x) (hx : L2.Loc X.env.scope x) (hf : X.fn x = true ∨ X.env.scope.names.lookup x = some .local) (he : PE X pe (rd L X.K W m)) (hs : swapsWith pe (some (.Name x p0)) pos.line X.env = pure false) :
    PS X (.Assign [.Name x p0] pe pos) (rdS L X.K W fun env h => ofRes (m env h) fun d h => .nx (env.put i d) h) :=
  (L2.ps_set hN hi hx he hs hf).imp fun D σ H ⟨env, h, r, s, p⟩ => ⟨env, h, r, s, (p.of (env := env) (σ := σ)).mono fun v H1 ⟨d, h1, r1, a1, p1⟩ => p1.nxH (a1.s.slot a1.rel)⟩
theorem asgY {m : MV} {t : Tg} {tg : Expr} (hc : X.calm = true) (hN : X.N.Nodup) {st : Str → Bool} (hst : ∀ x, st x = true → L2.Loc X.env.scope x ∧ (X.fn x = true ∨ X.env.scope.names.lookup x = some .local)) (ht : chkT X.N st t tg = true) (he : PE X pe (rd L X.K W m))
    (hs : swapsWithSole [tg] pe pos.line X.env = pure false) (hw : swappedStores [tg] pe X.env = pure none) (h1 : (assignEach [tg] X.env).map (·.2) = [PySem.assign tg X.env]) :
    PS X (.Assign [tg] pe pos) (rdS L X.K W fun env h => ofRes (m env h) fun d h => (match assign t d h env with | some env' => .nx env' h | none => .err)) :=
  (L2.ps_asg he (pgY hc hN hst t tg ht) hs hw h1).imp fun D σ H ⟨env, h, r, s, p⟩ => ⟨env, h, r, s, (p.of (env := env) (σ := σ)).mono fun v H1 ⟨d, h1, r1, a1, p1⟩ => by
    cases ea : assign t d h1 env with
    | none => rw [ea] at p1; exact p1.elim
    | some env' => rw [ea] at p1; exact gY_ok t ea a1.s a1.rel fun σ2 s2 _ => p1.nxH s2⟩
theorem whlY {t : MT} {b : Env → Heap → SRes} {pt : Expr} {pb : List Stmt} {fuel : Nat} (hp : PassesOwn (model X.prog X.w) X.A X.env X.xe) (ht : PT X pt (rdT L X.K W t)) (hb : PSs X pb (rdS L X.K W b)) : PS X (.While pt pb [] pos) (rdS L X.K W (loopW t b fuel)) :=
  (L2.ps_while hp ht hb).imp fun D σ H ⟨env, h, r, s, p⟩ => by
    refine ⟨fun m σ H => ∃ env h r, SR L X.K env h r σ H ∧ PostS L X.K D W r H (loopW t b m env h), ⟨fuel, env, h, r, s, p⟩, ?_⟩
    clear s p env h r
    rintro m σ H ⟨env, h, r, s, p⟩
    cases m with
    | zero => exact p.elim
    | succ f =>
      unfold loopW at p
      refine ⟨env, h, r, s, ?_⟩
      cases e : t env h with
      | exc c ds h' => rw [e] at p; exact p
      | err => rw [e] at p; exact p
      | ok c h' =>
        rw [e] at p
        intro c' H' r' pr k s' g
        cases g
        cases c with
        | false => exact PostS.nxH (PostS.later p pr k) s'
        | true =>
          refine ⟨fun σ' H' => ∃ env h r, SR L X.K env h r σ' H' ∧ PostS L X.K D W r H' (loopW t b f env h), fun σ' H' z => ⟨f, Nat.lt_succ_self f, z⟩, env, h', r', s', ?_⟩
          dsimp only at p
          have p := PostS.later (r1 := r') (H1 := H') p pr k
          cases eb : b env h' with
          | nx e2 h2 => rw [eb] at p; exact fun σ2 H2 r2 a b c => ⟨e2, h2, r2, c, PostS.later p a b⟩
          | cnt e2 h2 => rw [eb] at p; exact fun σ2 H2 r2 a b c => ⟨e2, h2, r2, c, PostS.later p a b⟩
          | brk e2 h2 => rw [eb] at p; exact p
          | ret d h2 => rw [eb] at p; exact p
          | exc c ds h2 => rw [eb] at p; exact p
          | err => rw [eb] at p; exact p
theorem forY {mi : MI} {t : Tg} {b : Env → Heap → SRes} {tg iter : Expr} {pb : List Stmt} {fuel : Nat} (hp : PassesOwn (model X.prog X.w) X.A X.env X.xe) (hc : X.calm = true) (hN : X.N.Nodup) {st : Str → Bool} (hst : ∀ x, st x = true → L2.Loc X.env.scope x ∧ (X.fn x = true ∨ X.env.scope.names.lookup x = some .local)) (ht : chkT X.N st t tg = true)
    (hi : PI X tg iter (rdI L X.K W mi)) (hb : PSs X pb (rdS L X.K W b)) (hs : ∀ x, foldedSetIterable iter X.env x = pure x) : PS X (.For tg iter pb [] pos) (rdS L X.K W (loopF t mi b fuel)) :=
  (L2.ps_for hp hc hi (pgY hc hN hst t tg ht) hb hs).imp fun D σ H ⟨env, h, r, s, p⟩ => by
    refine ⟨env, h, r, s, ?_⟩
    unfold loopF at p
    cases ei : mi env h with
    | exc c ds h' => rw [ei] at p; exact p
    | err => rw [ei] at p; exact p
    | ok w h1 =>
    rw [ei] at p
    intro J H1 r1 pr1 k1 s1 ir
    have p := PostS.later (r1 := r1) (H1 := H1) p pr1 k1
    refine ⟨fun i m σ H => ∃ env h r, r1 <+: r ∧ Keep H1 H ∧ SR L X.K env h r σ H ∧ PostS L X.K D W r H (finT (turns w (fun s : Env × Heap => s.2) (stepF t b) m i (env, h))), ⟨fuel, env, h1, r1, List.prefix_refl r1, Keep.refl H1, s1, p⟩, ?_⟩
    rintro i m σ H ⟨env, h, r, pr, k, s, p⟩
    cases m with
    | zero => exact p.elim
    | succ f =>
      have ir' := ir i env h r σ H pr k s
      unfold turns at p
      cases en : w.next i h with
      | err => rw [en] at p; exact p.elim
      | stop =>
        rw [en] at p ir'
        exact .inl ⟨ir', PostS.nxH p s⟩
      | item d =>
        rw [en] at p ir'
        refine .inr ⟨ir'.1, fun σ' H' => ∃ env h r, r1 <+: r ∧ Keep H1 H' ∧ SR L X.K env h r σ' H' ∧ PostS L X.K D W r H' (finT (turns w (fun s : Env × Heap => s.2) (stepF t b) f (i + 1) (env, h))), fun σ' H' z => ⟨f, Nat.lt_succ_self f, z⟩, fun x H2 hy => ?_⟩
        obtain ⟨k2, s2, gx⟩ := ir'.2 x H2 hy
        have p := PostS.later (r1 := r) (H1 := H2) p (List.prefix_refl r) k2
        dsimp only at p
        cases ea : assign t d h env with
        | none => unfold stepF at p; rw [show assign t d (env, h).2 (env, h).1 = none from ea] at p; exact p.elim
        | some env' =>
          refine gY_ok t ea s2 gx fun σ3 s3 _ => ⟨env', h, r, s3, ?_⟩
          unfold stepF at p
          rw [show assign t d (env, h).2 (env, h).1 = some env' from ea] at p
          dsimp only at p
          cases eb : b env' h with
          | nx e2 h2 => rw [eb] at p; exact fun σ4 H4 r4 a b c => ⟨e2, h2, r4, pr.trans a, (k.trans k2).trans b, c, PostS.later p a b⟩
          | cnt e2 h2 => rw [eb] at p; exact fun σ4 H4 r4 a b c => ⟨e2, h2, r4, pr.trans a, (k.trans k2).trans b, c, PostS.later p a b⟩
          | brk e2 h2 => rw [eb] at p; exact p
          | ret d h2 => rw [eb] at p; exact p
          | exc c ds h2 => rw [eb] at p; exact p
          | err => rw [eb] at p; exact p.elim
end
end Y
set_option Elab.async false
set_option linter.all false
set_option maxRecDepth 100000
set_option maxHeartbeats 4000000
namespace Y
open PySem PySem.Spec PyProof.Rows
open L2 (V Hp upd upd_same upd_ne ne_of ne_of_none RelV Vals SqL SqT Rd Cx Inv PE PT PTs PW PS PSs PA PG PGs PI TE TT TS TA TG TGs TI VK XK WX Ends EP Takes Room)
section
variable {L : Lk} {C : Ctx} {n : Nat} {W : XK} {X : Cx} {H : Hp} {r : List Addr} {h : Heap} {env : Env} {σ : Sg}
theorem kept_a {a C dx : Addr} {f : Str} {y : V} : kept H a C dx f y a = some (L2.exo a C (some dx)) := upd_same
theorem kept_dx {a C dx : Addr} {f : Str} {y : V} (h : dx ≠ a) : kept H a C dx f y dx = some (L2.exd dx [(f, y)]) := by unfold kept; rw [upd_ne h, upd_same]
theorem kept_end {a C dx : Addr} {f : Str} {y : V} {u : L2.HO} (ha : H a = none) : upd (L2.del (kept (upd H a u) a C dx f y) a) dx (.xd [(f, y)]) = upd H dx (.xd [(f, y)]) := by
  funext b
  by_cases hd : b = dx
  · rw [hd, upd_same, upd_same]
  rw [upd_ne hd, upd_ne hd]
  unfold L2.del kept
  by_cases hb : b = a
  · rw [if_pos hb, hb, ha]
  · rw [if_neg hb, upd_ne hb, upd_ne hd, upd_ne hb]
theorem kept_endT {a C dx p : Addr} {f : Str} {y : V} {u t : L2.HO} (ha : H a = none) (hp : p ≠ a) : upd (L2.del (kept (upd (upd H a u) p t) a C dx f y) a) dx (.xd [(f, y)]) = upd (upd H p t) dx (.xd [(f, y)]) := by
  have e : upd (upd H a u) p t = upd (upd H p t) a u := by
    funext b
    by_cases h1 : b = p
    · rw [h1, upd_same, upd_ne hp, upd_same]
    · rw [upd_ne h1]
      by_cases h2 : b = a
      · rw [h2, upd_same, upd_same]
      · rw [upd_ne h2, upd_ne h2, upd_ne h1]
  rw [e, kept_end (by rw [upd_ne (Ne.symm hp)]; exact ha)]
theorem seq_new {a : Addr} {o : L2.HO} {q : Addr} {us : List V} (ha : H a = none) : (SqL X.K H q us → SqL X.K (upd H a o) q us) ∧ (SqT X.K H q us → SqT X.K (upd H a o) q us) := by
  constructor
  · rintro ((z | ⟨ob, z⟩) | z)
    · exact .inl (.inl (by rw [upd_ne (ne_of_none z ha)]; exact z))
    · exact .inl (.inr ⟨ob, by rw [upd_ne (ne_of_none z ha)]; exact z⟩)
    · exact .inr z
  · rintro ((z | ⟨ob, z⟩) | z)
    · exact .inl (.inl (by rw [upd_ne (ne_of_none z ha)]; exact z))
    · exact .inl (.inr ⟨ob, by rw [upd_ne (ne_of_none z ha)]; exact z⟩)
    · exact .inr z
theorem raiseY (g : Good L C n W X) {c : Nat} {x : Str} {m : MV} {pe : Expr} {p pos pos2 : Pos} (hg : glB X.env.scope x = true) (hk : L.nm.xl[c]? = some x) (hz : x ≠ Str.empty) (he : PE X pe (rd L X.K W m)) (hs : starEach [pe] X.env = (false, eval pe X.env) :: starEach [] X.env) :
    PS X (.Raise (some (.Call (.Name x p) [pe] [] pos)) none pos2) (rdS L X.K W fun env h => ofRes (m env h) fun d h => raiseF C.P c d h) := by
  obtain ⟨g1, g2, g3⟩ := gl_of hg
  obtain ⟨hm, T, hno, fI, fd, ps, iC, tI, hb, F⟩ := g.link.xlG c x hk hz
  have hr : Room (1 + 1) X.A := g.room.mono (by unfold lvl; omega)
  refine (L2.ps_raise g.calm g.tk (pmkE T iC tI F hr hb (L2.passes_call (W := fun _ _ _ _ => False) (g.tk.imp fun _ _ _ _ z => False.elim z) fun _ _ _ _ z => z) g1 hm he g2 hs)).imp fun D σ H ⟨env, h, r, s, q⟩ => ⟨env, h, r, s, (q.of (env := env) (σ := σ)).mono fun v H1 ⟨d, h1, r1, a1, p1⟩ => ?_⟩
  refine ⟨by show 1 ≤ 1000; decide, fun a ha => ?_⟩
  unfold raiseF at p1
  have fin : ∀ {H2 : Hp} {d' : Y.D} {v' : V} {dx : Addr}, Keep H1 H2 → HR L X.K r1 h1 H2 → RelD L X.K H2 r1 d' v' → PostS L X.K D W r1 H1 (.exc c [d'] h1) → H2 dx = none → W (.ref (L.ca c)) (some dx) (upd H2 dx (.xd [(L.xn c, v')])) := fun {H2 d' v' dx} kp hr' gv q n =>
    q dx _ r1 (List.prefix_refl r1) (kp.trans (Keep.new n)) (hr'.new n) ⟨d', v', rfl, upd_same, gv.mono (Keep.new n) (List.prefix_refl r1)⟩
  by_cases ht : C.P.xtup c = true
  · rw [if_pos ht] at p1 ⊢
    cases ei : items? h1 d with
    | none => rw [ei] at p1; exact p1.elim
    | some zs =>
      rw [ei] at p1
      obtain ⟨q', us, rfl, sq, gs⟩ := bi_seq a1.s a1.rel ei
      refine ⟨a, L.ca c, q', us, rfl, T, hno, upd_same, ?_⟩
      rcases sq with sq | sq
      · refine .inl ⟨(seq_new ha).1 sq, fun l hl dx n ne => ⟨rfl, dx, _, kept_a, kept_dx ne, ?_, ?_⟩⟩
        · have hla : l ≠ a := fun z => by rw [z, upd_same] at hl; cases hl
          have ndl : dx ≠ l := fun z => by rw [z, upd_same] at n; cases n
          rw [upd_ne ndl, upd_ne ne] at n
          exact n
        · have hla : l ≠ a := fun z => by rw [z, upd_same] at hl; cases hl
          have ndl : dx ≠ l := fun z => by rw [z, upd_same] at n; cases n
          have hl' : H1 l = none := by rw [upd_ne hla] at hl; exact hl
          rw [kept_endT ha hla]
          obtain ⟨s', g'⟩ := new_tup a1.s gs hl'
          refine fin (Keep.new hl') s'.hr g' p1 ?_
          rw [upd_ne ndl, upd_ne ne] at n
          rw [upd_ne ndl]; exact n
      · refine .inr ⟨(seq_new ha).2 sq, fun dx n ne => ⟨rfl, dx, _, kept_a, kept_dx ne, ?_, ?_⟩⟩
        · rw [upd_ne ne] at n; exact n
        · rw [kept_end ha]
          refine fin (Keep.refl H1) a1.s.hr ?_ p1 (by rw [upd_ne ne] at n; exact n)
          unfold RelD
          exact ⟨q', us, rfl, sq, gs⟩
  · rw [if_neg ht] at p1 ⊢
    refine ⟨a, L.ca c, v, rfl, T, hno, upd_same, fun dx n ne => ⟨rfl, dx, _, kept_a, kept_dx ne, ?_, ?_⟩⟩
    · rw [upd_ne ne] at n; exact n
    · rw [kept_end ha]
      exact fin (Keep.refl H1) a1.s.hr a1.rel p1 (by rw [upd_ne ne] at n; exact n)
end
end Y
set_option Elab.async false
set_option linter.all false
set_option maxRecDepth 100000
set_option maxHeartbeats 4000000
namespace Y
open PySem PySem.Spec PyProof.Rows
open L2 (V Hp upd upd_same upd_ne ne_of ne_of_none RelV Vals SqL SqT Rd Cx Inv PE PT PTs PW PS PSs PA PG PGs PI TE TT TS TA TG TGs TI VK XK Ends EP FpOk Turn PIE)
section
variable {L : Lk} {C : Ctx} {n : Nat} {W : XK} {X : Cx} {H : Hp} {r : List Addr} {h : Heap} {env : Env} {σ : Sg} {D : Ends} {pos p0 : Pos} {pe po pi : Expr} {x y : V} {dx dy : Y.D} {Q : VK}
def wSet (X : Cx) : L2.TSet := fun o i v H Q => ∀ (pins : List (Addr × Obj)) (s : Shared) (σ : Sg) (ov iv u : Value), Inv X pins σ H s → RelV o ov → RelV i iv → RelV v u → wpAny (model X.prog X.w) X.A (PySem.setItem ov iv u) (fun _ s' => ∃ H', Inv X pins σ H' s' ∧ Q H') X.xe s
theorem set_w {X : Cx} : L2.PSet X (wSet X) := fun pins s σ H o i v ov iv u Q I r1 r2 r3 h => h pins s σ ov iv u I r1 r2 r3
theorem wSet.of {X : Cx} {t : L2.TSet} (h : L2.PSet X t) {o i v : V} {H : Hp} {Q : Hp → Prop} (q : t o i v H Q) : wSet X o i v H Q := fun pins s σ ov iv u I r1 r2 r3 => h pins s σ H o i v ov iv u Q I r1 r2 r3 q
/-- an object of mine is written -/
theorem set_ok {a : Nat} {o o' : HV} {p : Addr} {ho : L2.HO} {h' : Heap} (s : SR L X.K env h r σ H) (ea : h[a]? = some o) (ep : r[a]? = some p) (g : ∀ H', Keep H H' → H' p = some ho → ORel L X.K H' r o' p) (e : setO C.base h a o' = some h') :
    Keep H (upd H p ho) ∧ SR L X.K env h' r σ (upd H p ho) := by
  unfold setO at e
  split at e
  · cases e
    obtain ⟨u, eu, mu, mt⟩ := (s.hr.at_ a _ p ea ep).muta
    have kp : Keep H (upd H p ho) := Keep.put eu mu
    exact ⟨kp, s.put ea ep (g _ kp upd_same)⟩
  · cases e
theorem setItem_ok {o i v : V} {do' di dv : Y.D} {Q : Hp → Prop} (hu : X.A.units + 1 < cLine) (s : SR L X.K env h r σ H) (go : RelD L X.K H r do' o) (gi : RelD L X.K H r di i) (gv : RelD L X.K H r dv v) {h' : Heap} (e : Y.setItem C.base do' di dv h = some h') (q : ∀ H', Keep H H' → SR L X.K env h' r σ H' → Q H') : wSet X o i v H Q := by
  unfold Y.setItem at e
  cases do' <;> first | (cases e; done) | skip
  rename_i a
  unfold Heap.at at e
  dsimp only at e
  split at e
  · rename_i xs k ea
    cases rel_int gi
    split at e
    · rename_i j ej
      obtain ⟨p, us, rfl, ep, hp, gs⟩ := rel_lst s go ea
      obtain ⟨kp, s'⟩ := set_ok (C := C) s ea ep (o' := HV.lst (xs.set j dv)) (ho := .lst (us.set j v)) (fun H' kp' e' => ⟨_, e', (RelDs.set gv j gs).mono kp' (List.prefix_refl r)⟩) e
      exact wSet.of L2.set_list ⟨p, us, _, j, rfl, rfl, hp, by rw [← gs.length, ← ixN_eq]; exact ej, q _ kp s'⟩
    · cases e
  · rename_i kvs ea
    split at e
    · rename_i hk
      obtain ⟨hk1, hk2⟩ := Bool.and_eq_true_iff.mp hk
      obtain ⟨j, ej⟩ := keyJ_of hk1
      obtain ⟨p, ks, rfl, ep, hp, gk⟩ := rel_dic s go ea
      obtain ⟨kp, s'⟩ := set_ok (C := C) s ea ep (o' := HV.dic (putD _ dv kvs)) (ho := .dK (L2.putK ks j v)) (fun H' kp' e' => ⟨_, e', (relK_put ej gv gk).mono kp' (List.prefix_refl r)⟩) e
      have ei := keyV gi ej
      intro pins s1 σ1 ov iv u I r1 r2 r3
      obtain rfl : ov = Value.ref p := r1
      subst ei
      exact L2.d_setItem hu I (L2.DPut.k hp (by rw [relK_len gk, szl]; exact of_decide_eq_true hk2)) r2 r3 fun s2 I2 => ⟨_, I2, q _ kp s'⟩
    · cases e
  · cases e
theorem setiY {mo mi me : MV} (hu : X.A.units + 1 < cLine) (ho : PE X po (rd L X.K W mo)) (hi : PE X pi (rd L X.K W mi)) (he : PE X pe (rd L X.K W me)) (hs : swapsWithSole [.Subscript po pi p0] pe pos.line X.env = pure false)
    (hw : swappedStores [.Subscript po pi p0] pe X.env = pure none) (ha : ∀ v, PySem.assign (.Subscript po pi p0) X.env v = (do
      let ov ← holding [v] (eval po X.env)
      let iv ← holding [v, ov] (eval pi X.env)
      standAt p0
      holding [v, ov, iv] (PySem.setItem ov iv v)
      release [v, ov, iv] [])) :
    PS X (.Assign [.Subscript po pi p0] pe pos) (rdS L X.K W fun env h => ofRes (me env h) fun d h => ofRes (mo env h) fun x h => ofRes (mi env h) fun k h => nxO env (Y.setItem C.base x k d h)) :=
  (L2.ps_asg he (L2.pg_sub ho hi set_w ha) hs hw rfl).imp fun D σ H ⟨env, h, r, s, p⟩ => ⟨env, h, r, s, (p.of (env := env) (σ := σ)).mono fun v H1 ⟨d, h1, r1, a1, p1⟩ =>
    ⟨env, h1, r1, a1.s, (p1.of (env := env) (σ := σ)).mono fun o H2 ⟨x, h2, r2, a2, p2⟩ =>
    ⟨env, h2, r2, a2.s, (p2.of (env := env) (σ := σ)).mono fun i H3 ⟨k, h3, r3, a3, p3⟩ => by
      cases e : Y.setItem C.base x k d h3 with
      | none => rw [e] at p3; exact p3.elim
      | some h4 =>
        rw [e] at p3
        exact setItem_ok (C := C) hu a3.s (a2.rel.mono a3.k a3.pr) a3.rel ((a1.rel.mono a2.k a2.pr).mono a3.k a3.pr) e fun H' kp s' => p3 σ H' r3 (List.prefix_refl r3) kp s'⟩⟩⟩
theorem relF_put (hl : Link L C.P X.prog X.w X.K X.mg X.base) {f : Nat} {z : Str} (hf : L.nm.an[f]? = some z) {d : Y.D} {v : V} (gd : RelD L X.K H r d v) : ∀ {fs : List (Nat × Y.D)} {ks : List (Str × V)}, RelF (L := L) (K := X.K) H r fs ks → RelF (L := L) (K := X.K) H r (setF f d fs) (L2.putF z v ks) ∧ fs.length = ks.length := by
  intro fs
  induction fs with
  | nil =>
    intro ks g
    unfold RelF at g
    subst g
    refine ⟨?_, rfl⟩
    show RelF H r [(f, d)] [(z, v)]
    unfold RelF
    refine ⟨v, [], ?_, gd, by unfold RelF; rfl⟩
    rw [List.getD_eq_getElem?_getD, hf]; rfl
  | cons q fs ih =>
    intro ks g
    obtain ⟨b, d0⟩ := q
    unfold RelF at g
    obtain ⟨w, t, rfl, g1, g2⟩ := g
    obtain ⟨i1, i2⟩ := ih g2
    refine ⟨?_, by rw [List.length_cons, List.length_cons, i2]⟩
    unfold setF L2.putF
    by_cases hb : b = f
    · subst hb
      have e : L.nm.an.getD b Str.empty = z := by rw [List.getD_eq_getElem?_getD, hf]; rfl
      rw [if_pos rfl, if_pos e]
      unfold RelF
      exact ⟨v, t, rfl, gd, g2⟩
    · rw [if_neg hb, if_neg (fun e => hb (hl.anI f b z hf e))]
      unfold RelF
      exact ⟨w, _, rfl, g1, i1⟩
theorem setAttr_ok (hl : Link L C.P X.prog X.w X.K X.mg X.base) {f : Nat} {z : Str} (hf : L.nm.an[f]? = some z) {o v : V} {do' dv : Y.D} {h' : Heap} {Q : Hp → Prop} (s : SR L X.K env h r σ H) (go : RelD L X.K H r do' o) (gv : RelD L X.K H r dv v) (e : Y.setAttr C.base do' f dv h = some h') (q : ∀ H', Keep H H' → SR L X.K env h' r σ H' → Q H') :
    ∃ a Ci dx fs, o = .ref a ∧ H a = some (.ins Ci dx fs) ∧ L2.Cls X.K Ci ∧ L2.NoAttr X.K Ci z ∧ fs.length < 1000 ∧ Q (upd H a (.ins Ci dx (L2.putF z v fs))) := by
  unfold Y.setAttr at e
  cases do' <;> first | (cases e; done) | skip
  rename_i a
  unfold Heap.at at e
  dsimp only at e
  split at e
  · rename_i c fs ea
    split at e
    · rename_i hlen
      obtain ⟨p, dd, ks, rfl, ep, hw, hp, gf⟩ := ins_of s go ea
      obtain ⟨g1, g2⟩ := relF_put hl hf gv gf
      obtain ⟨kp, s'⟩ := set_ok (C := C) s ea ep (o' := HV.ins c (setF f dv fs)) (ho := .ins (L.ca c) dd (L2.putF z v ks)) (fun H' kp' e' => ⟨hw, dd, _, e', g1.mono kp' (List.prefix_refl r)⟩) e
      exact ⟨p, _, dd, ks, rfl, hp, hl.clC _ hw, hl.fdK _ f z hw hf, by omega, q _ kp s'⟩
    · cases e
  · cases e
theorem setaY (g : Good L C n W X) {f : Nat} {z : Str} (hf : L.nm.an[f]? = some z) {mo me : MV} (ho : PE X po (rd L X.K W mo)) (he : PE X pe (rd L X.K W me)) (hs : swapsWith pe (some (.Attribute po z p0)) pos.line X.env = pure false) :
    PS X (.Assign [.Attribute po z p0] pe pos) (rdS L X.K W fun env h => ofRes (me env h) fun d h => ofRes (mo env h) fun x h => nxO env (Y.setAttr C.base x f d h)) :=
  (L2.ps_fld ho he hs).imp fun D σ H ⟨env, h, r, s, p⟩ => ⟨env, h, r, s, (p.of (env := env) (σ := σ)).mono fun v H1 ⟨d, h1, r1, a1, p1⟩ =>
    ⟨env, h1, r1, a1.s, (p1.of (env := env) (σ := σ)).mono fun o H2 ⟨x, h2, r2, a2, p2⟩ => by
      cases e : Y.setAttr C.base x f d h2 with
      | none => rw [e] at p2; exact p2.elim
      | some h3 =>
        rw [e] at p2
        exact setAttr_ok (C := C) g.link hf a2.s a2.rel (a1.rel.mono a2.k a2.pr) e fun H' kp s' => p2 σ H' r2 (List.prefix_refl r2) kp s'⟩⟩
def wIp (X : Cx) (op : Operator) : L2.TIp := fun x y H Q => ∀ (pins : List (Addr × Obj)) (s : Shared) (σ : Sg) (v u : Value), Inv X pins σ H s → RelV x v → RelV y u → wpAny (model X.prog X.w) X.A (inplaceOp op v u) (EP X pins σ Q) X.xe s
theorem ip_w {X : Cx} {op : Operator} : L2.PIp X op (wIp X op) := fun pins s σ H x y v u Q I r1 r2 h => h pins s σ v u I r1 r2
theorem wIp.of {X : Cx} {op : Operator} {t : L2.TIp} (h : L2.PIp X op t) {x y : V} {H : Hp} {Q : VK} (q : t x y H Q) : wIp X op x y H Q := fun pins s σ v u I r1 r2 => h pins s σ H x y v u Q I r1 r2 q
theorem augI_ok {op : Operator} {i j k : Int} (hop : op ≠ .Pow) (e : binI op i j = some k) (q : Q (.int k) H) : wIp X op (.int i) (.int j) H Q := by
  cases op with
  | Add => unfold binI at e; cases e; exact wIp.of L2.iop_add ⟨i, j, rfl, rfl, q⟩
  | Sub => unfold binI at e; cases e; exact wIp.of L2.iop_sub ⟨i, j, rfl, rfl, q⟩
  | Mult =>
    unfold binI at e
    dsimp only at e
    split at e
    · rename_i hs
      cases e
      refine wIp.of L2.iop_mul ⟨i, j, rfl, rfl, ?_, q⟩
      rcases Bool.or_eq_true_iff.mp hs with z | z
      · exact .inl (small_of z)
      · exact .inr (small_of z)
    · cases e
  | FloorDiv =>
    unfold binI at e
    dsimp only at e
    split at e
    · rename_i hs; cases e; exact wIp.of L2.iop_fdiv ⟨i, j, rfl, rfl, hs, q⟩
    · cases e
  | Mod =>
    unfold binI at e
    dsimp only at e
    split at e
    · rename_i hs; cases e; exact wIp.of L2.iop_mod ⟨i, j, rfl, rfl, hs, q⟩
    · cases e
  | Pow => exact absurd rfl hop
  | LShift =>
    unfold binI at e
    dsimp only at e
    split at e
    · rename_i hs; cases e; exact wIp.of L2.iop_shl ⟨i, j, rfl, rfl, ⟨hs.1, by omega, by omega⟩, q⟩
    · cases e
  | RShift =>
    unfold binI at e
    dsimp only at e
    split at e
    · rename_i hs; cases e; exact wIp.of L2.iop_shr ⟨i, j, rfl, rfl, hs.1, q⟩
    · cases e
  | BitOr => unfold binI at e; cases e; exact wIp.of L2.iop_or ⟨i, j, rfl, rfl, q⟩
  | BitXor => unfold binI at e; cases e; exact wIp.of L2.iop_xor ⟨i, j, rfl, rfl, q⟩
  | BitAnd => unfold binI at e; cases e; exact wIp.of L2.iop_and ⟨i, j, rfl, rfl, q⟩
  | _ => unfold binI at e; cases e
theorem augop_ok {op : Operator} (s : SR L X.K env h r σ H) (gx : RelD L X.K H r dx x) (gy : RelD L X.K H r dy y) (p : Post L X.K (RV L X.K) W env σ r H Q (augop op dx dy h)) : wIp X op x y H Q := by
  unfold augop at p
  split at p
  · rename_i i j
    cases rel_int gx
    cases rel_int gy
    have p : op ≠ .Pow ∧ Post L X.K (RV L X.K) W env σ r H Q (binop op (.int i) (.int j) h) := by
      cases op <;> first | exact ⟨by decide, p⟩ | exact p.elim
    obtain ⟨hop, p⟩ := p
    unfold binop at p
    dsimp only at p
    split at p
    · rename_i k e
      exact augI_ok hop e (p.here s mk_int)
    · exact p.elim
  · rename_i a b
    obtain ⟨rfl, ha⟩ := rel_str gx
    obtain ⟨rfl, hb⟩ := rel_str gy
    unfold binop at p
    dsimp only at p
    split at p
    · obtain ⟨hl, q⟩ := p.str s (ha.app hb)
      exact wIp.of L2.iop_add_str ⟨_, _, rfl, rfl, by rw [toS_len, toS_len, ← List.length_append]; exact hl, by rw [toS_app]; exact q⟩
    · exact p.elim
  · exact p.elim
theorem PostS.of' {x : Res Y.D} {f : Y.D → Heap → SRes} {K : PySem.W.Frag} (p : PostS L K D W r H (ofRes x f)) (hx : ∀ c ds h, x ≠ .exc c ds h) : Post L K (RV L K) W env σ r H (fun v H1 => ∃ d h1 r1, Aft L K (RV L K) env σ r H v H1 d h1 r1 ∧ PostS L K D W r1 H1 (f d h1)) x := p.of
theorem augY {op : Operator} {i : Nat} {z : Str} {me : MV} (hN : X.N.Nodup) (hi : X.N[i]? = some z) (hx : L2.Loc X.env.scope z) (hf : X.fn z = true ∨ X.env.scope.names.lookup z = some .local) (he : PE X pe (rd L X.K W me)) :
    PS X (.AugAssign (.Name z p0) op pe pos) (rdS L X.K W fun env h => (match env[i]? with
      | some (some x) => ofRes (me env h) fun y h => ofRes (augop op x y h) fun d h => .nx (env.put i d) h
      | _ => .err)) :=
  (L2.ps_aug hN hi hx he ip_w hf).imp fun D σ H ⟨env, h, r, s, p⟩ => by
    dsimp only at p
    split at p
    · rename_i d ed
      obtain ⟨v, e1, g1⟩ := s.er i d ed
      refine ⟨v, e1, env, h, r, s, (p.of (env := env) (σ := σ)).mono fun y H1 ⟨dy, h1, r1, a1, p1⟩ => ?_⟩
      exact augop_ok (W := W) a1.s (g1.mono a1.k a1.pr) a1.rel ((p1.of (env := env) (σ := σ)).mono fun z' H2 ⟨dz, h2, r2, a2, p2⟩ => p2.nxH (a2.s.slot a2.rel))
    · exact p.elim
theorem aug_int {op : Operator} {v : Y.D} {k : Int} {h : Heap} : augop op v (.int k) h = .err ∨ ∃ j, augop op v (.int k) h = .ok (.int j) h := by
  cases v <;> first | (exact .inl rfl) | skip
  rename_i i
  have e : augop op (.int i) (.int k) h = (match op with | .Pow => .err | _ => (match binI op i k with | some j => Res.ok (.int j) h | none => .err)) := by cases op <;> rfl
  rw [e]
  cases op <;> first | (exact .inl rfl) | (dsimp only; split <;> first | (exact .inr ⟨_, rfl⟩) | (exact .inl rfl))
theorem augaY (g : Good L C n W X) {op : Operator} {f : Nat} {z : Str} {k : Int} (hf : L.nm.an[f]? = some z) {mo me : MV} (ho : PE X po (rd L X.K W mo)) (he : PE X pe (rd L X.K W me)) (hme : ∀ env h, me env h = .ok (.int k) h) :
    PS X (.AugAssign (.Attribute po z p0) op pe pos) (rdS L X.K W fun env h => ofRes (mo env h) fun x h => (match x with
      | .ref a => (match h.at a with
        | some (.ins _ fs) => (match getF f fs with
          | some v => ofRes (me env h) fun y h => ofRes (augop op v y h) fun d h => nxO env (Y.setAttr C.base x f d h)
          | none => .err)
        | _ => .err)
      | _ => .err)) :=
  (L2.ps_fldaug (rd := wIp X op) ho he (fun pins s σ H x y u v Q I r1 r2 h => h pins s σ u v I r1 r2)).imp fun D σ H ⟨env, h, r, s, p⟩ => ⟨env, h, r, s, (p.of (env := env) (σ := σ)).mono fun x H1 ⟨dx, h1, r1, a1, p1⟩ => by
    cases dx <;> first | (exact p1.elim) | skip
    rename_i a
    dsimp only at p1
    split at p1
    · rename_i c fs ea
      split at p1
      · rename_i v ev
        obtain ⟨q, dd, ks, rfl, eq, hw, hq, gf⟩ := ins_of a1.s a1.rel ea
        obtain ⟨vv, h2, h3⟩ := look_fld g.link hf gf v ev
        rw [hme] at p1
        have p2 : PostS L X.K D W r1 H1 (ofRes (augop op v (.int k) h1) fun d h => nxO env (Y.setAttr C.base (.ref a) f d h)) := p1
        refine ⟨q, _, dd, ks, vv, rfl, hq, g.link.clC _ hw, g.link.fdK _ f z hw hf, h2, env, h1, r1, a1.s, ?_⟩
        rw [hme]
        intro y H2 r2 pr2 k2 s2 rl2
        have p3 := p2.later pr2 k2
        refine augop_ok (W := W) s2 (h3.mono k2 pr2) rl2 ?_
        rcases aug_int (op := op) (v := v) (k := k) (h := h1) with e | ⟨j, e⟩
        · rw [e] at p3
          exact p3.elim
        · rw [e] at p3 ⊢
          have p4 : PostS L X.K D W r2 H2 (nxO env (Y.setAttr C.base (.ref a) f (.int j) h1)) := p3
          intro w H3 r3 pr3 k3 s3 rl3
          have p5 := p4.later pr3 k3
          obtain ⟨q', dd', ks', eqq, eq', hw', hq', gf'⟩ := ins_of s3 ((a1.rel.mono k2 pr2).mono k3 pr3) ea
          cases eqq
          cases es : Y.setAttr C.base (.ref a) f (.int j) h1 with
          | none => rw [es] at p5; exact p5.elim
          | some h4 =>
            rw [es] at p5
            have es' := es
            unfold Y.setAttr at es'
            dsimp only at es'
            rw [ea] at es'
            dsimp only at es'
            split at es'
            · rename_i hlen
              obtain ⟨g1, g2⟩ := relF_put g.link hf rl3 gf'
              obtain ⟨kp, s'⟩ := set_ok (C := C) s3 ea eq' (o' := HV.ins c (setF f (.int j) fs)) (ho := .ins (L.ca c) dd' (L2.putF z w ks')) (fun H' kp' e' => ⟨hw, dd', _, e', g1.mono kp' (List.prefix_refl r3)⟩) es'
              exact ⟨dd', ks', hq', by omega, p5 σ _ r3 (List.prefix_refl r3) kp s'⟩
            · cases es'
      · exact p1.elim
    · exact p1.elim⟩
end
end Y
set_option Elab.async false
set_option linter.all false
set_option maxRecDepth 100000
set_option maxHeartbeats 8000000
namespace Y
open PySem PySem.Spec PyProof.Rows
open L2 (V Hp upd upd_same upd_ne ne_of ne_of_none RelV Vals SqL SqT Rd Cx Inv PE PT PTs PW PS PSs PA PG PGs PI TE TT TS TA TG TGs TI VK XK Ends EP FpOk Turn PIE)
def E.isLc : E → Bool
  | .lc _ _ _ _ _ => true
  | _ => false
def E.isTup : E → Bool
  | .tup _ => true
  | _ => false
def stB (sc : Scope) (x : Str) : Bool := decide (sc.names.lookup x = some .local) || decide (sc.names.lookup x = some .cell)
section
variable (nm : Nm) (N : List Str)
mutual
def chkS : Scope → S → Stmt → Bool
  | sc, .expr e, .Expr pe _ => chkE nm N sc e pe && !e.isLc
  | sc, .set i e, .Assign [.Name x _] pe _ => decide (N[i]? = some x) && stB sc x && chkE nm N sc e pe
  | sc, .asg (.tp ts) e, .Assign [.Tuple es kk p] pe _ => chkT N (stB sc) (.tp ts) (.Tuple es kk p) && chkE nm N sc e pe && !e.isLc && !e.isTup
  | sc, .seti o i e, .Assign [.Subscript po pi _] pe _ => chkE nm N sc o po && chkE nm N sc i pi && chkE nm N sc e pe && !e.isLc
  | sc, .seta o f e, .Assign [.Attribute po x _] pe _ => chkE nm N sc o po && decide (nm.an[f]? = some x) && chkE nm N sc e pe && !e.isLc
  | sc, .aug i op e, .AugAssign (.Name x _) o pe _ => decide (N[i]? = some x) && stB sc x && decide (o = op) && chkE nm N sc e pe
  | sc, .auga o f op (.cint k), .AugAssign (.Attribute po x _) o' pe _ => chkE nm N sc o po && decide (nm.an[f]? = some x) && decide (o' = op) && chkE nm N sc (.cint k) pe
  | sc, .ite t a b, .If pt pa pb _ => chkE nm N sc t pt && tOk t && chkSs sc a pa && chkSs sc b pb
  | sc, .whl t b, .While pt pb [] _ => chkE nm N sc t pt && tOk t && chkSs sc b pb
  | sc, .for_ tg it b, .For ptg pit pb [] _ => chkT N (stB sc) tg ptg && chkE nm N sc it pit && itOk it tg && chkSs sc b pb
  | sc, .ret e, .Return (some pe) _ => chkE nm N sc e pe
  | _, .retn, .Return none _ => true
  | _, .brk, .Break _ => true
  | sc, .raise c e, .Raise (some (.Call (.Name x _) [pe] [] _)) none _ => glB sc x && decide (nm.xl[c]? = some x) && decide (x ≠ Str.empty) && chkE nm N sc e pe
  | _, .cnt, .Continue _ => true
  | _, .pass, .Pass _ => true
  | _, _, _ => false
def chkSs : Scope → List S → List Stmt → Bool
  | _, [], [] => true
  | sc, s :: ss, p :: ps => chkS sc s p && chkSs sc ss ps
  | _, _, _ => false
end
end
section
variable {L : Lk} {C : Ctx} {n : Nat} {W : XK} {X : Cx} {pe : Expr}
structure GoodB (L : Lk) (C : Ctx) (n : Nat) (W : XK) (X : Cx) : Prop where
  g : Good L C n W X
  fn : ∀ x, X.fn x = true
  po : PassesOwn (model X.prog X.w) X.A X.env X.xe
theorem st_of (g : GoodB L C n W X) : ∀ x, stB X.env.scope x = true → L2.Loc X.env.scope x ∧ (X.fn x = true ∨ X.env.scope.names.lookup x = some .local) := fun x h => by
  unfold stB at h
  refine ⟨?_, .inl (g.fn x)⟩
  rcases Bool.or_eq_true_iff.mp h with h | h
  · exact .inl (of_decide_eq_true h)
  · exact .inr (of_decide_eq_true h)
theorem swaps_of {nm : Nm} {N : List Str} {sc : Scope} {e : E} {pe : Expr} (h : chkE nm N sc e pe = true) (hl : e.isLc = false) (t : Option Expr) (k : Nat) (env : PySem.Env) : swapsWith pe t k env = pure false := by
  cases e <;> cases pe <;> first
    | rfl
    | (exact absurd h Bool.false_ne_true)
    | (cases hl; done)
    | (exfalso; unfold chkE at h; simp at h; done)
theorem swapped_of {nm : Nm} {N : List Str} {sc : Scope} {e : E} {pe : Expr} (h : chkE nm N sc e pe = true) (hl : e.isTup = false) (t : Expr) (env : PySem.Env) : swappedStores [t] pe env = pure none := by
  cases e <;> cases pe <;> first
    | (exact absurd h Bool.false_ne_true)
    | (cases hl; done)
    | (cases t <;> rfl)
    | (exfalso; unfold chkE at h; simp at h; done)
theorem sole_eq (t v : Expr) (k : Nat) (env : PySem.Env) : swapsWithSole [t] v k env = swapsWith v (some t) k env := rfl
theorem asub_of {nm : Nm} {N : List Str} {sc : Scope} {e : E} {pi : Expr} (h : chkE nm N sc e pi = true) (po : Expr) (p0 : Pos) (env : PySem.Env) (v : Value) : PySem.assign (.Subscript po pi p0) env v = (do
      let ov ← holding [v] (eval po env)
      let iv ← holding [v, ov] (eval pi env)
      standAt p0
      holding [v, ov, iv] (PySem.setItem ov iv v)
      release [v, ov, iv] []) := by
  cases e <;> cases pi <;> first
    | (exact absurd h Bool.false_ne_true)
    | rfl
    | (exfalso; unfold chkE at h; simp at h; done)
/-- what a comprehension that was checked gives -/
theorem lc_parts {own : List Nat} {tg : Tg} {it elt : E} {ifs : List E} (g : Good L C n W X) (h : chkE L.nm X.N X.env.scope (.lc own tg it ifs elt) pe = true) : ∃ pelt ptg pit pifs scope pos, pe = .ListComp pelt [⟨ptg, pit, pifs, 0⟩] scope pos ∧
    PI X ptg pit (rdI L X.K W (ev C it).i) ∧ L2.BlkOk X.N X.env.scope scope (ownOf X.N own) ∧ chkT X.N (locC scope X.env.scope) tg ptg = true ∧ (∀ i ∈ tg.slots, i ∈ own) ∧
    (∀ (s : Shared) (H : Hp) (Cc : Addr) (cl : List (Str × Addr)) (fp : List Addr), PTs (X.blk s H scope (compEnvC scope cl Cc X.env) fp) pifs (rdT L X.K NoW (cTests (evt C ifs)))) ∧
    (∀ (s : Shared) (H : Hp) (Cc : Addr) (cl : List (Str × Addr)) (fp : List Addr), PE (X.blk s H scope (compEnvC scope cl Cc X.env) fp) pelt (rd L X.K NoW (ev C elt).v)) ∧ ∀ x, foldedSetIterable pit X.env x = pure x := by
  cases pe <;> first | (rcases ifs with _ | ⟨c, _ | ⟨c2, ifs⟩⟩ <;> (exact absurd h Bool.false_ne_true)) | skip
  rename_i pelt gens scope pos
  rcases gens with _ | ⟨⟨ptg, pit, pifs, as⟩, _ | ⟨gen2, gens⟩⟩ <;> first | (rcases ifs with _ | ⟨c, _ | ⟨c2, ifs⟩⟩ <;> (exact absurd h Bool.false_ne_true)) | (rcases ifs with _ | ⟨c, _ | ⟨c2, ifs⟩⟩ <;> rcases pifs with _ | ⟨pc, _ | ⟨pc2, pifs⟩⟩ <;> (exact absurd h Bool.false_ne_true)) | skip
  rcases ifs with _ | ⟨c, _ | ⟨c2, ifs⟩⟩
  · rcases pifs with _ | ⟨pc, pifs⟩ <;> first | (exact absurd h Bool.false_ne_true) | skip
    unfold chkE at h
    simp only [Bool.and_eq_true, List.all_eq_true, decide_eq_true_eq] at h
    obtain ⟨⟨⟨⟨⟨⟨rfl, h1⟩, h2⟩, h3⟩, h4⟩, h5⟩, h6⟩ := h
    exact ⟨pelt, ptg, pit, [], scope, pos, rfl, (evalE_ok it g h1).i _ _ _ h2 h5, L2.blkOk_by h4, h5, fun i hi => by simpa using h3 i hi, fun s H Cc cl fp => pts0Y, fun s H Cc cl fp => (evalE_ok elt (good_blk g s H cl Cc fp) h6).v, folded_of h1 _⟩
  · rcases pifs with _ | ⟨pc, _ | ⟨pc2, pifs⟩⟩ <;> first | (exact absurd h Bool.false_ne_true) | skip
    unfold chkE at h
    simp only [Bool.and_eq_true, List.all_eq_true, decide_eq_true_eq] at h
    obtain ⟨⟨⟨⟨⟨⟨⟨⟨rfl, h1⟩, h2⟩, h3⟩, h4⟩, h5⟩, h6⟩, h7⟩, h8⟩ := h
    exact ⟨pelt, ptg, pit, [pc], scope, pos, rfl, (evalE_ok it g h1).i _ _ _ h2 h5, L2.blkOk_by h4, h5, fun i hi => by simpa using h3 i hi, fun s H Cc cl fp => pts1Y ((evalE_ok c (good_blk g s H cl Cc fp) h6).t h7), fun s H Cc cl fp => (evalE_ok elt (good_blk g s H cl Cc fp) h8).v, folded_of h1 _⟩
  · rcases pifs with _ | ⟨pc, _ | ⟨pc2, pifs⟩⟩ <;> (exact absurd h Bool.false_ne_true)
theorem set_ok' (g : GoodB L C n W X) {i : Nat} {e : E} {x : Str} {p0 pos : Pos} (hi : X.N[i]? = some x) (hx : stB X.env.scope x = true) (h : chkE L.nm X.N X.env.scope e pe = true) :
    PS X (.Assign [.Name x p0] pe pos) (rdS L X.K W fun env h => ofRes ((ev C e).v env h) fun d h => .nx (env.put i d) h) := by
  obtain ⟨l1, l2⟩ := st_of g x hx
  cases hl : e.isLc with
  | false => exact setY g.g.nd hi l1 l2 (evalE_ok e g.g h).v (swaps_of h hl _ _ _)
  | true =>
    cases e <;> first | (cases hl; done) | skip
    rename_i own tg it ifs elt
    have hv := (evalE_ok _ g.g h).v
    obtain ⟨pelt, ptg, pit, pifs, scope, lpos, rfl, q1, q2, q3, q4, q5, q6, q7⟩ := lc_parts g.g h
    have hb : ∃ b, swapsWith (.ListComp pelt [⟨ptg, pit, pifs, 0⟩] scope lpos) (some (.Name x p0)) pos.line X.env = pure b ∧ (b = true → X.env.scope.names.lookup x = some .local) := by
      refine ⟨_, rfl, fun hb => ?_⟩
      simp only [Bool.and_eq_true, beq_iff_eq] at hb
      exact hb.1.1.2
    obtain ⟨b, hb, hloc⟩ := hb
    cases b with
    | false => exact setY g.g.nd hi l1 l2 hv hb
    | true =>
      exact (setLcY0 g.g hi (hloc rfl) hb q1 q2 q3 q4 q5 q6 q7).imp fun D σ H ⟨env, h, r, s, p⟩ => ⟨env, h, r, s, (p.of (env := env) (σ := σ)).mono fun v H1 ⟨d, h1, r1, a1, p1⟩ => p1.nxH (a1.s.slot a1.rel)⟩
mutual
theorem execS_ok : ∀ (st : S) {X : Cx} {W : XK} {ps : Stmt}, GoodB L C n W X → chkS L.nm X.N X.env.scope st ps = true → PS X ps (rdS L X.K W (execS C st))
  | .expr e, X, W, ps, g, h => by
    cases ps <;> first | (exact absurd h Bool.false_ne_true) | skip
    unfold chkS at h
    simp only [Bool.and_eq_true, Bool.not_eq_true'] at h
    exact exprY (evalE_ok e g.g h.1).v (swaps_of h.1 h.2 _ _ _)
  | .set i e, X, W, ps, g, h => by
    cases ps <;> first | (exact absurd h Bool.false_ne_true) | skip
    rename_i ts pe pos
    rcases ts with _ | ⟨t, _ | ⟨t2, ts⟩⟩ <;> first | (exact absurd h Bool.false_ne_true) | (cases t <;> exact absurd h Bool.false_ne_true) | skip
    cases t <;> first | (exact absurd h Bool.false_ne_true) | skip
    unfold chkS at h
    simp only [Bool.and_eq_true, decide_eq_true_eq] at h
    exact set_ok' g h.1.1 h.1.2 h.2
  | .asg tg e, X, W, ps, g, h => by
    cases tg with
    | nm i => cases ps <;> (exact absurd h Bool.false_ne_true)
    | tp tgs =>
    cases ps <;> first | (exact absurd h Bool.false_ne_true) | skip
    rename_i ts pe pos
    rcases ts with _ | ⟨t, _ | ⟨t2, ts⟩⟩ <;> first | (exact absurd h Bool.false_ne_true) | (cases t <;> exact absurd h Bool.false_ne_true) | skip
    cases t <;> first | (exact absurd h Bool.false_ne_true) | skip
    unfold chkS at h
    simp only [Bool.and_eq_true, Bool.not_eq_true'] at h
    obtain ⟨⟨⟨h1, h2⟩, h3⟩, h4⟩ := h
    exact asgY g.g.calm g.g.nd (st_of g) h1 (evalE_ok e g.g h2).v (by rw [sole_eq]; exact swaps_of h2 h3 _ _ _) (swapped_of h2 h4 _ _) rfl
  | .seti o i e, X, W, ps, g, h => by
    cases ps <;> first | (exact absurd h Bool.false_ne_true) | skip
    rename_i ts pe pos
    rcases ts with _ | ⟨t, _ | ⟨t2, ts⟩⟩ <;> first | (exact absurd h Bool.false_ne_true) | (cases t <;> exact absurd h Bool.false_ne_true) | skip
    cases t <;> first | (exact absurd h Bool.false_ne_true) | skip
    unfold chkS at h
    simp only [Bool.and_eq_true, Bool.not_eq_true'] at h
    obtain ⟨⟨⟨h1, h2⟩, h3⟩, h4⟩ := h
    exact setiY (C := C) (by have := g.g.room.un; omega) (evalE_ok o g.g h1).v (evalE_ok i g.g h2).v (evalE_ok e g.g h3).v (by rw [sole_eq]; exact swaps_of h3 h4 _ _ _) (by cases pe <;> rfl) (asub_of h2 _ _ _)
  | .seta o f e, X, W, ps, g, h => by
    cases ps <;> first | (exact absurd h Bool.false_ne_true) | skip
    rename_i ts pe pos
    rcases ts with _ | ⟨t, _ | ⟨t2, ts⟩⟩ <;> first | (exact absurd h Bool.false_ne_true) | (cases t <;> exact absurd h Bool.false_ne_true) | skip
    cases t <;> first | (exact absurd h Bool.false_ne_true) | skip
    unfold chkS at h
    simp only [Bool.and_eq_true, Bool.not_eq_true', decide_eq_true_eq] at h
    obtain ⟨⟨⟨h1, h2⟩, h3⟩, h4⟩ := h
    exact setaY g.g h2 (evalE_ok o g.g h1).v (evalE_ok e g.g h3).v (swaps_of h3 h4 _ _ _)
  | .aug i op e, X, W, ps, g, h => by
    cases ps <;> first | (exact absurd h Bool.false_ne_true) | skip
    rename_i t o pe pos
    cases t <;> first | (exact absurd h Bool.false_ne_true) | skip
    unfold chkS at h
    simp only [Bool.and_eq_true, decide_eq_true_eq] at h
    obtain ⟨⟨⟨h1, h2⟩, rfl⟩, h4⟩ := h
    obtain ⟨l1, l2⟩ := st_of g _ h2
    exact augY g.g.nd h1 l1 l2 (evalE_ok e g.g h4).v
  | .ite t a b, X, W, ps, g, h => by
    cases ps <;> first | (exact absurd h Bool.false_ne_true) | skip
    unfold chkS at h
    simp only [Bool.and_eq_true] at h
    obtain ⟨⟨⟨h1, h2⟩, h3⟩, h4⟩ := h
    exact iteY ((evalE_ok t g.g h1).t h2) (execSs_ok a g h3) (execSs_ok b g h4)
  | .whl t b, X, W, ps, g, h => by
    cases ps <;> first | (exact absurd h Bool.false_ne_true) | skip
    rename_i pt pb pe pos
    cases pe <;> first | (exact absurd h Bool.false_ne_true) | skip
    unfold chkS at h
    simp only [Bool.and_eq_true] at h
    obtain ⟨⟨h1, h2⟩, h3⟩ := h
    exact whlY g.po ((evalE_ok t g.g h1).t h2) (execSs_ok b g h3)
  | .for_ tg it b, X, W, ps, g, h => by
    cases ps <;> first | (exact absurd h Bool.false_ne_true) | skip
    rename_i pt pi pb pe pos
    cases pe <;> first | (exact absurd h Bool.false_ne_true) | skip
    unfold chkS at h
    simp only [Bool.and_eq_true] at h
    obtain ⟨⟨⟨h1, h2⟩, h3⟩, h4⟩ := h
    exact forY g.po g.g.calm g.g.nd (st_of g) h1 ((evalE_ok it g.g h2).i _ _ _ h3 h1) (execSs_ok b g h4) (folded_of h2 _)
  | .ret e, X, W, ps, g, h => by
    cases ps <;> first | (exact absurd h Bool.false_ne_true) | skip
    rename_i v pos
    cases v <;> first | (exact absurd h Bool.false_ne_true) | skip
    unfold chkS at h
    exact retY (evalE_ok e g.g h).v
  | .retn, X, W, ps, g, h => by
    cases ps <;> first | (exact absurd h Bool.false_ne_true) | skip
    rename_i v pos
    cases v <;> first | (exact absurd h Bool.false_ne_true) | skip
    exact retnY
  | .brk, X, W, ps, g, h => by
    cases ps <;> first | (exact absurd h Bool.false_ne_true) | skip
    exact brkY
  | .cnt, X, W, ps, g, h => by
    cases ps <;> first | (exact absurd h Bool.false_ne_true) | skip
    exact cntY
  | .pass, X, W, ps, g, h => by
    cases ps <;> first | (exact absurd h Bool.false_ne_true) | skip
    exact passY
  | .par i j a b, X, W, ps, g, h => by cases ps <;> (exact absurd h Bool.false_ne_true)
  | .auga o f op e, X, W, ps, g, h => by
    cases ps <;> first | (cases e <;> exact absurd h Bool.false_ne_true) | skip
    rename_i t o' pe pos
    cases t <;> first | (cases e <;> exact absurd h Bool.false_ne_true) | skip
    cases e <;> first | (exact absurd h Bool.false_ne_true) | skip
    unfold chkS at h
    simp only [Bool.and_eq_true, decide_eq_true_eq] at h
    obtain ⟨⟨⟨h1, h2⟩, rfl⟩, h4⟩ := h
    exact augaY g.g h2 (evalE_ok o g.g h1).v (evalE_ok (.cint _) g.g h4).v (fun _ _ => rfl)
  | .augi o i op e, X, W, ps, g, h => by cases ps <;> (exact absurd h Bool.false_ne_true)
  | .raise c e, X, W, ps, g, h => by
    cases ps <;> first | (exact absurd h Bool.false_ne_true) | skip
    rename_i pe cause pos
    cases cause with
    | some cz => exfalso; unfold chkS at h; simp at h
    | none =>
    cases pe with
    | none => exact absurd h Bool.false_ne_true
    | some pc =>
    cases pc <;> first | (exact absurd h Bool.false_ne_true) | skip
    rename_i f as ks p2
    cases f <;> first | (exact absurd h Bool.false_ne_true) | skip
    rcases as with _ | ⟨pa, _ | ⟨pb, as⟩⟩ <;> first | (exact absurd h Bool.false_ne_true) | skip
    cases ks <;> first | (exact absurd h Bool.false_ne_true) | skip
    unfold chkS at h
    simp only [Bool.and_eq_true, decide_eq_true_eq] at h
    obtain ⟨⟨⟨h1, h2⟩, h3⟩, h4⟩ := h
    exact raiseY g.g h1 h2 h3 (evalE_ok e g.g h4).v (star_of h4 _ _)
  | .ndef i k cs, X, W, ps, g, h => by cases ps <;> (exact absurd h Bool.false_ne_true)
  | .deli o i, X, W, ps, g, h => by cases ps <;> (exact absurd h Bool.false_ne_true)
theorem execSs_ok : ∀ (ss : List S) {X : Cx} {W : XK} {ps : List Stmt}, GoodB L C n W X → chkSs L.nm X.N X.env.scope ss ps = true → PSs X ps (rdS L X.K W (execSs C ss))
  | [], X, W, ps, g, h => by
    cases ps <;> first | (exact absurd h Bool.false_ne_true) | skip
    exact nilY
  | s :: ss, X, W, ps, g, h => by
    cases ps <;> first | (exact absurd h Bool.false_ne_true) | skip
    unfold chkSs at h
    obtain ⟨h1, h2⟩ := Bool.and_eq_true_iff.mp h
    exact seqY (execS_ok s g h1) (execSs_ok ss g h2)
end
end
end Y
set_option Elab.async false
set_option linter.all false
set_option maxRecDepth 100000
set_option maxHeartbeats 8000000
namespace Y
def Ext (b : Nat) (h h' : Heap) : Prop := h.length ≤ h'.length ∧ ∀ i, i < b → h'[i]? = h[i]?
theorem Ext.refl {b : Nat} {h : Heap} : Ext b h h := ⟨Nat.le_refl _, fun _ _ => rfl⟩
theorem Ext.trans {b : Nat} {h h1 h2 : Heap} (x : Ext b h h1) (y : Ext b h1 h2) : Ext b h h2 := ⟨Nat.le_trans x.1 y.1, fun i hi => (y.2 i hi).trans (x.2 i hi)⟩
theorem Ext.push {b : Nat} {h : Heap} {o : HV} (hb : b ≤ h.length) : Ext b h (h ++ [o]) := ⟨by simp, fun i hi => List.getElem?_append_left (by omega)⟩
theorem Ext.set {b : Nat} {h : Heap} {a : Nat} {o : HV} (ha : b ≤ a) : Ext b h (h.set a o) := ⟨by simp, fun i hi => List.getElem?_set_ne (by omega)⟩
theorem Ext.less {b c : Nat} {h h' : Heap} (x : Ext b h h') (hc : c ≤ b) : Ext c h h' := ⟨x.1, fun i hi => x.2 i (by omega)⟩
theorem Ext.le {b : Nat} {h h' : Heap} (x : Ext b h h') (hb : b ≤ h.length) : b ≤ h'.length := Nat.le_trans hb x.1
def PrR {α : Type} (b : Nat) (h : Heap) : Res α → Prop
  | .ok _ h' => Ext b h h'
  | .exc _ _ h' => Ext b h h'
  | .err => True
def PrS (b : Nat) (h : Heap) : SRes → Prop
  | .nx _ h' => Ext b h h'
  | .ret _ h' => Ext b h h'
  | .brk _ h' => Ext b h h'
  | .cnt _ h' => Ext b h h'
  | .exc _ _ h' => Ext b h h'
  | .err => True
def Pm {α : Type} (b : Nat) (m : Env → Heap → Res α) : Prop := ∀ env h, b ≤ h.length → PrR b h (m env h)
theorem PrR.tr {α : Type} {b : Nat} {h h1 : Heap} {x : Res α} (e : Ext b h h1) (p : PrR b h1 x) : PrR b h x := by
  cases x with
  | ok a h' => exact e.trans p
  | exc c ds h' => exact e.trans p
  | err => trivial
theorem PrS.tr {b : Nat} {h h1 : Heap} {x : SRes} (e : Ext b h h1) (p : PrS b h1 x) : PrS b h x := by
  cases x with
  | err => trivial
  | _ => exact e.trans p
theorem PrR.bind {α β : Type} {b : Nat} {h : Heap} {x : Res α} {f : α → Heap → Res β} (hb : b ≤ h.length) (p : PrR b h x) (q : ∀ a h1, b ≤ h1.length → PrR b h1 (f a h1)) : PrR b h (x.bind f) := by
  cases x with
  | ok a h1 => exact PrR.tr p (q a h1 (Ext.le p hb))
  | exc c ds h' => exact p
  | err => trivial
theorem PrS.of {b : Nat} {h : Heap} {x : Res D} {f : D → Heap → SRes} (hb : b ≤ h.length) (p : PrR b h x) (q : ∀ a h1, b ≤ h1.length → PrS b h1 (f a h1)) : PrS b h (ofRes x f) := by
  cases x with
  | ok a h1 => exact PrS.tr p (q a h1 (Ext.le p hb))
  | exc c ds h' => exact p
  | err => trivial
section
variable {b : Nat} {h : Heap} (hb : b ≤ h.length)
include hb
theorem pr_str (s : List Nat) : PrR b h (mkStr s h) := by unfold mkStr; split <;> first | exact Ext.refl | trivial
theorem pr_tup (s : List D) : PrR b h (mkTup s h) := by unfold mkTup; split <;> first | exact Ext.refl | trivial
theorem pr_lst (s : List D) : PrR b h (mkLst s h) := by unfold mkLst; split <;> first | exact Ext.push hb | trivial
theorem pr_binop (op : PySem.Operator) (x y : D) : PrR b h (binop op x y h) := by
  unfold binop
  repeat' split
  all_goals first | exact Ext.refl | trivial | exact pr_str hb _ | exact pr_tup hb _ | exact pr_lst hb _
theorem pr_augop (op : PySem.Operator) (x y : D) : PrR b h (augop op x y h) := by
  unfold augop
  repeat' split
  all_goals first | exact Ext.refl | trivial | exact pr_binop hb _ _ _
theorem pr_optR (o : Option D) : PrR b h (optR o h) := by unfold optR; split <;> first | exact Ext.refl | trivial
theorem pr_biF (k : Bi) (ds : List D) : PrR b h (biF k ds h) := by
  unfold biF
  repeat' split
  all_goals first | exact Ext.refl | trivial | exact pr_optR hb _ | exact pr_lst hb _ | exact Ext.push hb
theorem pr_setO {a : Nat} {o : HV} {h' : Heap} (e : setO b h a o = some h') : Ext b h h' := by
  unfold setO at e
  split at e
  · cases e; exact Ext.set (by assumption)
  · cases e
theorem pr_optH {a : Nat} {o : HV} {d : D} : PrR b h (optH (setO b h a o) d) := by
  unfold optH
  split
  · exact pr_setO hb (by assumption)
  · trivial
theorem pr_bmF (m : Bm) (o : D) (ds : List D) : PrR b h (bmF b m o ds h) := by
  unfold bmF
  repeat' split
  all_goals first | exact Ext.refl | trivial | exact pr_optH hb | exact pr_str hb _ | exact pr_lst hb _ | exact pr_optR hb _
theorem pr_idxF (x y : D) : PrR b h (idxF x y h) := by
  unfold idxF
  repeat' split
  all_goals first | exact Ext.refl | trivial | exact pr_optR hb _
theorem pr_slcV (x : D) (lo hi : Option Int) : PrR b h (slcV x lo hi h) := by
  unfold slcV
  repeat' split
  all_goals first | exact Ext.refl | trivial | exact pr_lst hb _
theorem pr_fstF : ∀ (ds : List D) (acc : List Nat), PrR b h (fstF ds acc h)
  | [], acc => pr_str hb acc
  | d :: ds, acc => by
    cases d <;> first | trivial | exact pr_fstF ds _ | (unfold fstF; split; exact pr_fstF ds _; trivial)
theorem pr_setItem {o i d : D} {h' : Heap} (e : setItem b o i d h = some h') : Ext b h h' := by
  unfold setItem at e
  repeat' split at e
  all_goals first | exact pr_setO hb e | (cases e; done)
theorem pr_setAttr {o d : D} {f : Nat} {h' : Heap} (e : setAttr b o f d h = some h') : Ext b h h' := by
  unfold setAttr at e
  repeat' split at e
  all_goals first | exact pr_setO hb e | (cases e; done)
theorem pr_delItem {o i : D} {h' : Heap} (e : delItem b o i h = some h') : Ext b h h' := by
  unfold delItem at e
  repeat' split at e
  all_goals first | exact pr_setO hb e | (cases e; done)
end
def OkT {α : Type} (hp : α → Heap) (b : Nat) (h : Heap) : Option (α ⊕ SRes) → Prop
  | some (.inl s') => Ext b h (hp s')
  | some (.inr r) => PrS b h r
  | none => True
/-- turns keep it -/
theorem pr_turns {α : Type} {b : Nat} {w : It} {hp : α → Heap} {step : D → α → Option (α ⊕ SRes)} (hs : ∀ d s, b ≤ (hp s).length → OkT hp b (hp s) (step d s)) :
    ∀ (f i : Nat) (s : α), b ≤ (hp s).length → OkT hp b (hp s) (turns w hp step f i s)
  | 0, i, s, hb => trivial
  | f + 1, i, s, hb => by
    unfold turns
    cases en : w.next i (hp s) with
    | err => trivial
    | stop => exact Ext.refl
    | item d =>
      dsimp only
      have h1 := hs d s hb
      cases e : step d s with
      | none => trivial
      | some v =>
        rw [e] at h1
        cases v with
        | inr r => exact h1
        | inl s' =>
          have ih := pr_turns (w := w) hs f (i + 1) s' (Ext.le h1 hb)
          dsimp only
          cases e2 : turns w hp step f (i + 1) s' with
          | none => trivial
          | some v =>
            rw [e2] at ih
            cases v with
            | inl s2 => exact Ext.trans h1 ih
            | inr r => exact PrS.tr h1 ih
/-- a call leaves it alone -/
def CallPr (call : Nat → Nat → List D → Heap → Res D) : Prop := ∀ b k ds h, b ≤ h.length → PrR b h (call b k ds h)
structure EvPr (b : Nat) (e : Ev) : Prop where
  v : Pm b e.v
  t : Pm b e.t
  i : Pm b e.i
theorem EvPr.mkV {b : Nat} {m : MV} (hm : Pm b m) : EvPr b (Y.mkV m) :=
  ⟨hm, fun env h hb => PrR.bind hb (hm env h hb) fun a h1 hb1 => by unfold truR; split <;> first | exact Ext.refl | trivial,
    fun env h hb => PrR.bind hb (hm env h hb) fun a h1 hb1 => by unfold iterR; split <;> first | exact Ext.refl | trivial⟩
theorem EvPr.mkI {b : Nat} {m : MI} (hm : Pm b m) : EvPr b (Y.mkI m) := ⟨fun _ _ _ => trivial, fun _ _ _ => trivial, hm⟩
section
variable {C : Ctx}
theorem pm_args : ∀ {ms : List MV}, (∀ m ∈ ms, Pm C.base m) → Pm C.base (cArgs ms)
  | [], _ => fun env h hb => Ext.refl
  | m :: ms, hm => fun env h hb => PrR.bind hb (hm m List.mem_cons_self env h hb) fun a h1 hb1 => PrR.bind hb1 (pm_args (fun m' h' => hm m' (List.mem_cons_of_mem _ h')) env h1 hb1) fun _ _ _ => Ext.refl
theorem pm_dlit {ks vs : List MV} (hk : ∀ m ∈ ks, Pm C.base m) (hv : ∀ m ∈ vs, Pm C.base m) : Pm C.base (cDlit ks vs) := fun env h hb => by
  rcases ks with _ | ⟨k, _ | ⟨k2, ks⟩⟩ <;> rcases vs with _ | ⟨v, _ | ⟨v2, vs⟩⟩ <;> first | (exact Ext.push hb) | trivial | skip
  have hb0 : C.base ≤ (h ++ [HV.dic []]).length := by rw [List.length_append]; exact Nat.le_trans hb (Nat.le_add_right _ _)
  refine PrR.tr (Ext.push hb) (PrR.bind hb0 (hk k List.mem_cons_self env _ hb0) fun kd h1 hb1 => PrR.bind hb1 (hv v List.mem_cons_self env h1 hb1) fun vd h2 hb2 => ?_)
  split
  · split
    · exact Ext.set hb
    · trivial
  · trivial
theorem pm_tests : ∀ {ms : List MT}, (∀ m ∈ ms, Pm C.base m) → Pm C.base (cTests ms)
  | [], _ => fun env h hb => Ext.refl
  | m :: ms, hm => fun env h hb => PrR.bind hb (hm m List.mem_cons_self env h hb) fun a h1 hb1 => by
    split
    · exact pm_tests (fun m' h' => hm m' (List.mem_cons_of_mem _ h')) env h1 hb1
    · exact Ext.refl
theorem pm_cmp (op : PySem.CmpOp) (x y : D) {b : Nat} {h : Heap} (hb : b ≤ h.length) : PrR b h (cmpF op x y h) := by unfold cmpF; exact pr_optR hb _
theorem pm_call (hc : CallPr C.call) (k : Nat) (ds : List D) {h : Heap} (hb : C.base ≤ h.length) : PrR C.base h (C.call C.base k ds h) := hc _ _ _ _ hb
theorem pm_new (hc : CallPr C.call) (c : Nat) (ds : List D) {h : Heap} (hb : C.base ≤ h.length) : PrR C.base h (newF C c ds h) := by
  unfold newF
  split
  · have hb2 : C.base ≤ (h ++ [HV.ins c []]).length := by simp; omega
    refine PrR.tr (Ext.push hb) (PrR.bind hb2 (hc _ _ _ _ hb2) fun v h' _ => ?_)
    split <;> first | exact Ext.refl | trivial
  · trivial
theorem pm_meth (hc : CallPr C.call) {m : Nat} {o : MV} {as : ML} (ho : Pm C.base o) (ha : Pm C.base as) : Pm C.base (cMeth C m o as) := fun env h hb => PrR.bind hb (ho env h hb) fun x h1 hb1 => by
  repeat' split
  all_goals first | trivial | exact PrR.bind hb1 (ha env h1 hb1) fun ds h2 hb2 => hc _ _ _ _ hb2
theorem pm_told (r : Res D) {h : Heap} (hr : PrR C.base h r) : PrR C.base h (toldN C r) := by
  unfold toldN
  repeat' split
  all_goals first | trivial | exact hr
theorem ext_lc {own : List Nat} {t : Tg} {p : Nat} {env : Env} {mt : MT} {me : MV} (ht : Pm C.base mt) (he : Pm C.base me) (hp : C.base ≤ p) (d : D) (s : Heap) (hb : C.base ≤ s.length) :
    OkT (fun s : Heap => s) C.base s (lcStep p t env mt me d s) := by
  unfold lcStep
  cases ea : assign t d s env with
  | none => trivial
  | some env' =>
    dsimp only
    have h1 := ht env' s hb
    cases e1 : mt env' s with
    | err => trivial
    | exc c ds h => trivial
    | ok v s1 =>
      rw [e1] at h1
      cases v with
      | false => exact h1
      | true =>
        dsimp only
        have h2 := he env' s1 (Ext.le h1 hb)
        cases e2 : me env' s1 with
        | err => trivial
        | exc c ds h => trivial
        | ok y s2 =>
          rw [e2] at h2
          dsimp only
          cases e3 : s2.at p with
          | none => trivial
          | some u =>
            cases u with
            | lst acc =>
              dsimp only
              split
              · exact (Ext.trans h1 h2).trans (Ext.set hp)
              · trivial
            | _ => trivial
mutual
theorem ev_pr : ∀ (e : E) {C : Ctx}, CallPr C.call → CallPr C.low → EvPr C.base (ev C e)
  | .cint i, C, hc, hl => .mkV fun _ _ _ => Ext.refl
  | .cstr i, C, hc, hl => .mkV fun _ _ _ => Ext.refl
  | .cbl i, C, hc, hl => .mkV fun _ _ _ => Ext.refl
  | .cnon, C, hc, hl => .mkV fun _ _ _ => Ext.refl
  | .fnv k, C, hc, hl => .mkV fun _ _ _ => Ext.refl
  | .var i, C, hc, hl => .mkV fun env h hb => by unfold cVar; split <;> first | exact Ext.refl | trivial
  | .glb k, C, hc, hl => .mkV fun env h hb => by unfold cGlb; split <;> first | exact Ext.refl | trivial
  | .bin op a b, C, hc, hl => .mkV fun env h hb => PrR.bind hb ((ev_pr a hc hl).v env h hb) fun x h1 hb1 => PrR.bind hb1 ((ev_pr b hc hl).v env h1 hb1) fun y h2 hb2 => pr_binop hb2 op x y
  | .neg a, C, hc, hl => .mkV fun env h hb => PrR.bind hb ((ev_pr a hc hl).v env h hb) fun x h1 hb1 => by unfold negF; split <;> first | exact Ext.refl | trivial
  | .notv a, C, hc, hl => by
    have h1 : Pm C.base (cUn notF (ev C a).v) := fun env h hb => PrR.bind hb ((ev_pr a hc hl).v env h hb) fun x h1 hb1 => by unfold notF; split <;> first | exact Ext.refl | trivial
    exact ⟨(EvPr.mkV h1).v, fun env h hb => PrR.bind hb ((ev_pr a hc hl).t env h hb) fun _ _ _ => Ext.refl, (EvPr.mkV h1).i⟩
  | .cmp op a b, C, hc, hl => .mkV fun env h hb => PrR.bind hb ((ev_pr a hc hl).v env h hb) fun x h1 hb1 => PrR.bind hb1 ((ev_pr b hc hl).v env h1 hb1) fun y h2 hb2 => pm_cmp op x y hb2
  | .chain o1 o2 a b c, C, hc, hl => .mkV fun env h hb => PrR.bind hb ((ev_pr a hc hl).v env h hb) fun x h1 hb1 => PrR.bind hb1 ((ev_pr b hc hl).v env h1 hb1) fun y h2 hb2 => by
    split
    · exact PrR.bind hb2 ((ev_pr c hc hl).v env h2 hb2) fun z h3 hb3 => pm_cmp o2 y z hb3
    · exact Ext.refl
    · trivial
  | .andv a b, C, hc, hl => by
    have h1 : Pm C.base (cAnd (ev C a).v (ev C b).v) := fun env h hb => PrR.bind hb ((ev_pr a hc hl).v env h hb) fun x h1 hb1 => by
      split
      · exact (ev_pr b hc hl).v env h1 hb1
      · exact Ext.refl
      · trivial
    exact ⟨(EvPr.mkV h1).v, fun env h hb => PrR.bind hb ((ev_pr a hc hl).t env h hb) fun x h1 hb1 => by
      split
      · exact (ev_pr b hc hl).t env h1 hb1
      · exact Ext.refl, (EvPr.mkV h1).i⟩
  | .orv a b, C, hc, hl => by
    have h1 : Pm C.base (cOr (ev C a).v (ev C b).v) := fun env h hb => PrR.bind hb ((ev_pr a hc hl).v env h hb) fun x h1 hb1 => by
      split
      · exact Ext.refl
      · exact (ev_pr b hc hl).v env h1 hb1
      · trivial
    exact ⟨(EvPr.mkV h1).v, fun env h hb => PrR.bind hb ((ev_pr a hc hl).t env h hb) fun x h1 hb1 => by
      split
      · exact Ext.refl
      · exact (ev_pr b hc hl).t env h1 hb1, (EvPr.mkV h1).i⟩
  | .ife t a b, C, hc, hl => .mkV fun env h hb => PrR.bind hb ((ev_pr t hc hl).t env h hb) fun x h1 hb1 => by
    split
    · exact (ev_pr a hc hl).v env h1 hb1
    · exact (ev_pr b hc hl).v env h1 hb1
  | .call k es, C, hc, hl => .mkV fun env h hb => PrR.bind hb (pm_args (evs_pr es hc hl) env h hb) fun ds h1 hb1 => hc _ _ _ _ hb1
  | .calls i es, C, hc, hl => .mkV fun env h hb => by
    unfold cCalls
    split
    · exact PrR.bind hb (pm_args (evs_pr es hc hl) env h hb) fun ds h1 hb1 => hc _ _ _ _ hb1
    · exact PrR.bind hb (pm_args (evs_pr es hc hl) env h hb) fun ds h1 hb1 => hc _ _ _ _ hb1
    · trivial
  | .new c es, C, hc, hl => .mkV fun env h hb => PrR.bind hb (pm_args (evs_pr es hc hl) env h hb) fun ds h1 hb1 => pm_new hc c ds hb1
  | .mth m o es, C, hc, hl => .mkV (pm_meth hc (ev_pr o hc hl).v (pm_args (evs_pr es hc hl)))
  | .bi k es, C, hc, hl => .mkV fun env h hb => PrR.bind hb (pm_args (evs_pr es hc hl) env h hb) fun ds h1 hb1 => pr_biF hb1 k ds
  | .bm m o es, C, hc, hl => .mkV fun env h hb => PrR.bind hb ((ev_pr o hc hl).v env h hb) fun x h1 hb1 => by
    split
    · exact PrR.bind hb1 (pm_args (evs_pr es hc hl) env h1 hb1) fun ds h2 hb2 => pr_bmF hb2 m x ds
    · trivial
  | .isi a ts, C, hc, hl => .mkV fun env h hb => PrR.bind hb ((ev_pr a hc hl).v env h hb) fun x h1 hb1 => by unfold isiF; split <;> first | exact Ext.refl | trivial
  | .attr o f, C, hc, hl => .mkV fun env h hb => PrR.bind hb ((ev_pr o hc hl).v env h hb) fun x h1 hb1 => by
    unfold attrF
    repeat' split
    all_goals first | trivial | exact pr_optR hb1 _
  | .idx a i, C, hc, hl => .mkV fun env h hb => PrR.bind hb ((ev_pr a hc hl).v env h hb) fun x h1 hb1 => PrR.bind hb1 ((ev_pr i hc hl).v env h1 hb1) fun y h2 hb2 => pr_idxF hb2 x y
  | .slc a lo hi, C, hc, hl => .mkV fun env h hb => PrR.bind hb ((ev_pr a hc hl).v env h hb) fun x h1 hb1 => PrR.bind hb1 (PrR.bind hb1 ((ev_pr lo hc hl).v env h1 hb1) fun _ _ _ => by split <;> first | exact Ext.refl | trivial) fun l h2 hb2 =>
    PrR.bind hb2 (PrR.bind hb2 ((ev_pr hi hc hl).v env h2 hb2) fun _ _ _ => by split <;> first | exact Ext.refl | trivial) fun u h3 hb3 => pr_slcV hb3 x l u
  | .rev a, C, hc, hl => .mkV fun env h hb => PrR.bind hb ((ev_pr a hc hl).v env h hb) fun x h1 hb1 => by
    unfold revF
    repeat' split
    all_goals first | exact Ext.refl | trivial | exact pr_lst hb1 _
  | .tup es, C, hc, hl => .mkV fun env h hb => PrR.bind hb (pm_args (evs_pr es hc hl) env h hb) fun ds h1 hb1 => pr_tup hb1 ds
  | .lst es, C, hc, hl => .mkV fun env h hb => PrR.bind hb (pm_args (evs_pr es hc hl) env h hb) fun ds h1 hb1 => pr_lst hb1 ds
  | .dnk, C, hc, hl => .mkV fun env h hb => Ext.push hb
  | .dnt, C, hc, hl => .mkV fun env h hb => Ext.push hb
  | .dlit ks vs, C, hc, hl => .mkV (pm_dlit (evs_pr ks hc hl) (evs_pr vs hc hl))
  | .lc own tg it ifs elt, C, hc, hl => .mkV fun env h hb => PrR.bind hb ((ev_pr it hc hl).i env h hb) fun w h1 hb1 => by
    have hb2 : C.base ≤ (h1 ++ [HV.lst []]).length := by simp; omega
    have ht := pr_turns (b := C.base) (w := w) (hp := fun s : Heap => s) (step := lcStep h1.length tg (wipe env own) (cTests (evt C ifs)) (ev C elt).v) (fun d s hs => ext_lc (own := own) (t := tg) (env := wipe env own) (pm_tests (evt_pr ifs hc hl)) (ev_pr elt hc hl).v hb1 d s hs) C.P.fuel 0 _ hb2
    split
    · rename_i s e
      rw [e] at ht
      exact (Ext.push hb1).trans ht
    · trivial
  | .lenset b a, C, hc, hl => .mkV fun env h hb => PrR.bind hb ((ev_pr a hc hl).v env h hb) fun x h1 hb1 => by
    cases b
    · show PrR C.base h1 (lensetF x h1)
      unfold lensetF
      repeat' split
      all_goals first | exact Ext.refl | trivial
    · show PrR C.base h1 (srtsetF x h1)
      unfold srtsetF
      repeat' split
      all_goals first | exact pr_lst hb1 _ | trivial
  | .mind a z, C, hc, hl => .mkV fun env h hb => PrR.bind hb (pm_args (C := C) (ms := [(ev C a).v, (ev C z).v]) (fun m hm => by
      rcases List.mem_cons.mp hm with rfl | hm
      · exact (ev_pr a hc hl).v
      · rcases List.mem_cons.mp hm with rfl | hm
        · exact (ev_pr z hc hl).v
        · cases hm) env h hb) fun ds h1 hb1 => pr_biF hb1 _ ds
  | .maxd a z, C, hc, hl => .mkV fun env h hb => PrR.bind hb (pm_args (C := C) (ms := [(ev C a).v, (ev C z).v]) (fun m hm => by
      rcases List.mem_cons.mp hm with rfl | hm
      · exact (ev_pr a hc hl).v
      · rcases List.mem_cons.mp hm with rfl | hm
        · exact (ev_pr z hc hl).v
        · cases hm) env h hb) fun ds h1 hb1 => pr_biF hb1 _ ds
  | .told a, C, hc, hl => .mkV fun env h hb => by
    unfold cTold
    split
    · exact pm_told _ ((ev_pr a (C := C.dn) hl (fun _ _ _ _ _ => trivial)).v env h hb)
    · trivial
  | .fst es, C, hc, hl => .mkV fun env h hb => PrR.bind hb (pm_args (evs_pr es hc hl) env h hb) fun ds h1 hb1 => pr_fstF hb1 ds []
  | .rng1 a, C, hc, hl => .mkI fun env h hb => PrR.bind hb ((ev_pr a hc hl).v env h hb) fun x h1 hb1 => by
    repeat' split
    all_goals first | exact Ext.refl | trivial
  | .rng2 a b, C, hc, hl => .mkI fun env h hb => PrR.bind hb ((ev_pr a hc hl).v env h hb) fun x h1 hb1 => PrR.bind hb1 ((ev_pr b hc hl).v env h1 hb1) fun y h2 hb2 => by
    repeat' split
    all_goals first | exact Ext.refl | trivial
  | .rng3 a b c, C, hc, hl => .mkI fun env h hb => PrR.bind hb ((ev_pr a hc hl).v env h hb) fun x h1 hb1 => PrR.bind hb1 ((ev_pr b hc hl).v env h1 hb1) fun y h2 hb2 => PrR.bind hb2 ((ev_pr c hc hl).v env h2 hb2) fun z h3 hb3 => by
    repeat' split
    all_goals first | exact Ext.refl | trivial
  | .enm a, C, hc, hl => .mkI fun env h hb => PrR.bind hb ((ev_pr a hc hl).v env h hb) fun x h1 hb1 => PrR.bind hb1 (by unfold iterR; split <;> first | exact Ext.refl | trivial) fun _ _ _ => Ext.refl
  | .zip a b, C, hc, hl => .mkI fun env h hb => PrR.bind hb ((ev_pr a hc hl).v env h hb) fun x h1 hb1 => PrR.bind hb1 ((ev_pr b hc hl).v env h1 hb1) fun y h2 hb2 => PrR.bind hb2 (by unfold iterR; split <;> first | exact Ext.refl | trivial) fun _ _ hb3 =>
    PrR.bind hb3 (by unfold iterR; split <;> first | exact Ext.refl | trivial) fun _ _ _ => Ext.refl
  | .enmr a, C, hc, hl => .mkI fun env h hb => PrR.bind hb ((ev_pr a hc hl).v env h hb) fun x h1 hb1 => by
    cases x <;> first | exact Ext.refl | trivial
  | .rvd a, C, hc, hl => .mkI fun env h hb => PrR.bind hb ((ev_pr a hc hl).v env h hb) fun x h1 hb1 => by
    unfold rvdR
    repeat' split
    all_goals first | exact Ext.refl | trivial
  | .items a, C, hc, hl => .mkI fun env h hb => PrR.bind hb ((ev_pr a hc hl).v env h hb) fun x h1 hb1 => by
    repeat' split
    all_goals first | exact Ext.refl | trivial
  | .vals a, C, hc, hl => .mkI fun env h hb => PrR.bind hb ((ev_pr a hc hl).v env h hb) fun x h1 hb1 => by
    repeat' split
    all_goals first | exact Ext.refl | trivial
theorem evs_pr : ∀ (es : List E) {C : Ctx}, CallPr C.call → CallPr C.low → ∀ m ∈ evs C es, Pm C.base m
  | [], C, hc, hl, m, hm => by cases hm
  | e :: es, C, hc, hl, m, hm => by
    rcases List.mem_cons.mp hm with rfl | hm
    · exact (ev_pr e hc hl).v
    · exact evs_pr es hc hl m hm
theorem evt_pr : ∀ (es : List E) {C : Ctx}, CallPr C.call → CallPr C.low → ∀ m ∈ evt C es, Pm C.base m
  | [], C, hc, hl, m, hm => by cases hm
  | e :: es, C, hc, hl, m, hm => by
    rcases List.mem_cons.mp hm with rfl | hm
    · exact (ev_pr e hc hl).t
    · exact evt_pr es hc hl m hm
end
end
end Y
set_option Elab.async false
set_option linter.all false
set_option maxRecDepth 100000
set_option maxHeartbeats 8000000
namespace Y
abbrev PmS (b : Nat) (m : Env → Heap → SRes) : Prop := ∀ env h, b ≤ h.length → PrS b h (m env h)
section
variable {C : Ctx}
theorem pr_nxO {b : Nat} {h : Heap} {env : Env} {o : Option Heap} (ho : ∀ h', o = some h' → Ext b h h') : PrS b h (nxO env o) := by
  unfold nxO
  split
  · exact ho _ rfl
  · trivial
theorem pm_seq {b : Nat} {x y : Env → Heap → SRes} (hx : PmS b x) (hy : PmS b y) : PmS b (seqS x y) := fun env h hb => by
  unfold seqS
  have h1 := hx env h hb
  cases e : x env h with
  | nx env' h' => rw [e] at h1; exact PrS.tr h1 (hy env' h' (Ext.le h1 hb))
  | ret d h' => rw [e] at h1; exact h1
  | brk d h' => rw [e] at h1; exact h1
  | cnt d h' => rw [e] at h1; exact h1
  | exc c ds h' => rw [e] at h1; exact h1
  | err => trivial
theorem pm_ite {b : Nat} {t : MT} {x y : Env → Heap → SRes} (ht : Pm b t) (hx : PmS b x) (hy : PmS b y) : PmS b (iteS t x y) := fun env h hb => by
  unfold iteS
  have h1 := ht env h hb
  cases e : t env h with
  | ok v h' =>
    rw [e] at h1
    cases v with
    | true => exact PrS.tr h1 (hx env h' (Ext.le h1 hb))
    | false => exact PrS.tr h1 (hy env h' (Ext.le h1 hb))
  | exc c ds h' => rw [e] at h1; exact h1
  | err => trivial
theorem pm_whl {b : Nat} {t : MT} {x : Env → Heap → SRes} (ht : Pm b t) (hx : PmS b x) : ∀ f, PmS b (loopW t x f)
  | 0 => fun env h hb => trivial
  | f + 1 => fun env h hb => by
    unfold loopW
    have h1 := ht env h hb
    cases e : t env h with
    | exc c ds h' => rw [e] at h1; exact h1
    | err => trivial
    | ok v h' =>
      rw [e] at h1
      cases v with
      | false => exact h1
      | true =>
        dsimp only
        have hb1 := Ext.le h1 hb
        have h2 := hx env h' hb1
        cases e2 : x env h' with
        | nx env2 h2' => rw [e2] at h2; exact PrS.tr (h1.trans h2) (pm_whl ht hx f env2 h2' (Ext.le h2 hb1))
        | cnt env2 h2' => rw [e2] at h2; exact PrS.tr (h1.trans h2) (pm_whl ht hx f env2 h2' (Ext.le h2 hb1))
        | brk env2 h2' => rw [e2] at h2; exact h1.trans h2
        | ret d h2' => rw [e2] at h2; exact h1.trans h2
        | exc c ds h2' => rw [e2] at h2; exact h1.trans h2
        | err => trivial
theorem pm_for {b : Nat} {tg : Tg} {it : MI} {x : Env → Heap → SRes} (hi : Pm b it) (hx : PmS b x) (fuel : Nat) : PmS b (loopF tg it x fuel) := fun env h hb => by
  unfold loopF
  have h1 := hi env h hb
  cases e : it env h with
  | exc c ds h' => rw [e] at h1; exact h1
  | err => trivial
  | ok w h' =>
    rw [e] at h1
    dsimp only
    have ht := pr_turns (b := b) (w := w) (hp := fun s : Env × Heap => s.2) (step := stepF tg x) (fun d s hs => by
      unfold stepF
      cases ea : assign tg d s.2 s.1 with
      | none => trivial
      | some env' =>
        dsimp only
        have h2 := hx env' s.2 hs
        cases e2 : x env' s.2 with
        | nx env2 h2' => rw [e2] at h2; exact h2
        | cnt env2 h2' => rw [e2] at h2; exact h2
        | brk env2 h2' => rw [e2] at h2; exact h2
        | ret d h2' => rw [e2] at h2; exact h2
        | exc c ds h2' => rw [e2] at h2; exact h2
        | err => trivial) fuel 0 (env, h') (Ext.le h1 hb)
    cases e3 : turns w (fun s : Env × Heap => s.2) (stepF tg x) fuel 0 (env, h') with
    | none => trivial
    | some v =>
      rw [e3] at ht
      cases v with
      | inl s => exact h1.trans ht
      | inr r => exact PrS.tr h1 ht
variable (hc : CallPr C.call) (hl : CallPr C.low)
include hc hl
mutual
theorem exec_pr : ∀ s : S, PmS C.base (execS C s)
  | .expr e => fun env h hb => PrS.of hb ((ev_pr e hc hl).v env h hb) fun _ _ _ => Ext.refl
  | .set i e => fun env h hb => PrS.of hb ((ev_pr e hc hl).v env h hb) fun _ _ _ => Ext.refl
  | .asg tg e => fun env h hb => PrS.of hb ((ev_pr e hc hl).v env h hb) fun _ _ _ => by split <;> first | exact Ext.refl | trivial
  | .par i j a b => fun env h hb => PrS.of hb ((ev_pr a hc hl).v env h hb) fun x h1 hb1 => PrS.of hb1 ((ev_pr b hc hl).v env h1 hb1) fun _ _ _ => Ext.refl
  | .seti o i e => fun env h hb => PrS.of hb ((ev_pr e hc hl).v env h hb) fun d h1 hb1 => PrS.of hb1 ((ev_pr o hc hl).v env h1 hb1) fun x h2 hb2 => PrS.of hb2 ((ev_pr i hc hl).v env h2 hb2) fun k h3 hb3 => pr_nxO fun h' e => pr_setItem hb3 e
  | .seta o f e => fun env h hb => PrS.of hb ((ev_pr e hc hl).v env h hb) fun d h1 hb1 => PrS.of hb1 ((ev_pr o hc hl).v env h1 hb1) fun x h2 hb2 => pr_nxO fun h' e => pr_setAttr hb2 e
  | .aug i op e => fun env h hb => by
    show PrS C.base h (match env[i]? with
      | some (some x) => ofRes (evalE C e env h) fun y h => ofRes (augop op x y h) fun d h => .nx (env.put i d) h
      | _ => .err)
    split
    · exact PrS.of hb ((ev_pr e hc hl).v env h hb) fun y h1 hb1 => PrS.of hb1 (pr_augop hb1 _ _ _) fun _ _ _ => Ext.refl
    · trivial
  | .auga o f op e => fun env h hb => PrS.of hb ((ev_pr o hc hl).v env h hb) fun x h1 hb1 => by
    repeat' split
    all_goals first | trivial | exact PrS.of hb1 ((ev_pr e hc hl).v env h1 hb1) fun y h2 hb2 => PrS.of hb2 (pr_augop hb2 _ _ _) fun d h3 hb3 => pr_nxO fun h' e => pr_setAttr hb3 e
  | .augi o i op e => fun env h hb => PrS.of hb ((ev_pr o hc hl).v env h hb) fun x h1 hb1 => PrS.of hb1 ((ev_pr i hc hl).v env h1 hb1) fun k h2 hb2 => PrS.of hb2 (pr_idxF hb2 x k) fun v h3 hb3 =>
    PrS.of hb3 ((ev_pr e hc hl).v env h3 hb3) fun y h4 hb4 => PrS.of hb4 (pr_augop hb4 _ _ _) fun d h5 hb5 => pr_nxO fun h' e => pr_setItem hb5 e
  | .ite t a b => pm_ite (ev_pr t hc hl).t (execs_pr a) (execs_pr b)
  | .whl t b => pm_whl (ev_pr t hc hl).t (execs_pr b) C.P.fuel
  | .for_ tg it b => pm_for (ev_pr it hc hl).i (execs_pr b) C.P.fuel
  | .ret e => fun env h hb => PrS.of hb ((ev_pr e hc hl).v env h hb) fun _ _ _ => Ext.refl
  | .retn => fun env h hb => Ext.refl
  | .raise c e => fun env h hb => PrS.of hb ((ev_pr e hc hl).v env h hb) fun d h1 hb1 => by
    unfold raiseF
    repeat' split
    all_goals first | exact Ext.refl | trivial
  | .brk => fun env h hb => Ext.refl
  | .cnt => fun env h hb => Ext.refl
  | .pass => fun env h hb => Ext.refl
  | .ndef i k cs => fun env h hb => by
    show PrS C.base h (match cap env cs with | some ds => .nx (env.put i (.clo k ds)) h | none => .err)
    split <;> first | exact Ext.refl | trivial
  | .deli o i => fun env h hb => PrS.of hb ((ev_pr o hc hl).v env h hb) fun x h1 hb1 => PrS.of hb1 ((ev_pr i hc hl).v env h1 hb1) fun k h2 hb2 => pr_nxO fun h' e => pr_delItem hb2 e
theorem execs_pr : ∀ ss : List S, PmS C.base (execSs C ss)
  | [] => fun env h hb => Ext.refl
  | s :: ss => pm_seq (exec_pr s) (execs_pr ss)
end
end
theorem compact_pr {b : Nat} {h h' : Heap} {d : D} (hb : b ≤ h.length) (e : Ext h.length h h') : PrR b h (compact h d h') := by
  unfold compact
  repeat' split
  all_goals first | exact Ext.refl | exact Ext.push hb | exact e.less hb
theorem fin_pr {b : Nat} {h h' : Heap} {d : D} {p : Bool} (hb : b ≤ h.length) (e : Ext (if p then h.length else b) h h') : PrR b h (fin p h d h') := by
  cases p with
  | true => exact compact_pr hb e
  | false => exact e
theorem body_pr {P : Prog} {call low : CallT} {tl : Bool} (hc : CallPr call) (hl : CallPr low) : CallPr (bodyF P call low tl) := fun b k ds h hb => by
  unfold bodyF
  cases hf : P.fns[k]? with
  | none => trivial
  | some f =>
    dsimp only
    split
    · have hb2 : (if f.pure = true then h.length else b) ≤ h.length := by split <;> omega
      have he := execs_pr (C := { P := P, call := call, base := if f.pure then h.length else b, low := low, tl := tl && f.lam }) hc hl f.body (ds.map some ++ List.replicate (f.ns - f.np) none) h hb2
      cases ex : execSs { P := P, call := call, base := if f.pure then h.length else b, low := low, tl := tl && f.lam } f.body (ds.map some ++ List.replicate (f.ns - f.np) none) h with
      | nx env h' => rw [ex] at he; exact fin_pr hb he
      | ret d h' => rw [ex] at he; exact fin_pr hb he
      | brk d h' => trivial
      | cnt d h' => trivial
      | err => trivial
      | exc c ds' h' =>
        rw [ex] at he
        dsimp only
        cases hp : f.pure with
        | true =>
          rw [if_pos rfl]
          split
          · exact Ext.refl
          · trivial
        | false =>
          rw [hp] at he
          rw [if_neg Bool.false_ne_true]
          exact he
    · trivial
theorem no_pr : CallPr noCall := fun _ _ _ _ _ => trivial
theorem call_pr (P : Prog) : ∀ n, CallPr (callF P n)
  | 0 => no_pr
  | 1 => body_pr no_pr no_pr
  | n + 2 => body_pr (call_pr P (n + 1)) (call_pr P n)
end Y
set_option Elab.async false
set_option linter.all false
set_option maxRecDepth 100000
set_option maxHeartbeats 8000000
namespace Y
open PySem PySem.Spec PyProof.Rows
open L2 (V Hp upd upd_same upd_ne ne_of ne_of_none RelV Vals SqL SqT Rd Cx Inv PE PT PTs PW PS PSs PA PG PGs PI TE TT TS TA TG TGs TI VK XK Ends EP FpOk Turn PIE)
variable {L : Lk} {Pg : Prog} {P : Program} {w : World} {K : PySem.W.Frag} {mg : Str → Option Value} {base : PySem.Heap}
theorem start_sr {N : List Str} {ds : List D} {vs : List V} {h : Heap} {r : List Addr} {H : Hp} (hr : HR L K r h H) (g : RelDs L K H r ds vs) : SR L K (ds.map some ++ List.replicate (N.length - vs.length) none) h r (L2.start N vs) H := by
  have hl := g.length
  refine ⟨hr, ?_, fun i d e => ?_⟩
  · unfold L2.start
    rw [List.length_append, List.length_append, List.length_map, List.length_map, List.length_replicate, List.length_replicate, hl]
  · unfold L2.start
    by_cases hi : i < ds.length
    · rw [List.getElem?_append_left (by rw [List.length_map]; exact hi), List.getElem?_map] at e
      cases ed : ds[i]? with
      | none => rw [ed] at e; cases e
      | some d' =>
        rw [ed] at e; cases e
        obtain ⟨v, ev, gv⟩ := g.get ed
        refine ⟨v, ?_, gv⟩
        rw [List.getElem?_append_left (by rw [List.length_map, ← hl]; exact hi), List.getElem?_map, ev]
        rfl
    · rw [List.getElem?_append_right (by rw [List.length_map]; omega), List.getElem?_replicate] at e
      split at e <;> cases e
/-- what is handed back -/
theorem fin_ok {p : Bool} {h h' : Heap} {d : D} {r r' : List Addr} {H H' : Hp} {v : V} (hr : HR L K r h H) (pr : r <+: r') (hr' : HR L K r' h' H') (g : RelD L K H' r' d v) (e : p = true → Ext h.length h h') {Q : VK}
    (q : match fin p h d h' with | .ok d h' => ∀ v H2 r', r <+: r' → Keep H H2 → HR L K r' h' H2 → RelD L K H2 r' d v → Q v H2 | .exc c ds h' => True | .err => False) (kp : Keep H H') : Q v H' := by
  cases p with
  | false => exact q v H' r' pr kp hr' g
  | true =>
    have e : Ext h.length h h' := e rfl
    have cut : HR L K r h H' := hr'.cutTo hr pr fun i hi => e.2 i hi
    unfold fin compact at q
    rw [if_pos rfl] at q
    split at q
    · rename_i d0 h0 hd
      split at hd
      · cases hd
        rename_i hu
        exact q v H' r (List.prefix_refl r) kp cut (g.under pr hr.len hu)
      · rename_i hu
        split at hd
        · rename_i a
          split at hd
          · rename_i ds ea
            split at hd
            · rename_i hus
              cases hd
              unfold RelD at g
              obtain ⟨p, rfl, ep⟩ := g
              unfold Heap.at at ea
              obtain ⟨xs, hp, gs⟩ := hr'.at_ a _ p ea ep
              have gs' := gs.under pr hr.len hus
              have hnp : p ∉ r := fun m => by
                obtain ⟨j, hj, ej⟩ := List.getElem_of_mem m
                have ej' : r'[j]? = some p := by
                  obtain ⟨t, rfl⟩ := pr
                  rw [List.getElem?_append_left hj, List.getElem?_eq_getElem hj, ej]
                have : j = a := by
                  obtain ⟨h1, e1⟩ := List.getElem?_eq_some_iff.mp ej'
                  obtain ⟨h2, e2⟩ := List.getElem?_eq_some_iff.mp ep
                  exact (List.getElem_inj hr'.nd).mp (e1.trans e2.symm)
                subst this
                unfold D.under at hu
                rw [hr.len] at hj
                exact hu (decide_eq_true hj)
              have push : HR L K (r ++ [p]) (h ++ [.lst ds]) H' := by
                refine ⟨by rw [List.length_append, List.length_append, hr.len]; rfl, ?_, fun i o q' e1 e2 => ?_, hr'.tab⟩
                · rw [List.nodup_append]
                  refine ⟨hr.nd, by simp, fun x hx y hy => ?_⟩
                  rintro rfl
                  rw [List.mem_singleton] at hy
                  subst hy
                  exact hnp hx
                · by_cases hi : i < h.length
                  · rw [List.getElem?_append_left hi] at e1
                    rw [List.getElem?_append_left (by rw [hr.len]; exact hi)] at e2
                    exact (cut.at_ i o q' e1 e2).mono (Keep.refl _) (List.prefix_append r [p]) rfl
                  · have hl : i < (h ++ [HV.lst ds]).length := (List.getElem?_eq_some_iff.mp e1).1
                    rw [List.length_append, List.length_singleton] at hl
                    have hi' : i = h.length := by omega
                    subst hi'
                    rw [List.getElem?_append_right (Nat.le_refl _), Nat.sub_self] at e1
                    rw [← hr.len, List.getElem?_append_right (Nat.le_refl _), Nat.sub_self] at e2
                    simp at e1 e2
                    subst e1 e2
                    exact ⟨xs, hp, gs'.mono (Keep.refl _) (List.prefix_append r [p])⟩
              refine q (.ref p) H' (r ++ [p]) (List.prefix_append r [p]) kp push ?_
              unfold RelD
              refine ⟨p, rfl, ?_⟩
              rw [← hr.len, List.getElem?_append_right (Nat.le_refl _), Nat.sub_self]
              rfl
            · cases hd
              exact q v H' r' pr kp hr' g
          · cases hd
            exact q v H' r' pr kp hr' g
        · cases hd
          exact q v H' r' pr kp hr' g
    · rename_i hd
      exfalso
      repeat' split at hd
      all_goals cases hd
    · exact q.elim
/-- calls that do what the interpreter's do -/
def CallOk (L : Lk) (P : Program) (w : World) (K : PySem.W.Frag) (mg : Str → Option Value) (base : PySem.Heap) (m : Nat) (call : CallT) : Prop :=
  (∀ (k : Nat) (x : Str), L.nm.fn[k]? = some x → L2.FnOk P w K mg base (L2.CX P w) (lvl m) (L.fa k) (L.fd k) (L.ps k) (spF L K call k)) ∧ ∀ b k ds h, call b k ds h = .err ∨ ds.length = (L.ps k).length
theorem CallOk.no {m : Nat} : CallOk L P w K mg base m noCall :=
  ⟨fun k x hk => ⟨fun vs H Q E ⟨b, h, r, ds, _, _, e, _⟩ => e, fun A outer s H args us vs Q E _ _ _ _ ⟨b, h, r, ds, _, _, _, q⟩ => q.elim⟩, fun _ _ _ _ => .inl rfl⟩
theorem good_of {m : Nat} {call low : CallT} {tl : Bool} {N : List Str} {qual : Str} {st : Stmt} {f : Addr} {cdv : Value} {A : Around} {outer : List PySem.Env} {s : Shared} {H : Hp} {E : XK} {b : Nat} (lk : Link L Pg P w K mg base) (hN : N.Nodup)
    (hcode : tl = true → CodeT L mg base (qual ++ ".<locals>." ++ "<lambda>") cdv ∧ ToldOk L Pg K mg) (hr : L2.Room (lvl m + 1) (A.deeper (envOfC qual (L2.defScope st) s.heap.objs.size f cdv))) (hc : CallOk L P w K mg base m call) (hlow : tl = true → ∃ m', lvl m' + 3 ≤ lvl m + 1 ∧ CallOk L P w K mg base m' low) :
    GoodB L { P := Pg, call := call, base := b, low := low, tl := tl } m E (L2.cxOf (L2.CX P w) P w K mg base N qual (L2.defScope st) f cdv A outer s H E) :=
  ⟨⟨rfl, hr, hN, L2.takes_of rfl rfl rfl rfl, lk, hc.1, hc.2, fun ht => by
    obtain ⟨m', h1, h2⟩ := hlow ht
    exact ⟨m', hr.mono h1, h2.1, h2.2⟩, hcode⟩, fun _ => rfl, L2.passes_of rfl⟩
/-- a def as the program's top left it -/
def FunT (L : Lk) (Pg : Prog) (K : PySem.W.Frag) (mg : Str → Option Value) (base : PySem.Heap) (lam : Bool) (x qual : Str) (st : Stmt) (fa : Addr) (fd : FuncData) : Prop :=
  ∃ (oc : Value) (od : Option Addr) (kV doc pm : Value) (an : Option Addr) (cdv ct : Value) (osl : Array (Option Value)), fd = PySem.W.fnOf x qual (L2.defArgs st) (L2.defBody st) (L2.defScope st) .none kV doc pm an cdv ct ∧
    K.lookup fa = some ⟨oc, od, .func fd, osl⟩ ∧ PySem.W.codeIn K cdv qual = true ∧ (lam = true → CodeT L mg base (qual ++ ".<locals>." ++ "<lambda>") cdv ∧ ToldOk L Pg K mg)
/-- def k of the table and def k of the program -/
def FnLk (L : Lk) (Pg : Prog) (K : PySem.W.Frag) (mg : Str → Option Value) (base : PySem.Heap) (k : Nat) : Prop :=
  ∃ (f : Fn), Pg.fns[k]? = some f ∧ (L.ps k).length = f.np ∧ ((f.body = [.brk]) ∨ ∃ (x qual : Str) (st : Stmt) (N : List Str), FunT L Pg K mg base f.lam x qual st (L.fa k) (L.fd k) ∧ L2.FnScope N (L.ps k) (L2.defScope st) ∧ chkSs L.nm N (L2.defScope st) f.body (L2.defBody st) = true ∧ N.length = f.ns)
theorem body_len (fl : ∀ k, k < Pg.fns.length → (L.ps k).length = (Pg.fns[k]?.map (·.np)).getD 0) {call low : CallT} {tl : Bool} : ∀ b k ds h, bodyF Pg call low tl b k ds h = .err ∨ ds.length = (L.ps k).length := fun b k ds h => by
  unfold bodyF
  cases hf : Pg.fns[k]? with
  | none => exact .inl rfl
  | some f =>
    dsimp only
    have h1 := fl k (List.getElem?_eq_some_iff.mp hf).1
    rw [hf] at h1
    split
    · rename_i e; exact .inr (e.trans h1.symm)
    · exact .inl rfl
theorem body_ok {m : Nat} {call low : CallT} {tl : Bool} (lk : Link L Pg P w K mg base) (fl : ∀ (k : Nat) (x : Str), L.nm.fn[k]? = some x → FnLk L Pg K mg base k) (fn : ∀ k, k < Pg.fns.length → (L.ps k).length = (Pg.fns[k]?.map (·.np)).getD 0)
    (hc : CallOk L P w K mg base m call) (hlow : tl = true → ∃ m', lvl m' + 3 ≤ lvl m + 1 ∧ CallOk L P w K mg base m' low) (pc : CallPr call) (pl : CallPr low) : CallOk L P w K mg base (m + 1) (bodyF Pg call low tl) := by
  refine ⟨fun k x hk => ?_, body_len fn⟩
  obtain ⟨f, hf, h2, hb | ⟨x', qual, st, N, F, S, hchk, h1⟩⟩ := fl k x hk
  · refine ⟨fun vs H Q E ⟨b, h, r, ds, _, _, e, _⟩ => e, fun A outer s H args us vs Q E _ _ _ _ ⟨b, h, r, ds, _, _, _, q⟩ => ?_⟩
    unfold bodyF at q
    rw [hf] at q
    dsimp only at q
    rw [hb] at q
    split at q
    · rename_i e
      split at e
      · cases e
      · cases e
    · rename_i e
      split at e
      · cases e
      · cases e
    · exact q.elim
  · obtain ⟨oc, od, kV, doc, pm, an, cdv, ct, osl, hfd, lkf, hcd, hcode⟩ := F
    rw [hfd]
    rw [hfd] at lkf
    refine L2.fn_of (k := lvl m + 1) lkf hcd S (fun vs H Q E ⟨b, h, r, ds, _, _, e, _⟩ => e) fun A outer s H vs Q E hr ⟨b, h, r, ds, hh, gs, hlen, q⟩ => ?_
    have hds : ds.length = f.np := by rw [gs.length, hlen, h2]
    have gB := good_of (b := if f.pure then h.length else b) (f := L.fa k) (cdv := cdv) (A := A) (outer := outer) (s := s) (H := H) (E := E) lk S.nd (fun e => hcode (Bool.and_eq_true_iff.mp e).2) hr hc (tl := tl && f.lam) (low := low) (fun e => hlow (Bool.and_eq_true_iff.mp e).1)
    refine ⟨_, execSs_ok f.body gB hchk, ds.map some ++ List.replicate (N.length - vs.length) none, h, r, start_sr hh gs, ?_⟩
    unfold bodyF at q
    rw [hf] at q
    dsimp only at q
    rw [if_pos hds] at q
    rw [show N.length - vs.length = f.ns - f.np by rw [h1, hlen, h2]]
    have hpr : f.pure = true → PrS h.length h (execSs { P := Pg, call := call, base := if f.pure then h.length else b, low := low, tl := tl && f.lam } f.body (ds.map some ++ List.replicate (f.ns - f.np) none) h) := fun hp => by
      have hpr := execs_pr (C := { P := Pg, call := call, base := if f.pure then h.length else b, low := low, tl := tl && f.lam }) pc pl f.body (ds.map some ++ List.replicate (f.ns - f.np) none) h
      rw [hp] at hpr ⊢
      exact hpr (Nat.le_refl _)
    cases ex : execSs { P := Pg, call := call, base := if f.pure then h.length else b, low := low, tl := tl && f.lam } f.body (ds.map some ++ List.replicate (f.ns - f.np) none) h with
    | nx env' h' =>
      rw [ex] at q hpr
      exact fun σ' H' r' pr kp s' => fin_ok (p := f.pure) hh pr s'.hr (mk_non (X := L2.cxOf (L2.CX P w) P w K mg base N qual (L2.defScope st) (L.fa k) cdv A outer s H E)) hpr (by
        dsimp only at q
        split at q
        · first | exact q | (rename_i e; rw [e]; exact q)
        · first | trivial | (rename_i e; rw [e]; trivial)
        · exact q.elim) kp
    | ret d h' =>
      rw [ex] at q hpr
      exact fun v H' r' pr kp hr' g => fin_ok (p := f.pure) hh pr hr' g hpr (by
        dsimp only at q
        split at q
        · first | exact q | (rename_i e; rw [e]; exact q)
        · first | trivial | (rename_i e; rw [e]; trivial)
        · exact q.elim) kp
    | brk env' h' => rw [ex] at q; exact q.elim
    | cnt env' h' => rw [ex] at q; exact q.elim
    | err => rw [ex] at q; exact q.elim
    | exc c ds' h' =>
      rw [ex] at q hpr
      intro x H' r' pr kp hr' g
      dsimp only at q
      cases hp : f.pure with
      | false =>
        rw [hp, if_neg Bool.false_ne_true] at q
        exact q x H' r' pr kp hr' g
      | true =>
        rw [hp, if_pos rfl] at q
        split at q
        · rename_i c2 d2 h2' e2
          split at e2 <;> cases e2
        · rename_i c2 d2 h2' e2
          split at e2
          · rename_i hu
            cases e2
            have e3 : Ext h.length h h' := hpr hp
            have cut : HR L K r h H' := hr'.cutTo hh pr fun i hi => e3.2 i hi
            obtain ⟨d, v, rfl, gx, gv⟩ := g
            unfold D.unders at hu
            obtain ⟨u1, _⟩ := Bool.and_eq_true_iff.mp hu
            exact q x H' r (List.prefix_refl r) kp cut ⟨d, v, rfl, gx, gv.under pr hh.len u1⟩
          · cases e2
        · exact q.elim
theorem fn_all (lk : Link L Pg P w K mg base) (fl : ∀ (k : Nat) (x : Str), L.nm.fn[k]? = some x → FnLk L Pg K mg base k) (fn : ∀ k, k < Pg.fns.length → (L.ps k).length = (Pg.fns[k]?.map (·.np)).getD 0) : ∀ n, CallOk L P w K mg base n (callF Pg n)
  | 0 => CallOk.no
  | 1 => body_ok lk fl fn CallOk.no (fun e => by cases e) no_pr no_pr
  | n + 2 => body_ok lk fl fn (fn_all lk fl fn (n + 1)) (fun _ => ⟨n, by unfold lvl; omega, fn_all lk fl fn n⟩) (call_pr Pg (n + 1)) (call_pr Pg n)
end Y
set_option Elab.async false
set_option linter.all false
set_option maxRecDepth 100000
set_option maxHeartbeats 4000000
namespace Y
open PySem PySem.Spec PyProof.Rows
open L2 (V Hp upd upd_same upd_ne ne_of ne_of_none RelV Vals SqL SqT Rd Cx Inv PE PT PTs PW PS PSs PA PG PGs PI TE TT TS TA TG TGs TI VK XK WX Ends EP Takes Room)
theorem fm_congr {α β : Type} {f g : α → Option β} : ∀ {l : List α}, (∀ x ∈ l, f x = g x) → l.filterMap f = l.filterMap g
  | [], _ => rfl
  | x :: l, h => by rw [List.filterMap_cons, List.filterMap_cons, h x List.mem_cons_self, fm_congr fun y hy => h y (List.mem_cons_of_mem _ hy)]
theorem zip_look : ∀ {ps : List Str} {us : List Value}, ps.Nodup → us.length = ps.length → ps.filterMap (fun n => ((ps.zip us).lookup n).map (n, ·)) = ps.zip us
  | [], us, _, _ => by simp
  | p :: ps, [], _, h => by cases h
  | p :: ps, u :: us, nd, h => by
    obtain ⟨n1, n2⟩ := List.nodup_cons.mp nd
    rw [List.zip_cons_cons, List.filterMap_cons]
    have e : ((p, u) :: ps.zip us).lookup p = some u := by simp [List.lookup]
    rw [e]
    simp only [Option.map_some]
    congr 1
    have ih := zip_look n2 (by simpa using h)
    have ef : ps.filterMap (fun n => (((p, u) :: ps.zip us).lookup n).map (n, ·)) = ps.filterMap (fun n => ((ps.zip us).lookup n).map (n, ·)) := by
      refine fm_congr fun x hx => ?_
      have hb : (x == p) = false := by
        rw [beq_eq_false_iff_ne]
        rintro rfl
        exact n1 hx
      rw [List.lookup_cons, hb]
    rw [ef, ih]
theorem zip_some : ∀ {ps : List Str} {us : List Value} {x : Str}, x ∈ ps → us.length = ps.length → ((ps.zip us).lookup x).isSome = true
  | p :: ps, [], x, _, h => by cases h
  | p :: ps, u :: us, x, hx, h => by
    rw [List.zip_cons_cons, List.lookup_cons]
    cases e : x == p with
    | true => rfl
    | false =>
      rcases List.mem_cons.mp hx with rfl | hx
      · rw [beq_self_eq_true] at e; cases e
      · exact zip_some hx (by simpa using h)
theorem binds_plain {fd : FuncData} {as : List Arg} {ps : List Str} {us : List Value} (h1 : fd.params = { posonlyargs := [], args := as, vararg := none, kwonlyargs := [], kw_defaults := [], kwarg := none, defaults := [] }) (h2 : as.map (·.arg) = ps) (nd : ps.Nodup) (h3 : fd.defaults = .none) (hl : us.length = ps.length) :
    bindArgs fd ⟨us, []⟩ = pure (ps.zip us) := by
  unfold bindArgs
  rw [h1, h3]
  have hg : ¬ (us.length > ps.length) := by omega
  have hm : (ps.filter fun n => ((ps.zip us).lookup n).isNone) = [] := by
    rw [List.filter_eq_nil_iff]
    intro x hx
    have := zip_some hx hl
    cases e : (ps.zip us).lookup x with
    | none => rw [e] at this; cases this
    | some v => simp
  simp [h2, seqItems?, notAStandIn, hl, hm, zip_look nd hl]
structure DI where
  x : Str
  st : Stmt
  N : List Str
  ps : List Str
  lam : Bool
  /-- a method's class -/
  cl : Option Str
def DI.at_ (d : DI) : Str × Option Str := match d.cl with | none => (d.x, none) | some c => (c, some d.x)
def DI.qual (d : DI) : Str := match d.cl with | none => d.x | some c => c ++ ("." : Str) ++ d.x
/-- the name that is called: a method has none -/
def DI.nm (d : DI) : Str := match d.cl with | none => d.x | some _ => Str.empty
/-- a class that is made: its name, its __init__, its methods -/
structure CI where
  x : Str
  ini : Nat
  mts : List (Nat × Nat)
structure XI where
  x : Str
  attr : Str
  st : Stmt
  sf : Str
  at' : Str
structure LawD where
  P : Prog
  fns : List DI
  cns : List Str
  xls : List XI
  /-- the clauses of the teller -/
  tcs : List Tcl
  nms : List (Option (List Nat))
  cls : List CI := []
  mns : List Str := []
  ans : List Str := []
  /-- methods called through their class -/
  cks : List (Str × Str × Nat) := []
def LawD.nm (D : LawD) : Nm := { ck := D.cks, cn := D.cns, fn := D.fns.map DI.nm, cl := (D.xls.map fun _ => Str.empty) ++ D.cls.map (·.x), xl := D.xls.map (·.x), an := D.ans, mn := D.mns }
/-- own class c -/
def LawD.oc (D : LawD) (c : Nat) : Option CI := if c < D.xls.length then none else D.cls[c - D.xls.length]?
def LawD.iniF (D : LawD) (c : Nat) : Option Nat := (D.oc c).map (·.ini)
def LawD.mthF (D : LawD) (c m : Nat) : Option Nat := (D.oc c).bind fun d => d.mts.lookup m
def LawD.cx (D : LawD) (c : Nat) : Str := match D.xls[c]? with | some d => d.x | none => ((D.oc c).map (·.x)).getD Str.empty
def fdOf (K : PySem.W.Frag) (p : Str × Option Str) : FuncData := match K.lookup (He.fAd K p) with
  | some ⟨_, _, .func fd, _⟩ => fd
  | _ => default
def DI.def_ (d : DI) : He.DefD := { at_ := d.at_, name := d.x, qual := d.qual, params := L2.defArgs d.st, body := L2.defBody d.st, scope := L2.defScope d.st }
def XI.def_ (d : XI) : He.DefD := { at_ := (d.x, some "__init__"), name := "__init__", qual := d.x ++ ("." : Str) ++ ("__init__" : Str), params := L2.defArgs d.st, body := L2.defBody d.st, scope := L2.defScope d.st }
def LawD.defs (D : LawD) : List He.DefD := D.fns.map DI.def_ ++ D.xls.map XI.def_
/-- the defs that make lambdas -/
def LawD.tf (D : LawD) : List He.Defn := (D.fns.filter fun d => d.lam && d.cl.isNone).map fun d => (d.x, none)
def lamQ (x : Str) : Str := x ++ ".<locals>." ++ "<lambda>"
def LawD.lk (D : LawD) (K : PySem.W.Frag) : Lk where
  nm := D.nm
  fd := fun k => fdOf K ((D.fns[k]?.map DI.at_).getD (Str.empty, none))
  ps := fun k => (D.fns[k]?.map (·.ps)).getD []
  fa := fun k => He.fAd K ((D.fns[k]?.map DI.at_).getD (Str.empty, none))
  ca := fun c => He.ga K (D.cx c)
  xn := fun c => (D.xls[c]?.map (·.attr)).getD Str.empty
  own := fun c => (D.oc c).isSome
  tb := D.tf.map fun p => ((He.cT K p).2, lamQ p.1)
def argsB (ps : List Str) : Arguments → Bool
  | ⟨[], as, none, [], [], none, []⟩ => decide (as.map (·.arg) = ps) && decide ps.Nodup
  | _ => false
theorem argsB_ok {ps : List Str} {a : Arguments} (h : argsB ps a = true) : ∃ as, a = { posonlyargs := [], args := as, vararg := none, kwonlyargs := [], kw_defaults := [], kwarg := none, defaults := [] } ∧ as.map (·.arg) = ps ∧ ps.Nodup := by
  unfold argsB at h
  split at h
  · simp only [Bool.and_eq_true, decide_eq_true_eq] at h
    exact ⟨_, rfl, h.1, h.2⟩
  · cases h
def scopeB (N ps : List Str) (sc : Scope) : Bool := decide (sc.kind = .function) && !sc.isCoroutine && !sc.isGenerator && decide N.Nodup && decide (N.take ps.length = ps) &&
  ps.all (fun x => decide (sc.names.lookup x = some .local) || decide (sc.names.lookup x = some .cell)) && sc.names.all fun y => !decide (y.2 = .free)
theorem scopeB_ok {N ps : List Str} {sc : Scope} (h : scopeB N ps sc = true) : L2.FnScope N ps sc := by
  unfold scopeB at h
  simp only [Bool.and_eq_true, Bool.or_eq_true, Bool.not_eq_true', decide_eq_true_eq, List.all_eq_true, decide_eq_false_iff_not] at h
  obtain ⟨⟨⟨⟨⟨⟨h1, h2⟩, h3⟩, h4⟩, h5⟩, h6⟩, h7⟩ := h
  exact ⟨h1, h2, h3, h4, h5, h6, h7⟩
def isBrk : List S → Bool | [.brk] => true | _ => false
/-- def k of the table against the text -/
def fnB (D : LawD) (k : Nat) : Bool := match D.P.fns[k]?, D.fns[k]? with
  | some f, some d => decide (d.ps.length = f.np) && argsB d.ps (L2.defArgs d.st) && (isBrk f.body || (scopeB d.N d.ps (L2.defScope d.st) && chkSs D.nm d.N (L2.defScope d.st) f.body (L2.defBody d.st) && decide (d.N.length = f.ns) && (!f.lam || (d.lam && decide (d.cl = none)))))
  | _, _ => false
def xiB (D : LawD) (c : Nat) : Bool := match D.xls[c]? with
  | some d => argsB [d.sf, d.at'] (L2.defArgs d.st) && scopeB [d.sf, d.at'] [d.sf, d.at'] (L2.defScope d.st) && initOk (D.P.xtup c) d.attr d.sf d.at' (L2.defBody d.st) && visB (L2.defScope d.st) d.sf && visB (L2.defScope d.st) d.at' &&
    (!D.P.xtup c || glB (L2.defScope d.st) "tuple") && decide (d.x ≠ Str.empty)
  | none => false
/-- the teller's text -/
def tellB (cs : List Tcl) (d : DI) : Bool := match L2.defBody d.st, d.ps with
  | [.Try [.Return (some (.Tuple [.Constant (.str vl) _ _, .Call (.Name a _) [] [] _] _ _)) _] (h0 :: hds) [] [] _], [b] => (match h0 with
    | .ExceptHandler _ (some n) _ _ => decide (vl = "value") && decide (a = b) && scopeB d.N [b] (L2.defScope d.st) && decide (d.N[0]? = some b) && visB (L2.defScope d.st) b && decide (d.N[1]? = some n) && decide ((L2.defScope d.st).names.lookup n = some .local) && visB (L2.defScope d.st) n && isHds n cs (h0 :: hds) && cs.all fun c => glB (L2.defScope d.st) c.x
    | _ => false)
  | _, _ => false
def asciiB (s : List Nat) : Bool := decide (s.length ≤ 1000) && s.all (· < 128)
/-- a name that a told error gets: some clause's -/
def namesB (D : LawD) : Bool := (List.range D.nms.length).all fun c => match D.nms[c]? with
  | some (some nm) => asciiB nm && D.tcs.any (fun t => (match D.xls[c]? with | some d => decide (t.x = d.x) && decide (t.lit = toS nm) && decide (t.attr = d.attr) | none => false))
  | _ => true
/-- own classes' names -/
def ownB (D : LawD) : Bool := decide D.ans.Nodup && decide (Str.empty ∉ D.ans) && (D.mns.all fun m => decide (m ≠ Str.empty) && decide (m ∉ D.ans)) && (D.cls.all fun d => decide (d.ini < D.fns.length) && d.mts.all fun q => decide (q.2 < D.fns.length))
def textB (D : LawD) : Bool := ownB D && decide (D.P.fns.length = D.fns.length) && (List.range D.fns.length).all (fnB D) && (List.range D.xls.length).all (xiB D) && decide (D.P.consts.length = D.cns.length) &&
  (D.tf.isEmpty || ((D.fns.any fun d => decide (d.x = ("_law_told" : Str)) && decide (d.cl = none) && tellB D.tcs d) && namesB D))
mutual
/-- a constant of the module -/
def conK (K : PySem.W.Frag) : D → Value → Bool
  | .non, .none => true
  | .bl b, .bool c => b == c
  | .int i, .int j _ => decide (i = j)
  | .str s, .str z _ => decide (z = toS s) && asciiB s
  | .tup ds, .ref a => (match K.lookup a with
    | some ⟨.type c, _, .seq its _, _⟩ => decide (c = "tuple") && decide (its.size ≤ 1000) && conKs K ds its.toList
    | _ => false)
  | _, _ => false
def conKs (K : PySem.W.Frag) : List D → List Value → Bool
  | [], [] => true
  | d :: ds, v :: vs => conK K d v && conKs K ds vs
  | _, _ => false
end
def isRef (K : PySem.W.Frag) (x : Str) : Bool := He.eqO (PySem.W.nsIn K mainGlobals x) (some (some (.ref (He.ga K x))))
def xlK (K : PySem.W.Frag) (d : XI) : Bool := isRef K d.x && exB K (He.ga K d.x) && decide (PySem.W.takerIn K (He.ga K d.x) d.attr = some none) && He.eqO (PySem.W.findIn K (.ref (He.ga K d.x)) "__init__") (some (some (.ref (He.ma K (He.ga K d.x) "__init__")))) &&
  decide (PySem.W.typeIn K (.ref (He.ma K (He.ga K d.x) "__init__")) = some (.type "function"))
def tcK (K : PySem.W.Frag) (t : Tcl) : Bool := isRef K t.x && L2.xfB K (He.ga K t.x) && He.eqO (PySem.W.findIn K (.ref (He.ga K t.x)) t.attr) (some none)
def clK (D : LawD) (K : PySem.W.Frag) (d : CI) : Bool := isRef K d.x && (He.Fa.cls d.x).ok K && (He.Fa.mkr d.x).ok K && (match D.fns[d.ini]? with | some f => decide (He.ma K (He.ga K d.x) "__init__" = He.fAd K f.at_) | none => false) && (D.ans.all fun f => (He.Fa.noat d.x f).ok K) &&
  d.mts.all fun q => (match D.mns[q.1]?, D.fns[q.2]? with | some m, some f => (He.Fa.meth d.x m).ok K && decide (He.ma K (He.ga K d.x) m = He.fAd K f.at_) | _, _ => false)
def ckK (D : LawD) (K : PySem.W.Frag) (q : Str × Str × Nat) : Bool := isRef K q.1 && PySem.W.readsIn K (He.ga K q.1) (.type "type") && He.eqO (PySem.W.specialIn K (.ref (He.ga K q.1)) "__getattribute__") (some (some (.builtin "type.__getattribute__"))) &&
  (match D.fns[q.2.2]?, PySem.W.findCls K (.ref (He.ga K q.1)) (.type "type") q.2.1 with | some f, some (.val (.ref a)) => decide (a = He.fAd K f.at_) | _, _ => false)
def heapB (D : LawD) (K : PySem.W.Frag) : Bool := (D.cks.all (ckK D K)) && (D.cls.all (clK D K)) && (D.fns.all fun d => d.cl.isSome || isRef K d.x) && (blts.all fun x => He.eqO (PySem.W.nsIn K mainGlobals x) (some none)) && (D.xls.all (xlK K)) && (D.tcs.all (tcK K)) &&
  (D.tcs.all fun c => D.tcs.all fun c' => decide (PySem.W.exmOne K (.ref (He.ga K c.x)) (.ref (He.ga K c'.x)) = some (decide ((c', He.ga K c'.x) = (c, He.ga K c.x))))) &&
  ((D.cns.zip D.P.consts).all fun q => match PySem.W.nsIn K mainGlobals q.1 with | some (some u) => conK K q.2 u | _ => false) && decide ((D.tf.map fun p => (He.cT K p).2).Nodup)
end Y
set_option Elab.async false
set_option linter.all false
set_option maxRecDepth 100000
set_option maxHeartbeats 4000000
namespace Y
open PySem PySem.Spec PyProof.Rows
open L2 (V Hp upd upd_same upd_ne ne_of ne_of_none RelV Vals SqL SqT Rd Cx Inv PE PT PTs PW PS PSs PA PG PGs PI TE TT TS TA TG TGs TI VK XK WX Ends EP Takes Room)
theorem nodup_inj {α β : Type} {f : α → β} : ∀ {l : List α}, (l.map f).Nodup → ∀ {a b : α}, a ∈ l → b ∈ l → f a = f b → a = b
  | [], _, _, _, h, _, _ => by cases h
  | x :: l, nd, a, b, ha, hb, e => by
    rw [List.map_cons] at nd
    obtain ⟨n1, n2⟩ := List.nodup_cons.mp nd
    rcases List.mem_cons.mp ha with e1 | ha1
    · rcases List.mem_cons.mp hb with e2 | hb1
      · rw [e1, e2]
      · exact absurd (by rw [← e1, e]; exact List.mem_map_of_mem hb1) n1
    · rcases List.mem_cons.mp hb with e2 | hb1
      · exact absurd (by rw [← e2, ← e]; exact List.mem_map_of_mem ha1) n1
      · exact nodup_inj n2 ha1 hb1 e
theorem ascii_ok {s : List Nat} (h : asciiB s = true) : okS s := by
  unfold asciiB at h
  simp only [Bool.and_eq_true, decide_eq_true_eq, List.all_eq_true] at h
  exact ⟨by rw [szl]; omega, h.2⟩
section
variable {L : Lk} {K : PySem.W.Frag}
mutual
theorem conK_ok : ∀ {d : D} {u : Value}, conK K d u = true → ∃ v, RelV v u ∧ ∀ H r, RelD L K H r d v
  | .non, u, h => by
    cases u <;> first | (exact absurd h Bool.false_ne_true) | skip
    exact ⟨.non, rfl, fun H r => by unfold RelD; rfl⟩
  | .bl b, u, h => by
    cases u <;> first | (exact absurd h Bool.false_ne_true) | skip
    unfold conK at h
    obtain rfl := eq_of_beq h
    exact ⟨.bl b, rfl, fun H r => by unfold RelD; rfl⟩
  | .int i, u, h => by
    cases u <;> first | (exact absurd h Bool.false_ne_true) | skip
    unfold conK at h
    obtain rfl := of_decide_eq_true h
    exact ⟨.int i, ⟨_, rfl⟩, fun H r => by unfold RelD; rfl⟩
  | .str s, u, h => by
    cases u <;> first | (exact absurd h Bool.false_ne_true) | skip
    unfold conK at h
    simp only [Bool.and_eq_true, decide_eq_true_eq] at h
    obtain ⟨rfl, h2⟩ := h
    exact ⟨.str (toS s), ⟨_, rfl⟩, fun H r => by unfold RelD; exact ⟨rfl, ascii_ok h2⟩⟩
  | .tup ds, u, h => by
    cases u <;> first | (exact absurd h Bool.false_ne_true) | skip
    rename_i a
    unfold conK at h
    split at h
    · rename_i c od its n osl hk
      simp only [Bool.and_eq_true, decide_eq_true_eq] at h
      obtain ⟨⟨rfl, h2⟩, h3⟩ := h
      obtain ⟨vs, r, g⟩ := conKs_ok h3
      exact ⟨.ref a, rfl, fun H r' => by
        unfold RelD
        exact ⟨a, vs, rfl, .inr ⟨_, its, n, hk, rfl, rfl, by rw [szl]; omega, r⟩, g H r'⟩⟩
    · cases h
  | .ref _, u, h => by cases u <;> exact absurd h Bool.false_ne_true
  | .fn _, u, h => by cases u <;> exact absurd h Bool.false_ne_true
  | .clo _ _, u, h => by cases u <;> exact absurd h Bool.false_ne_true
  | .frz _, u, h => by cases u <;> exact absurd h Bool.false_ne_true
theorem conKs_ok : ∀ {ds : List D} {us : List Value}, conKs K ds us = true → ∃ vs, Vals vs us ∧ ∀ H r, RelDs L K H r ds vs
  | [], [], _ => ⟨[], .nil, fun H r => by unfold RelDs; rfl⟩
  | [], _ :: _, h => by unfold conKs at h; cases h
  | _ :: _, [], h => by unfold conKs at h; cases h
  | d :: ds, u :: us, h => by
    unfold conKs at h
    obtain ⟨h1, h2⟩ := Bool.and_eq_true_iff.mp h
    obtain ⟨v, r, g⟩ := conK_ok h1
    obtain ⟨vs, rs, gs⟩ := conKs_ok h2
    exact ⟨v :: vs, .cons r rs, fun H r' => by unfold RelDs; exact ⟨v, vs, rfl, g H r', gs H r'⟩⟩
end
end
theorem fdOf_eq {K : PySem.W.Frag} {x : Str × Option Str} {oc : Value} {od : Option Addr} {fd : FuncData} {osl : Array (Option Value)} (h : K.lookup (He.fAd K x) = some ⟨oc, od, .func fd, osl⟩) : fdOf K x = fd := by
  unfold fdOf
  rw [h]
theorem funD_plain {K : PySem.W.Frag} {x qual : Str} {params : Arguments} {body : List Stmt} {scope : Scope} {f : Addr} {fd : FuncData} (F : L2.FunD K x qual params body scope [] [] f fd) :
    ∃ (oc : Value) (od : Option Addr) (kV doc pm : Value) (an : Option Addr) (cdv ct : Value) (osl : Array (Option Value)), fd = PySem.W.fnOf x qual params body scope .none kV doc pm an cdv ct ∧ K.lookup f = some ⟨oc, od, .func fd, osl⟩ ∧ PySem.W.codeIn K cdv qual = true := by
  obtain ⟨oc, od, dV, kV, doc, pm, an, cdv, ct, osl, rfl, lk, hcd, hD, _⟩ := F.ex
  rcases hD with ⟨_, rfl⟩ | ⟨e, _⟩
  · exact ⟨oc, od, kV, doc, pm, an, cdv, ct, osl, rfl, lk, hcd⟩
  · exact absurd rfl e
theorem binds_fnOf {K : PySem.W.Frag} {x qual : Str} {params : Arguments} {body : List Stmt} {scope : Scope} {kV doc pm cdv ct : Value} {an : Option Addr} {ps : List Str} (h : argsB ps params = true) :
    L2.Binds K (PySem.W.fnOf x qual params body scope .none kV doc pm an cdv ct) ps [] := by
  obtain ⟨as, h1, h2, h3⟩ := argsB_ok h
  exact .all fun us hl => binds_plain h1 h2 h3 rfl hl
section
variable {D : LawD} {P : Program} {w : World} {K : PySem.W.Frag} {mg : Str → Option Value} {base h : PySem.Heap}
/-- what holds where the law begins -/
structure At (D : LawD) (P : Program) (w : World) (K : PySem.W.Frag) (mg : Str → Option Value) (base : PySem.Heap) (h : PySem.Heap) : Prop where
  c : He.SaysX [] D.defs [] D.tf (heapB D) w h K
  kin : K.In base
  ns : base.Ns mainGlobals mg
  tb : ∀ p ∈ D.tf.map (He.cT K), LamX.TabB base mg p.1 p.2
  txt : textB D = true
  told : ∀ c, D.P.told c = (D.nms[c]?).getD none
  ini : ∀ c, D.P.init c = D.iniF c
  mth : ∀ c m, D.P.meth c m = D.mthF c m
theorem At.ref (A : At D P w K mg base h) {x : Str} (e : isRef K x = true) : mg x = some (.ref (He.ga K x)) := PySem.W.mg_of A.kin A.ns (He.eqO_ok e)
theorem At.dat (A : At D P w K mg base h) {k : Nat} {d : DI} (e : D.fns[k]? = some d) : (D.lk K).fa k = He.fAd K d.at_ ∧ (D.lk K).ps k = d.ps ∧ (D.lk K).fd k = fdOf K d.at_ := by
  unfold LawD.lk
  dsimp only
  rw [e]
  exact ⟨rfl, rfl, rfl⟩
theorem At.fnD (A : At D P w K mg base h) {k : Nat} {x : Str} (e : (D.lk K).nm.fn[k]? = some x) : ∃ d, D.fns[k]? = some d ∧ d.nm = x := by
  have e : (D.fns.map DI.nm)[k]? = some x := e
  rw [List.getElem?_map] at e
  cases hd : D.fns[k]? with
  | none => rw [hd] at e; cases e
  | some d => rw [hd] at e; exact ⟨d, rfl, Option.some.inj e⟩
theorem At.own (A : At D P w K mg base h) : D.ans.Nodup ∧ Str.empty ∉ D.ans ∧ (∀ m ∈ D.mns, m ≠ Str.empty ∧ m ∉ D.ans) ∧ ∀ d ∈ D.cls, d.ini < D.fns.length ∧ ∀ q ∈ d.mts, q.2 < D.fns.length := by
  have h := A.txt
  unfold textB ownB at h
  simp only [Bool.and_eq_true, decide_eq_true_eq, List.all_eq_true] at h
  obtain ⟨⟨⟨⟨⟨⟨⟨⟨h1, h2⟩, h3⟩, h4⟩, _⟩, _⟩, _⟩, _⟩, _⟩ := h
  exact ⟨h1, h2, h3, h4⟩
theorem At.parts (A : At D P w K mg base h) : D.P.fns.length = D.fns.length ∧ (∀ k, k < D.fns.length → fnB D k = true) ∧ (∀ c, c < D.xls.length → xiB D c = true) ∧ D.P.consts.length = D.cns.length ∧
    (D.tf = [] ∨ ((D.fns.any fun d => decide (d.x = ("_law_told" : Str)) && decide (d.cl = none) && tellB D.tcs d) = true ∧ namesB D = true)) := by
  have h := A.txt
  unfold textB at h
  simp only [Bool.and_eq_true, Bool.or_eq_true, decide_eq_true_eq, List.all_eq_true, List.mem_range, List.isEmpty_iff] at h
  obtain ⟨⟨⟨⟨⟨_, h1⟩, h2⟩, h3⟩, h4⟩, h5⟩ := h
  exact ⟨h1, h2, h3, h4, h5⟩
theorem At.hp (A : At D P w K mg base h) : (∀ d ∈ D.fns, d.cl = none → isRef K d.x = true) ∧ (∀ x ∈ blts, PySem.W.nsIn K mainGlobals x = some none) ∧ (∀ d ∈ D.xls, xlK K d = true) ∧ (∀ t ∈ D.tcs, tcK K t = true) ∧
    (∀ c ∈ D.tcs, ∀ c' ∈ D.tcs, PySem.W.exmOne K (.ref (He.ga K c.x)) (.ref (He.ga K c'.x)) = some (decide ((c', He.ga K c'.x) = (c, He.ga K c.x)))) ∧
    (∀ q ∈ D.cns.zip D.P.consts, ∃ u, PySem.W.nsIn K mainGlobals q.1 = some (some u) ∧ conK K q.2 u = true) ∧ (D.tf.map fun p => (He.cT K p).2).Nodup ∧ (∀ d ∈ D.cls, clK D K d = true) := by
  have h := A.c.more
  unfold heapB at h
  simp only [Bool.and_eq_true, Bool.or_eq_true, decide_eq_true_eq, List.all_eq_true] at h
  obtain ⟨⟨⟨⟨⟨⟨⟨⟨_, h0⟩, h1⟩, h2⟩, h3⟩, h4⟩, h5⟩, h6⟩, h7⟩ := h
  refine ⟨fun d hd hc => (h1 d hd).resolve_left (by rw [hc]; exact Bool.noConfusion), fun x hx => He.eqO_ok (h2 x hx), h3, h4, h5, fun q hq => ?_, h7, h0⟩
  have h8 := h6 q hq
  split at h8
  · rename_i u e; exact ⟨u, e, h8⟩
  · cases h8
theorem At.cks (A : At D P w K mg base h) : ∀ q ∈ D.cks, ckK D K q = true := by
  have h := A.c.more
  unfold heapB at h
  simp only [Bool.and_eq_true, List.all_eq_true] at h
  obtain ⟨⟨⟨⟨⟨⟨⟨⟨h9, _⟩, _⟩, _⟩, _⟩, _⟩, _⟩, _⟩, _⟩ := h
  exact h9
theorem At.def (A : At D P w K mg base h) {d : DI} (hd : d ∈ D.fns) : ∃ fd, L2.FunD K d.x d.qual (L2.defArgs d.st) (L2.defBody d.st) (L2.defScope d.st) [] [] (He.fAd K d.at_) fd :=
  A.c.t.d.defs (d := d.def_) (List.mem_append_left _ (List.mem_map_of_mem hd))
theorem At.xdef (A : At D P w K mg base h) {d : XI} (hd : d ∈ D.xls) : ∃ fd, L2.FunD K "__init__" (d.x ++ ("." : Str) ++ ("__init__" : Str)) (L2.defArgs d.st) (L2.defBody d.st) (L2.defScope d.st) [] [] (He.ma K (He.ga K d.x) "__init__") fd :=
  A.c.t.d.defs (d := d.def_) (List.mem_append_right _ (List.mem_map_of_mem hd))
theorem fun_ofD {K : PySem.W.Frag} {x qual : Str} {st : Stmt} {f : Addr} {fd : FuncData} (F : L2.FunD K x qual (L2.defArgs st) (L2.defBody st) (L2.defScope st) [] [] f fd) : L2.Fun K x qual st f fd := by
  obtain ⟨oc, od, kV, doc, pm, an, cdv, ct, osl, e, l, c⟩ := funD_plain F
  exact ⟨⟨oc, od, kV, doc, pm, an, cdv, ct, osl, e, l, c⟩, F.kp⟩
theorem fnB_ok {k : Nat} (h : fnB D k = true) : ∃ f d, D.P.fns[k]? = some f ∧ D.fns[k]? = some d ∧ d.ps.length = f.np ∧ argsB d.ps (L2.defArgs d.st) = true ∧
    ((f.body = [.brk]) ∨ (L2.FnScope d.N d.ps (L2.defScope d.st) ∧ chkSs D.nm d.N (L2.defScope d.st) f.body (L2.defBody d.st) = true ∧ d.N.length = f.ns ∧ (f.lam = true → d.lam = true ∧ d.cl = none))) := by
  unfold fnB at h
  split at h
  · rename_i f d e1 e2
    simp only [Bool.and_eq_true, Bool.or_eq_true, decide_eq_true_eq, Bool.not_eq_true'] at h
    obtain ⟨⟨h1, h2⟩, h3⟩ := h
    refine ⟨f, d, e1, e2, h1, h2, ?_⟩
    rcases h3 with h3 | ⟨⟨⟨h3, h4⟩, h5⟩, h6⟩
    · left
      unfold isBrk at h3
      split at h3
      · assumption
      · cases h3
    · exact .inr ⟨scopeB_ok h3, h4, h5, fun e => h6.resolve_left (by rw [e]; simp)⟩
  · cases h
theorem At.toldOk (A : At D P w K mg base h) (ht : D.tf ≠ []) : ToldOk (D.lk K) D.P K mg := by
  obtain ⟨p1, p2, p3, p4, p5⟩ := A.parts
  obtain ⟨q1, q2, q3, q4, q5, q6, q7, q8⟩ := A.hp
  rcases p5 with p5 | ⟨p5, p6⟩
  · exact absurd p5 ht
  obtain ⟨d, hd, hb⟩ := List.any_eq_true.mp p5
  simp only [Bool.and_eq_true, decide_eq_true_eq] at hb
  obtain ⟨⟨hx, hcl⟩, hb⟩ := hb
  obtain ⟨fd, F⟩ := A.def hd
  have hat : d.at_ = (d.x, none) := by unfold DI.at_; rw [hcl]
  have hqu : d.qual = d.x := by unfold DI.qual; rw [hcl]
  rw [hat, hqu] at F
  obtain ⟨oc, od, kV, doc, pm, an, cdv, ct, osl, e, l, c⟩ := funD_plain F
  have hg := A.ref (q1 d hd hcl)
  obtain ⟨k, hk⟩ := List.mem_iff_getElem?.mp hd
  obtain ⟨f, d', _, e2, _, ha, _⟩ := fnB_ok (p2 k (List.getElem?_eq_some_iff.mp hk).1)
  rw [hk] at e2; cases e2
  unfold tellB at hb
  split at hb
  · rename_i vl kk po1 a po2 po3 kk2 po4 po5 h0 hds po6 b eb ep
    split at hb
    · rename_i ty n bd hp
      simp only [Bool.and_eq_true, decide_eq_true_eq, List.all_eq_true] at hb
      obtain ⟨⟨⟨⟨⟨⟨⟨⟨⟨b1, b2⟩, b3⟩, b4⟩, b5⟩, b6⟩, b7⟩, b8⟩, b9⟩, b10⟩ := hb
      subst b1 b2
      rw [hx] at hg e l c F
      rw [eb] at e
      have fe : He.fAd K (("_law_told" : Str), none) = He.ga K "_law_told" := rfl
      rw [fe] at l
      rw [e] at l
      rw [ep] at ha
      refine ⟨He.ga K "_law_told", a, n, d.N, L2.defScope d.st, L2.defArgs d.st, 1, kk, kk2, _, hds, po1, po2, po3, po4, po5, po6, D.tcs.map fun t => (t, He.ga K t.x), oc, .none, kV, doc, pm, cdv, ct, od, an, osl, hg, ?_, l, c, binds_fnOf ha, scopeB_ok b3, b4, b5, b6, b7, b8, ?_, ?_, ?_, ?_⟩
      · exact F.kp
      · rw [List.map_map]
        exact (by simpa [Function.comp_def] using b9)
      · intro t0 ht0
        obtain ⟨t, ht1, rfl⟩ := List.mem_map.mp ht0
        have h4 := q4 t ht1
        unfold tcK at h4
        simp only [Bool.and_eq_true] at h4
        exact ⟨b10 t ht1, A.ref h4.1.1, L2.xfB_ok h4.1.2, He.eqO_ok h4.2⟩
      · intro t0 ht0 t1 ht1
        obtain ⟨t, ht2, rfl⟩ := List.mem_map.mp ht0
        obtain ⟨t', ht3, rfl⟩ := List.mem_map.mp ht1
        exact q5 t ht2 t' ht3
      · intro c0 nm hc0
        rw [A.told] at hc0
        unfold namesB at p6
        simp only [List.all_eq_true, List.mem_range] at p6
        cases hn : D.nms[c0]? with
        | none => rw [hn] at hc0; cases hc0
        | some o =>
          rw [hn] at hc0
          have h7 := p6 c0 (List.getElem?_eq_some_iff.mp hn).1
          rw [hn] at h7
          dsimp only [Option.getD] at hc0
          subst hc0
          simp only [Bool.and_eq_true, List.any_eq_true] at h7
          obtain ⟨h8, t, ht, h9⟩ := h7
          refine ⟨ascii_ok h8, (t, He.ga K t.x), List.mem_map_of_mem ht, ?_⟩
          cases hxl : D.xls[c0]? with
          | none => rw [hxl] at h9; cases h9
          | some dx =>
            rw [hxl] at h9
            simp only [Bool.and_eq_true, decide_eq_true_eq] at h9
            obtain ⟨⟨h10, h11⟩, h12⟩ := h9
            unfold LawD.lk LawD.cx
            dsimp only
            rw [hxl]
            exact ⟨by rw [h10], h11, h12⟩
    · cases hb
  · cases hb
theorem At.codeT (A : At D P w K mg base h) {d : DI} (hd : d ∈ D.fns) (hl : d.lam = true) (hcl : d.cl = none) {oc : Value} {od : Option Addr} {kV doc pm : Value} {an : Option Addr} {cdv ct : Value} {osl : Array (Option Value)} {fd : FuncData} (e : fd = PySem.W.fnOf d.x d.x (L2.defArgs d.st) (L2.defBody d.st) (L2.defScope d.st) .none kV doc pm an cdv ct)
    (l : K.lookup (He.fAd K (d.x, none)) = some ⟨oc, od, .func fd, osl⟩) (c : PySem.W.codeIn K cdv d.x = true) : CodeT (D.lk K) mg base (d.x ++ ".<locals>." ++ "<lambda>") cdv := by
  obtain ⟨q1, q2, q3, q4, q5, q6, q7, q8⟩ := A.hp
  obtain ⟨c', rfl⟩ := He.codeIn_ref c
  have hm : (d.x, none) ∈ D.tf := List.mem_map_of_mem (f := fun (d : DI) => ((d.x, none) : He.Defn)) (List.mem_filter.mpr ⟨hd, by rw [hl, hcl]; rfl⟩)
  have ec : He.codeOf K (d.x, none) = c' := He.codeOf_eq l (by rw [e])
  have tb := A.tb _ (List.mem_map_of_mem hm)
  refine ⟨c', (He.cT K (d.x, none)).2, rfl, ?_, ?_, ?_⟩
  · have e1 : (He.cT K (d.x, none)).1 = c' := ec
    rw [e1] at tb
    exact tb
  · show ((He.cT K (d.x, none)).2, lamQ d.x) ∈ D.tf.map fun p => ((He.cT K p).2, lamQ p.1)
    exact List.mem_map_of_mem (f := fun p : He.Defn => ((He.cT K p).2, lamQ p.1)) hm
  · intro p hp ep
    obtain ⟨p', hp', rfl⟩ := List.mem_map.mp (show p ∈ D.tf.map fun p => ((He.cT K p).2, lamQ p.1) from hp)
    have := nodup_inj q7 hp' hm ep
    subst this
    rfl
theorem At.fnLk (A : At D P w K mg base h) (k : Nat) (x : Str) (hk : (D.lk K).nm.fn[k]? = some x) : FnLk (D.lk K) D.P K mg base k := by
  obtain ⟨p1, p2, p3, p4, p5⟩ := A.parts
  obtain ⟨d, ed, ex⟩ := A.fnD hk
  obtain ⟨f, d', e1, e2, h1, h2, h3⟩ := fnB_ok (p2 k (List.getElem?_eq_some_iff.mp ed).1)
  rw [ed] at e2; cases e2
  obtain ⟨g1, g2, g3⟩ := A.dat ed
  refine ⟨f, e1, by rw [g2]; exact h1, ?_⟩
  rcases h3 with h3 | ⟨h3, h4, h5, h6⟩
  · exact .inl h3
  · have hd : d ∈ D.fns := List.mem_of_getElem? ed
    obtain ⟨fd, F⟩ := A.def hd
    obtain ⟨oc, od, kV, doc, pm, an, cdv, ct, osl, e, l, c⟩ := funD_plain F
    refine .inr ⟨d.x, d.qual, d.st, d.N, ?_, by rw [g2]; exact h3, h4, h5⟩
    rw [g1, g3, fdOf_eq l]
    refine ⟨oc, od, kV, doc, pm, an, cdv, ct, osl, e, l, c, fun hl => ?_⟩
    obtain ⟨h7, h8⟩ := h6 hl
    have hat : d.at_ = (d.x, none) := by unfold DI.at_; rw [h8]
    have hqu : d.qual = d.x := by unfold DI.qual; rw [h8]
    rw [hqu]
    rw [hat] at l
    rw [hqu] at e c
    exact ⟨A.codeT hd h7 h8 e l c, A.toldOk (fun z => by
      have hm : (d.x, none) ∈ D.tf := List.mem_map_of_mem (f := fun (d : DI) => ((d.x, none) : He.Defn)) (List.mem_filter.mpr ⟨hd, by rw [h7, h8]; rfl⟩)
      rw [z] at hm; cases hm)⟩
theorem At.xcls (A : At D P w K mg base h) (c : Nat) (x : Str) (hx : (D.lk K).nm.xl[c]? = some x) : XCls (D.lk K) D.P P w K mg base c x := by
  obtain ⟨p1, p2, p3, p4, p5⟩ := A.parts
  obtain ⟨q1, q2, q3, q4, q5, q6, q7, q8⟩ := A.hp
  have e : (D.xls.map (·.x))[c]? = some x := hx
  rw [List.getElem?_map] at e
  cases hd : D.xls[c]? with
  | none => rw [hd] at e; cases e
  | some d =>
    rw [hd] at e
    obtain rfl : d.x = x := Option.some.inj e
    have hm : d ∈ D.xls := List.mem_of_getElem? hd
    have h1 := p3 c (List.getElem?_eq_some_iff.mp hd).1
    have h2 := q3 d hm
    unfold xiB at h1
    rw [hd] at h1
    unfold xlK at h2
    simp only [Bool.and_eq_true, Bool.or_eq_true, Bool.not_eq_true', decide_eq_true_eq] at h1 h2
    obtain ⟨⟨⟨⟨⟨⟨a1, a2⟩, a3⟩, a4⟩, a5⟩, a6⟩, a7⟩ := h1
    obtain ⟨⟨⟨⟨b1, b2⟩, b3⟩, b4⟩, b5⟩ := h2
    obtain ⟨fd, F⟩ := A.xdef hm
    obtain ⟨oc, od, kV, doc, pm, an, cdv, ct, osl, ef, l, cd⟩ := funD_plain F
    have ca : (D.lk K).ca c = He.ga K d.x := by unfold LawD.lk LawD.cx; dsimp only; rw [hd]
    have xn : (D.lk K).xn c = d.attr := by unfold LawD.lk; dsimp only; rw [hd]; rfl
    refine ⟨by rw [ca]; exact A.ref b1, by rw [ca]; exact exB_ok b2, by rw [ca, xn]; exact b3, He.ma K (He.ga K d.x) "__init__", fd, [d.sf, d.at'], by rw [ca]; exact He.eqO_ok b4, b5, ?_, ?_⟩
    · rw [ef]; exact binds_fnOf a1
    · cases ht : D.P.xtup c with
      | false =>
        rw [ht] at a3
        rw [if_neg Bool.false_ne_true, xn]
        exact initP_ok (fun_ofD F) (scopeB_ok a2) a3 a4 a5
      | true =>
        rw [ht] at a3 a6
        rw [if_pos rfl, xn]
        exact initT_ok (fun_ofD F) (scopeB_ok a2) a3 a4 a5 (a6.resolve_left (by simp)) (PySem.W.mg_none_of A.kin A.ns (q2 "tuple" (by unfold blts; decide +kernel)))
theorem At.ocI (A : At D P w K mg base h) {c : Nat} {d : CI} (e : D.oc c = some d) : d ∈ D.cls ∧ (D.lk K).ca c = He.ga K d.x ∧ (D.lk K).own c = true := by
  have e0 := e
  unfold LawD.oc at e
  split at e
  · cases e
  · rename_i hlt
    refine ⟨List.mem_of_getElem? e, ?_, ?_⟩
    · unfold LawD.lk LawD.cx
      dsimp only
      rw [List.getElem?_eq_none (by omega), e0]
      rfl
    · unfold LawD.lk
      dsimp only
      rw [e0]
      rfl
theorem At.clP (A : At D P w K mg base h) {d : CI} (hd : d ∈ D.cls) : isRef K d.x = true ∧ L2.Cls K (He.ga K d.x) ∧ (∃ f, D.fns[d.ini]? = some f ∧ L2.Mk K (He.ga K d.x) (He.fAd K f.at_)) ∧ (∀ f ∈ D.ans, L2.NoAttr K (He.ga K d.x) f) ∧
    ∀ q ∈ d.mts, ∃ m f, D.mns[q.1]? = some m ∧ D.fns[q.2]? = some f ∧ L2.Meth K (He.ga K d.x) m (He.fAd K f.at_) := by
  obtain ⟨q1, q2, q3, q4, q5, q6, q7, q8⟩ := A.hp
  have h := q8 d hd
  unfold clK at h
  simp only [Bool.and_eq_true, List.all_eq_true] at h
  obtain ⟨⟨⟨⟨⟨h1, h2⟩, h3⟩, h4⟩, h5⟩, h6⟩ := h
  refine ⟨h1, He.cls_ok h2, ?_, fun f hf => He.noat_ok (h5 f hf), fun q hq => ?_⟩
  · split at h4
    · rename_i f e
      have := He.mkr_ok h3
      rw [of_decide_eq_true h4] at this
      exact ⟨f, e, this⟩
    · cases h4
  · have h7 := h6 q hq
    split at h7
    · rename_i m f e1 e2
      obtain ⟨h8, h9⟩ := Bool.and_eq_true_iff.mp h7
      have := He.meth_ok h8
      rw [of_decide_eq_true h9] at this
      exact ⟨m, f, e1, e2, this⟩
    · cases h7
theorem lookup_memN {β : Type} {a : Nat} {b : β} : ∀ {l : List (Nat × β)}, l.lookup a = some b → (a, b) ∈ l
  | [], h => by cases h
  | (c, d) :: l, h => by
    rw [List.lookup_cons] at h
    split at h
    · rename_i e
      obtain rfl := Option.some.inj h
      rw [eq_of_beq e]
      exact List.mem_cons_self
    · exact List.mem_cons_of_mem _ (lookup_memN h)
theorem At.link (A : At D P w K mg base h) : Link (D.lk K) D.P P w K mg base := by
  obtain ⟨p1, p2, p3, p4, p5⟩ := A.parts
  obtain ⟨q1, q2, q3, q4, q5, q6, q7, q8⟩ := A.hp
  obtain ⟨o1, o2, o3, o4⟩ := A.own
  have fnI : ∀ {k : Nat} {f : DI}, D.fns[k]? = some f → (D.lk K).fa k = He.fAd K f.at_ ∧ ∃ x, (D.lk K).nm.fn[k]? = some x := fun {k f} e => by
    refine ⟨(A.dat e).1, f.nm, ?_⟩
    show (D.fns.map DI.nm)[k]? = some f.nm
    rw [List.getElem?_map, e]; rfl
  refine { fnG := fun k x hk hx => ?_, fnK := fun k x hk => ?_, cG := fun k x d hk hd => ?_, bG := fun x hx => PySem.W.mg_none_of A.kin A.ns (q2 x hx), clG := fun c x hc hx => ?_, clK := fun c k hc => ?_, clC := fun c hc => ?_, mtK := fun c m k x hc hm => ?_, anM := fun m x hm f => ?_, anI := fun f g x hf hg => ?_, xlG := fun c x hc hx => A.xcls c x hc, ckK := fun x m k hk => ?_, fdK := fun c f x hc hf => ?_ }
  · obtain ⟨d, ed, e⟩ := A.fnD hk
    have hd : d ∈ D.fns := List.mem_of_getElem? ed
    obtain ⟨g1, g2, g3⟩ := A.dat ed
    obtain ⟨fd, F⟩ := A.def hd
    have hcl : d.cl = none := by
      cases hc : d.cl with
      | none => rfl
      | some c => unfold DI.nm at e; rw [hc] at e; exact absurd e.symm hx
    have hat : d.at_ = (d.x, none) := by unfold DI.at_; rw [hcl]
    have hnm : d.nm = d.x := by unfold DI.nm; rw [hcl]
    rw [g1]
    have kp := F.kp
    rw [hat] at kp ⊢
    rw [← e, hnm]
    exact ⟨A.ref (q1 d hd hcl), kp⟩
  · obtain ⟨d, ed, rfl⟩ := A.fnD hk
    obtain ⟨f, d', _, e2, _, ha, _⟩ := fnB_ok (p2 k (List.getElem?_eq_some_iff.mp ed).1)
    rw [ed] at e2; cases e2
    obtain ⟨g1, g2, g3⟩ := A.dat ed
    obtain ⟨fd, F⟩ := A.def (List.mem_of_getElem? ed)
    obtain ⟨oc, od, kV, doc, pm, an, cdv, ct, osl, e, l, c⟩ := funD_plain F
    rw [g2, g3, fdOf_eq l, e]
    exact binds_fnOf ha
  · have hz : (x, d) ∈ D.cns.zip D.P.consts := by
      have hk : D.cns[k]? = some x := hk
      refine List.mem_iff_getElem?.mpr ⟨k, ?_⟩
      rw [List.getElem?_zip_eq_some]
      exact ⟨hk, hd⟩
    obtain ⟨u, e1, e2⟩ := q6 _ hz
    obtain ⟨v, r, g⟩ := conK_ok (L := D.lk K) e2
    exact ⟨u, v, PySem.W.mg_of A.kin A.ns e1, r, g⟩
  · have hc : ((D.xls.map fun _ => Str.empty) ++ D.cls.map (·.x))[c]? = some x := hc
    have hge : ¬ c < D.xls.length := fun hlt => by
      rw [List.getElem?_append_left (by rw [List.length_map]; exact hlt), List.getElem?_map] at hc
      cases e : D.xls[c]? with
      | none => rw [e] at hc; cases hc
      | some y => rw [e] at hc; exact hx (Option.some.inj hc).symm
    rw [List.getElem?_append_right (by rw [List.length_map]; omega), List.length_map, List.getElem?_map] at hc
    cases e : D.cls[c - D.xls.length]? with
    | none => rw [e] at hc; cases hc
    | some d =>
      rw [e] at hc
      obtain rfl : d.x = x := Option.some.inj hc
      have eo : D.oc c = some d := by unfold LawD.oc; rw [if_neg hge]; exact e
      obtain ⟨k1, k2, k3⟩ := A.ocI eo
      rw [k2]
      refine ⟨A.ref (A.clP k1).1, d.ini, ?_⟩
      rw [A.ini]
      unfold LawD.iniF
      rw [eo]
      rfl
  · rw [A.ini] at hc
    unfold LawD.iniF at hc
    cases eo : D.oc c with
    | none => rw [eo] at hc; cases hc
    | some d =>
      rw [eo] at hc
      obtain rfl : d.ini = k := Option.some.inj hc
      obtain ⟨k1, k2, k3⟩ := A.ocI eo
      obtain ⟨_, _, ⟨f, ef, hM⟩, _, _⟩ := A.clP k1
      obtain ⟨g1, g2⟩ := fnI ef
      rw [k2, g1]
      exact ⟨k3, hM, g2⟩
  · have hc : (D.oc c).isSome = true := hc
    cases eo : D.oc c with
    | none => rw [eo] at hc; cases hc
    | some d =>
      obtain ⟨k1, k2, k3⟩ := A.ocI eo
      rw [k2]
      exact (A.clP k1).2.1
  · rw [A.mth] at hc
    unfold LawD.mthF at hc
    cases eo : D.oc c with
    | none => rw [eo] at hc; cases hc
    | some d =>
      rw [eo] at hc
      have hc : d.mts.lookup m = some k := hc
      obtain ⟨k1, k2, k3⟩ := A.ocI eo
      obtain ⟨m', f, e1, e2, hM⟩ := (A.clP k1).2.2.2.2 _ (lookup_memN hc)
      have hm : D.mns[m]? = some x := hm
      rw [hm] at e1
      cases e1
      obtain ⟨g1, g2⟩ := fnI e2
      rw [k2, g1]
      exact ⟨hM, g2⟩
  · have hm : D.mns[m]? = some x := hm
    obtain ⟨h1, h2⟩ := o3 x (List.mem_of_getElem? hm)
    show D.ans.getD f Str.empty ≠ x
    intro z
    rw [List.getD_eq_getElem?_getD] at z
    cases ef : D.ans[f]? with
    | none => rw [ef] at z; exact h1 z.symm
    | some y =>
      rw [ef] at z
      have z : y = x := z
      rw [z] at ef
      exact h2 (List.mem_of_getElem? ef)
  · have hf : D.ans[f]? = some x := hf
    have hg : D.ans.getD g Str.empty = x := hg
    rw [List.getD_eq_getElem?_getD] at hg
    cases eg : D.ans[g]? with
    | none => rw [eg] at hg; have hg : Str.empty = x := hg; rw [← hg] at hf; exact absurd (List.mem_of_getElem? hf) o2
    | some y =>
      rw [eg] at hg
      have hg : y = x := hg
      rw [hg] at eg
      obtain ⟨h1, e1⟩ := List.getElem?_eq_some_iff.mp hf
      obtain ⟨h2, e2⟩ := List.getElem?_eq_some_iff.mp eg
      exact (List.getElem_inj o1).mp (e2.trans e1.symm)
  · have h := A.cks (x, m, k) hk
    unfold ckK at h
    simp only [Bool.and_eq_true] at h
    obtain ⟨⟨⟨h1, h2⟩, h3⟩, h4⟩ := h
    split at h4
    · rename_i f a e1 e2
      obtain ⟨g1, g2⟩ := fnI e1
      obtain ⟨fd, F⟩ := A.def (List.mem_of_getElem? e1)
      have ea := of_decide_eq_true h4
      rw [g1]
      exact ⟨He.ga K x, A.ref h1, ⟨h2, He.eqO_ok h3⟩, by rw [← ea]; exact e2, F.kp, g2⟩
    · cases h4
  · have hc : (D.oc c).isSome = true := hc
    have hf : D.ans[f]? = some x := hf
    cases eo : D.oc c with
    | none => rw [eo] at hc; cases hc
    | some d =>
      obtain ⟨k1, k2, k3⟩ := A.ocI eo
      rw [k2]
      exact (A.clP k1).2.2.2.1 x (List.mem_of_getElem? hf)
theorem At.lens (A : At D P w K mg base h) : ∀ k, k < D.P.fns.length → ((D.lk K).ps k).length = (D.P.fns[k]?.map (·.np)).getD 0 := fun k hk => by
  obtain ⟨p1, p2, p3, p4, p5⟩ := A.parts
  obtain ⟨f, d, e1, e2, h1, h2, h3⟩ := fnB_ok (p2 k (by rw [← p1]; exact hk))
  rw [(A.dat e2).2.1, e1]
  exact h1
theorem At.all (A : At D P w K mg base h) (n : Nat) : CallOk (D.lk K) P w K mg base n (callF D.P n) := fn_all A.link A.fnLk A.lens n
end
end Y
set_option Elab.async false
set_option linter.all false
set_option maxRecDepth 100000
set_option maxHeartbeats 4000000
namespace Y
open PySem PySem.Spec PyProof.Rows
open L2 (V Hp upd upd_same upd_ne ne_of ne_of_none RelV Vals SqL SqT Rd Cx Inv PE PT PTs PW PS PSs PA PG PGs PI TE TT TS TA TG TGs TI VK XK WX Ends EP Takes Room)
theorem ints_rel {L : Lk} {K : PySem.W.Frag} {H : Hp} {r : List Addr} : ∀ {ns : List Int}, RelDs L K H r (ns.map .int) (ns.map V.int)
  | [] => by unfold List.map RelDs; rfl
  | n :: ns => by
    rw [List.map_cons, List.map_cons]
    unfold RelDs
    exact ⟨_, _, rfl, by unfold RelD; rfl, ints_rel⟩
/-- the script as the interpreter's call gets it -/
def Told (ns : List Int) (d : D) (h : Heap) : Prop := (d = .frz (ns.map .int) ∧ h = []) ∨ (d = .ref 0 ∧ h = [.lst (ns.map .int)])
end Y
set_option Elab.async false
set_option linter.all false
set_option maxRecDepth 100000
set_option maxHeartbeats 4000000
namespace Y
theorem turns_rule {α : Type} {it : It} {heap : α → Heap} {step : D → α → Option (α ⊕ SRes)} {n : Nat} {I : Nat → α → Prop} {B : SRes → Prop}
    (hn : ∀ i s, I i s → i < n → ∃ d, it.next i (heap s) = .item d ∧ ((∃ s', step d s = some (.inl s') ∧ I (i + 1) s') ∨ ∃ r, step d s = some (.inr r) ∧ B r))
    (hs : ∀ s, I n s → it.next n (heap s) = .stop) : ∀ f i s, n - i < f → i ≤ n → I i s → (∃ s', turns it heap step f i s = some (.inl s') ∧ I n s') ∨ ∃ r, turns it heap step f i s = some (.inr r) ∧ B r
  | 0, i, s, hf, _, _ => absurd hf (Nat.not_lt_zero _)
  | f + 1, i, s, hf, hi, h => by
    unfold turns
    by_cases e : i = n
    · subst e
      rw [hs s h]
      exact .inl ⟨s, rfl, h⟩
    · have hlt : i < n := by omega
      obtain ⟨d, e1, h1 | h1⟩ := hn i s h hlt
      · obtain ⟨s', e2, h2⟩ := h1
        rw [e1]; dsimp only
        rw [e2]; dsimp only
        exact turns_rule hn hs f (i + 1) s' (by omega) (by omega) h2
      · obtain ⟨r, e2, h2⟩ := h1
        rw [e1]; dsimp only
        rw [e2]; dsimp only
        exact .inr ⟨r, rfl, h2⟩
/-- the numbers of a law -/
def bNum : List S := [.set 1 (.lst []), .for_ (.nm 2) (.slc (.var 0) .cnon (.cint 63)) [.ite (.cmp .GtE (.var 2) (.bin .Pow (.cint 10) (.cint 18))) [.set 3 (.var 2), .for_ (.nm 4) (.rng1 (.cint 60)) [.ite (.cmp .Eq (.var 3) (.cint 0)) [.brk] [], .expr (.bm .append (.var 1) [.bin .Mod (.bi .int [.var 3]) (.cint 997)]), .set 3 (.bin .FloorDiv (.var 3) (.cint 997))]] [.for_ (.nm 4) (.rng1 (.cint 4)) [.set 5 (.bin .Mod (.bi .int [.bin .Add (.bin .Add (.bin .Mult (.var 2) (.cint 48271)) (.bin .Mult (.var 4) (.cint 69621))) (.cint 11)]) (.cint 2147483647)), .expr (.bm .append (.var 1) [.bin .Mod (.bi .int [.bin .Add (.bin .Mult (.var 5) (.cint 16807)) (.var 4)]) (.cint 2147483629)])]]], .ite (.cmp .Eq (.bi .len [.var 1]) (.cint 0)) [.expr (.bm .append (.var 1) [.cint 0])] [], .ret (.var 1)]
def hp (hS : Heap) (row slc : List D) : Heap := hS ++ [.lst row, .lst slc]
section
variable {hS : Heap} {row slc : List D}
theorem hp_at0 : (hp hS row slc).at hS.length = some (.lst row) := by unfold hp Heap.at; simp
theorem hp_at1 : (hp hS row slc).at (hS.length + 1) = some (.lst slc) := by unfold hp Heap.at; simp
theorem hp_set (r : List D) : (hp hS row slc).set hS.length (.lst r) = hp hS r slc := by unfold hp; simp
end
/-- numbers as they are drawn from -/
def RowOk (n : Nat) (row : List D) : Prop := row.length ≤ n ∧ ∀ x ∈ row, ∃ i : Int, x = .int i ∧ 0 ≤ i ∧ i < 2147483647
theorem RowOk.add {n : Nat} {row : List D} {i : Int} (h : RowOk n row) (h0 : 0 ≤ i) (h1 : i < 2147483647) : RowOk (n + 1) (row ++ [.int i]) := by
  refine ⟨by rw [List.length_append]; have := h.1; simp; omega, fun x hx => ?_⟩
  rcases List.mem_append.mp hx with hx | hx
  · exact h.2 x hx
  · rw [List.mem_singleton] at hx; exact ⟨i, hx, h0, h1⟩
theorem RowOk.mono {n m : Nat} {row : List D} (h : RowOk n row) (k : n ≤ m) : RowOk m row := ⟨Nat.le_trans h.1 k, h.2⟩
section
variable {C : Ctx} {hS : Heap} {row slc : List D} {sc : D}
/-- the state of the numbers' loops -/
def NSt (hS : Heap) (sc : D) (slc : List D) (n : Nat) (s : Env × Heap) : Prop := ∃ (row : List D) (a2 a3 a4 a5 : Option D), RowOk n row ∧ s = ([some sc, some (.ref hS.length), a2, a3, a4, a5], hp hS row slc)
theorem app_ok {C : Ctx} {e : E} {env : Env} {i : Int} {n : Nat} (hb : C.base ≤ hS.length) (h1 : env[1]? = some (some (.ref hS.length))) (hr : RowOk n row) (hn : n < sizeLine) (he : (ev C e).v env (hp hS row slc) = .ok (.int i) (hp hS row slc)) :
    execS C (.expr (.bm .append (.var 1) [e])) env (hp hS row slc) = .nx env (hp hS (row ++ [.int i]) slc) := by
  have hl : row.length < sizeLine := Nat.lt_of_le_of_lt hr.1 hn
  simp only [execS, evalE, ev, evs, mkV, cBm, cVar, h1, Res.bind, isBT, bmB, hp_at0, cArgs, he, bmF, if_pos hl, setO, if_pos hb, optH, hp_set, ofRes, if_true]
def bMix : List S := [.set 5 (.bin .Mod (.bi .int [.bin .Add (.bin .Add (.bin .Mult (.var 2) (.cint 48271)) (.bin .Mult (.var 4) (.cint 69621))) (.cint 11)]) (.cint 2147483647)), .expr (.bm .append (.var 1) [.bin .Mod (.bi .int [.bin .Add (.bin .Mult (.var 5) (.cint 16807)) (.var 4)]) (.cint 2147483629)])]
theorem small_r {i j : Int} (h : small64 j = true) : binI .Mult i j = some (i * j) := by unfold binI; simp [h]
theorem mix_ok {x k : Int} {a3 a4 a5 : Option D} {n : Nat} (hb : C.base ≤ hS.length) (hr : RowOk n row) (hn : n < sizeLine) :
    ∃ (i : Int) (a5' : Option D), 0 ≤ i ∧ i < 2147483647 ∧ execSs C bMix [some sc, some (.ref hS.length), some (.int x), a3, some (.int k), a5] (hp hS row slc) = .nx [some sc, some (.ref hS.length), some (.int x), a3, some (.int k), a5'] (hp hS (row ++ [.int i]) slc) := by
  have s1 : small64 48271 = true := by decide
  have s2 : small64 69621 = true := by decide
  have s3 : small64 16807 = true := by decide
  have e1 : execS C (.set 5 (.bin .Mod (.bi .int [.bin .Add (.bin .Add (.bin .Mult (.var 2) (.cint 48271)) (.bin .Mult (.var 4) (.cint 69621))) (.cint 11)]) (.cint 2147483647))) [some sc, some (.ref hS.length), some (.int x), a3, some (.int k), a5] (hp hS row slc)
      = .nx [some sc, some (.ref hS.length), some (.int x), a3, some (.int k), some (.int ((x * 48271 + k * 69621 + 11) % 2147483647))] (hp hS row slc) := by
    simp [execS, evalE, ev, evs, mkV, cOp, cApp, cVar, cC, Res.bind, cArgs, biF, binop, small_r s1, small_r s2, ofRes, Env.put, binI, small64]
  refine ⟨(((x * 48271 + k * 69621 + 11) % 2147483647) * 16807 + k) % 2147483629, some (.int ((x * 48271 + k * 69621 + 11) % 2147483647)), by omega, by omega, ?_⟩
  unfold bMix execSs seqS
  rw [e1]
  dsimp only
  unfold execSs seqS
  rw [app_ok (i := (((x * 48271 + k * 69621 + 11) % 2147483647) * 16807 + k) % 2147483629) hb rfl hr hn ?_]
  · rfl
  · simp [evalE, ev, evs, mkV, cOp, cApp, cVar, cC, Res.bind, cArgs, biF, binop, binI, small64]
def bDig : List S := [.ite (.cmp .Eq (.var 3) (.cint 0)) [.brk] [], .expr (.bm .append (.var 1) [.bin .Mod (.bi .int [.var 3]) (.cint 997)]), .set 3 (.bin .FloorDiv (.var 3) (.cint 997))]
theorem eq_int (i j : Int) (h : Heap) : cmpop .Eq (.int i) (.int j) h = some (decide (i = j)) := by
  simp [cmpop, eqO, list?, eqW, dat, eqB]
theorem dig_ok {x : Int} {a2 a4 a5 : Option D} {n : Nat} (hb : C.base ≤ hS.length) (hr : RowOk n row) (hn : n < sizeLine) :
    execSs C bDig [some sc, some (.ref hS.length), a2, some (.int x), a4, a5] (hp hS row slc) = .brk [some sc, some (.ref hS.length), a2, some (.int x), a4, a5] (hp hS row slc) ∨
    ∃ (i y : Int), 0 ≤ i ∧ i < 2147483647 ∧ execSs C bDig [some sc, some (.ref hS.length), a2, some (.int x), a4, a5] (hp hS row slc) = .nx [some sc, some (.ref hS.length), a2, some (.int y), a4, a5] (hp hS (row ++ [.int i]) slc) := by
  have e1 : execS C (.ite (.cmp .Eq (.var 3) (.cint 0)) [.brk] []) [some sc, some (.ref hS.length), a2, some (.int x), a4, a5] (hp hS row slc) = if x = 0 then .brk [some sc, some (.ref hS.length), a2, some (.int x), a4, a5] (hp hS row slc) else .nx [some sc, some (.ref hS.length), a2, some (.int x), a4, a5] (hp hS row slc) := by
    by_cases h : x = 0
    · simp [execS, execSs, iteS, evalT, ev, mkV, cOp, cVar, cC, Res.bind, cmpF, eq_int, optR, truR, truth, h, seqS]
    · simp [execS, execSs, iteS, evalT, ev, mkV, cOp, cVar, cC, Res.bind, cmpF, eq_int, optR, truR, truth, h, seqS]
  unfold bDig execSs seqS
  rw [e1]
  by_cases h : x = 0
  · rw [if_pos h]; exact .inl rfl
  · rw [if_neg h]
    refine .inr ⟨x % 997, x / 997, by omega, by omega, ?_⟩
    dsimp only
    unfold execSs seqS
    rw [app_ok (i := x % 997) hb rfl hr hn (by simp [evalE, ev, evs, mkV, cOp, cApp, cVar, cC, Res.bind, cArgs, biF, binop, binI])]
    simp [execSs, seqS, execS, evalE, ev, evs, mkV, cOp, cApp, cVar, cC, Res.bind, cArgs, binop, binI, ofRes, Env.put]
theorem rng_next {n i : Nat} {h : Heap} (hi : i < n) : (It.rng 0 n 1).next i h = .item (.int i) := by unfold It.next; rw [if_pos hi]; simp
theorem rng_stop {n : Nat} {h : Heap} : (It.rng 0 n 1).next n h = .stop := by unfold It.next; rw [if_neg (Nat.lt_irrefl _)]
theorem rng_ev {env : Env} {h : Heap} {m : Int} (hm : rngSmall m = true) : (ev C (.rng1 (.cint m))).i env h = .ok (.rng 0 m.toNat 1) h := by
  simp only [ev, mkV, mkI, iRng1, cC, Res.bind, hm, if_true]
/-- the loop of one small number -/
theorem mixes_ok {x : Int} {a3 a4 a5 : Option D} {n : Nat} (hf : 1000 ≤ C.P.fuel) (hb : C.base ≤ hS.length) (hr : RowOk n row) (hn : n + 4 < sizeLine) :
    ∃ (row' : List D) (a4' a5' : Option D), row'.length = row.length + 4 ∧ RowOk (n + 4) row' ∧ execS C (.for_ (.nm 4) (.rng1 (.cint 4)) bMix) [some sc, some (.ref hS.length), some (.int x), a3, a4, a5] (hp hS row slc) = .nx [some sc, some (.ref hS.length), some (.int x), a3, a4', a5'] (hp hS row' slc) := by
  have key := turns_rule (it := .rng 0 4 1) (heap := fun s : Env × Heap => s.2) (step := stepF (.nm 4) (execSs C bMix)) (n := 4) (B := fun _ => False)
    (I := fun i s => ∃ (row' : List D) (a4' a5' : Option D), row'.length = row.length + i ∧ RowOk (n + i) row' ∧ s = ([some sc, some (.ref hS.length), some (.int x), a3, a4', a5'], hp hS row' slc))
    (fun i s ⟨row', a4', a5', hl, hr', es⟩ hi => ⟨_, rng_next hi, .inl (by
      subst es
      obtain ⟨j, a5'', h0, h1, e⟩ := mix_ok (C := C) (sc := sc) (x := x) (k := (i : Int)) (a3 := a3) (a4 := a4') (a5 := a5') (slc := slc) hb hr' (by omega)
      refine ⟨_, ?_, row' ++ [.int j], some (.int i), a5'', by rw [List.length_append]; simp; omega, hr'.add h0 h1, rfl⟩
      unfold stepF assign Env.put
      dsimp only [List.set]
      rw [e])⟩)
    (fun s _ => rng_stop) C.P.fuel 0 ([some sc, some (.ref hS.length), some (.int x), a3, a4, a5], hp hS row slc) (by omega) (by omega) ⟨row, a4, a5, rfl, hr, rfl⟩
  rcases key with ⟨s', e, row', a4', a5', hl, hr', es⟩ | ⟨r, e, hB⟩
  · refine ⟨row', a4', a5', hl, hr', ?_⟩
    unfold execS loopF evalI
    rw [rng_ev (m := 4) (by decide)]
    show finT (turns _ _ _ _ _ _) = _
    first | rw [e, es]; rfl | (simp only [Int.toNat]; rw [e, es]; rfl)
  · exact hB.elim
theorem digs_ok {x : Int} {a2 a4 a5 : Option D} {n : Nat} (hf : 1000 ≤ C.P.fuel) (hb : C.base ≤ hS.length) (hr : RowOk n row) (hn : n + 60 < sizeLine) :
    ∃ (row' : List D) (a3' a4' : Option D), (RowOk (n + 60) row' ∧ row.length ≤ row'.length) ∧ execS C (.for_ (.nm 4) (.rng1 (.cint 60)) bDig) [some sc, some (.ref hS.length), a2, some (.int x), a4, a5] (hp hS row slc) = .nx [some sc, some (.ref hS.length), a2, a3', a4', a5] (hp hS row' slc) := by
  have key := turns_rule (it := .rng 0 60 1) (heap := fun s : Env × Heap => s.2) (step := stepF (.nm 4) (execSs C bDig)) (n := 60) (B := fun r => ∃ (row' : List D) (x' : Int) (a4' : Option D), (RowOk (n + 60) row' ∧ row.length ≤ row'.length) ∧ r = .nx [some sc, some (.ref hS.length), a2, some (.int x'), a4', a5] (hp hS row' slc))
    (I := fun i s => ∃ (row' : List D) (x' : Int) (a4' : Option D), (RowOk (n + i) row' ∧ row.length ≤ row'.length) ∧ s = ([some sc, some (.ref hS.length), a2, some (.int x'), a4', a5], hp hS row' slc))
    (fun i s ⟨row', x', a4', ⟨hr', hl⟩, es⟩ hi => ⟨_, rng_next hi, by
      subst es
      rcases dig_ok (C := C) (sc := sc) (x := x') (a2 := a2) (a4 := some (.int i)) (a5 := a5) (slc := slc) hb hr' (by omega) with e | ⟨j, y, h0, h1, e⟩
      · refine .inr ⟨_, ?_, row', x', some (.int i), ⟨hr'.mono (by omega), hl⟩, rfl⟩
        unfold stepF assign Env.put
        dsimp only [List.set]
        rw [e]
      · refine .inl ⟨_, ?_, row' ++ [.int j], y, some (.int i), ⟨hr'.add h0 h1, by rw [List.length_append]; omega⟩, rfl⟩
        unfold stepF assign Env.put
        dsimp only [List.set]
        rw [e]⟩)
    (fun s _ => rng_stop) C.P.fuel 0 ([some sc, some (.ref hS.length), a2, some (.int x), a4, a5], hp hS row slc) (by omega) (by omega) ⟨row, x, a4, ⟨hr, Nat.le_refl _⟩, rfl⟩
  rcases key with ⟨s', e, row', x', a4', hr', es⟩ | ⟨r, e, row', x', a4', hr', es⟩
  · refine ⟨row', some (.int x'), a4', hr', ?_⟩
    unfold execS loopF evalI
    rw [rng_ev (m := 60) (by decide)]
    show finT (turns _ _ _ _ _ _) = _
    first | rw [e, es]; rfl | (simp only [Int.toNat]; rw [e, es]; rfl)
  · refine ⟨row', some (.int x'), a4', hr', ?_⟩
    unfold execS loopF evalI
    rw [rng_ev (m := 60) (by decide)]
    show finT (turns _ _ _ _ _ _) = _
    first | rw [e, es]; rfl | (simp only [Int.toNat]; rw [e, es]; rfl)
def bOne : List S := [.ite (.cmp .GtE (.var 2) (.bin .Pow (.cint 10) (.cint 18))) [.set 3 (.var 2), .for_ (.nm 4) (.rng1 (.cint 60)) bDig] [.for_ (.nm 4) (.rng1 (.cint 4)) bMix]]
theorem one_ok {x : Int} {a3 a4 a5 : Option D} {n : Nat} (hf : 1000 ≤ C.P.fuel) (hb : C.base ≤ hS.length) (hr : RowOk n row) (hn : n + 60 < sizeLine) :
    ∃ (row' : List D) (a3' a4' a5' : Option D), RowOk (n + 60) row' ∧ execSs C bOne [some sc, some (.ref hS.length), some (.int x), a3, a4, a5] (hp hS row slc) = .nx [some sc, some (.ref hS.length), some (.int x), a3', a4', a5'] (hp hS row' slc) := by
  have e1 : ∀ {a b : List S} {env : Env} {h : Heap}, env[2]? = some (some (.int x)) → execS C (.ite (.cmp .GtE (.var 2) (.bin .Pow (.cint 10) (.cint 18))) a b) env h = if (10 : Int) ^ 18 ≤ x then execSs C a env h else execSs C b env h := fun {a b env h} he => by
    by_cases hx : (10 : Int) ^ 18 ≤ x
    · rw [if_pos hx]
      have hx' : (1000000000000000000 : Int) ≤ x := hx
      simp [execS, iteS, evalT, ev, mkV, cOp, cVar, cC, he, Res.bind, cmpF, cmpop, binop, binI, optR, truR, truth, hx']
    · rw [if_neg hx]
      have hx' : ¬ (1000000000000000000 : Int) ≤ x := hx
      simp [execS, iteS, evalT, ev, mkV, cOp, cVar, cC, he, Res.bind, cmpF, cmpop, binop, binI, optR, truR, truth, hx']
  unfold bOne execSs seqS
  rw [e1 rfl]
  by_cases hx : (10 : Int) ^ 18 ≤ x
  · rw [if_pos hx]
    obtain ⟨row', a3', a4', ⟨hr', _⟩, e⟩ := digs_ok (C := C) (sc := sc) (x := x) (a2 := some (.int x)) (a4 := a4) (a5 := a5) (slc := slc) hf hb hr hn
    refine ⟨row', a3', a4', a5, hr', ?_⟩
    have e2 : execS C (.set 3 (.var 2)) [some sc, some (.ref hS.length), some (.int x), a3, a4, a5] (hp hS row slc) = .nx [some sc, some (.ref hS.length), some (.int x), some (.int x), a4, a5] (hp hS row slc) := by simp [execS, evalE, ev, mkV, cVar, ofRes, Env.put]
    simp only [execSs, seqS, e2, e]
  · rw [if_neg hx]
    obtain ⟨row', a4', a5', _, hr', e⟩ := mixes_ok (C := C) (sc := sc) (x := x) (a3 := a3) (a4 := a4) (a5 := a5) (slc := slc) hf hb hr (by omega)
    refine ⟨row', a3, a4', a5', hr'.mono (by omega), ?_⟩
    simp only [execSs, seqS, e]
/-- the script, as the slice takes it -/
def ScOk (sc : D) (hS : Heap) (ns : List Int) : Prop := ∀ h : Heap, hS.length < h.length → (∀ i, i < hS.length → h[i]? = hS[i]?) → slcV sc none (some 63) h = .ok (.ref h.length) (h ++ [.lst (ns.map .int)])
theorem num_body {ns : List Int} {low : CallT} (hf : 1000 ≤ C.P.fuel) (hb : C.base = hS.length) (hs : ScOk sc hS ns) (hn : ns.length ≤ 63) :
    ∃ row : List D, row ≠ [] ∧ RowOk 3781 row ∧ execSs C bNum [some sc, none, none, none, none, none] hS = .ret (.ref hS.length) (hp hS row (ns.map .int)) := by
  have hb' : C.base ≤ hS.length := Nat.le_of_eq hb
  have key := turns_rule (it := .seq (hS.length + 1)) (heap := fun s : Env × Heap => s.2) (step := stepF (.nm 2) (execSs C bOne)) (n := ns.length) (B := fun _ => False)
    (I := fun i s => ∃ (row : List D) (a2 a3 a4 a5 : Option D), RowOk (60 * i) row ∧ s = ([some sc, some (.ref hS.length), a2, a3, a4, a5], hp hS row (ns.map .int)))
    (fun i s ⟨row, a2, a3, a4, a5, hr, es⟩ hi => ⟨.int ns[i], by
      subst es
      unfold It.next list?
      dsimp only
      rw [hp_at1]
      dsimp only
      rw [List.getElem?_map, List.getElem?_eq_getElem hi]
      rfl, .inl (by
      subst es
      obtain ⟨row', a3', a4', a5', hr', e⟩ := one_ok (C := C) (sc := sc) (x := ns[i]) (a3 := a3) (a4 := a4) (a5 := a5) (slc := ns.map .int) hf hb' hr (by unfold sizeLine; omega)
      refine ⟨_, ?_, row', some (.int ns[i]), a3', a4', a5', hr'.mono (by omega), rfl⟩
      unfold stepF assign Env.put
      dsimp only [List.set]
      rw [e])⟩)
    (fun s ⟨row, a2, a3, a4, a5, hr, es⟩ => by
      subst es
      unfold It.next list?
      dsimp only
      rw [hp_at1]
      dsimp only
      rw [List.getElem?_eq_none (by rw [List.length_map]; exact Nat.le_refl _), List.length_map, if_pos rfl])
    C.P.fuel 0 ([some sc, some (.ref hS.length), none, none, none, none], hp hS [] (ns.map .int)) (by omega) (by omega) ⟨[], none, none, none, none, ⟨Nat.le_refl _, fun x hx => by cases hx⟩, rfl⟩
  obtain ⟨s', e, row, a2, a3, a4, a5, hr, es⟩ := key.resolve_right fun ⟨r, e, hB⟩ => hB
  have e1 : execS C (.set 1 (.lst [])) [some sc, none, none, none, none, none] hS = .nx [some sc, some (.ref hS.length), none, none, none, none] (hS ++ [.lst []]) := by
    simp [execS, evalE, ev, evs, mkV, cApp, cArgs, mkLst, Res.bind, ofRes, Env.put]
  have e2 : execS C (.for_ (.nm 2) (.slc (.var 0) .cnon (.cint 63)) bOne) [some sc, some (.ref hS.length), none, none, none, none] (hS ++ [.lst []]) = .nx [some sc, some (.ref hS.length), a2, a3, a4, a5] (hp hS row (ns.map .int)) := by
    have e3 : (ev C (.slc (.var 0) .cnon (.cint 63))).i [some sc, some (.ref hS.length), none, none, none, none] (hS ++ [.lst []]) = .ok (.seq (hS.length + 1)) (hp hS [] (ns.map .int)) := by
      have e4 := hs (hS ++ [.lst []]) (by rw [List.length_append]; simp) (fun i hi => List.getElem?_append_left hi)
      rw [List.length_append] at e4
      have e5 : (hS ++ [HV.lst []]) ++ [HV.lst (ns.map D.int)] = hp hS [] (ns.map .int) := by unfold hp; simp
      rw [e5] at e4
      simp [ev, mkV, cSlc, cVar, cC, Res.bind, partF, bndF, E.wr, e4, iterR, iterOf, hp_at1]
    unfold execS loopF evalI
    rw [e3]
    show finT (turns _ _ _ _ _ _) = _
    first | rw [e, es]; rfl | (simp only [Int.toNat]; rw [e, es]; rfl)
  by_cases he : row = []
  · refine ⟨[.int 0], by simp, ⟨by simp, fun x hx => ?_⟩, ?_⟩
    · rw [List.mem_singleton] at hx; exact ⟨0, hx, by omega, by omega⟩
    · subst he
      have e6 : execS C (.ite (.cmp .Eq (.bi .len [.var 1]) (.cint 0)) [.expr (.bm .append (.var 1) [.cint 0])] []) [some sc, some (.ref hS.length), a2, a3, a4, a5] (hp hS [] (ns.map .int)) = .nx [some sc, some (.ref hS.length), a2, a3, a4, a5] (hp hS [.int 0] (ns.map .int)) := by
        have e7 := app_ok (C := C) (e := .cint 0) (i := 0) (row := []) (slc := ns.map .int) (env := [some sc, some (.ref hS.length), a2, a3, a4, a5]) hb' rfl hr (by unfold sizeLine; omega) rfl
        simp only [execS, iteS, evalT, ev, evs, mkV, cOp, cApp, cArgs, cVar, cC, Res.bind, biF, lenD, hp_at0, cmpF, eq_int, optR, truR, truth, Option.map, List.length_nil, List.getElem?_cons_succ, List.getElem?_cons_zero]
        simp only [execSs, seqS]
        simp
        rw [e7]
        rfl
      simp only [bNum]
      show execSs C [.set 1 (.lst []), .for_ (.nm 2) (.slc (.var 0) .cnon (.cint 63)) bOne, _, _] _ _ = _
      simp only [execSs, seqS, e1, e2, e6]
      simp [execS, evalE, ev, mkV, cVar, ofRes]
  · refine ⟨row, he, hr.mono (by omega), ?_⟩
    have hl : (row.length : Int) ≠ 0 := by
      intro z
      exact he (List.length_eq_zero_iff.mp (by omega))
    have e6 : execS C (.ite (.cmp .Eq (.bi .len [.var 1]) (.cint 0)) [.expr (.bm .append (.var 1) [.cint 0])] []) [some sc, some (.ref hS.length), a2, a3, a4, a5] (hp hS row (ns.map .int)) = .nx [some sc, some (.ref hS.length), a2, a3, a4, a5] (hp hS row (ns.map .int)) := by
      simp only [execS, iteS, evalT, ev, evs, mkV, cOp, cApp, cArgs, cVar, cC, Res.bind, biF, lenD, hp_at0, cmpF, eq_int, optR, truR, truth, Option.map, List.getElem?_cons_succ, List.getElem?_cons_zero, decide_eq_false hl, execSs]
    simp only [bNum]
    show execSs C [.set 1 (.lst []), .for_ (.nm 2) (.slc (.var 0) .cnon (.cint 63)) bOne, _, _] _ _ = _
    simp only [execSs, seqS, e1, e2, e6]
    simp [execS, evalE, ev, mkV, cVar, ofRes]
end
end Y
namespace Y
theorem execSs_cons {C : Ctx} (s : S) (ss : List S) (env : Env) (h : Heap) : execSs C (s :: ss) env h = (match execS C s env h with | .nx env h => execSs C ss env h | r => r) := rfl
theorem execs_append {C : Ctx} : ∀ (a b : List S) (env : Env) (h : Heap), execSs C (a ++ b) env h = (match execSs C a env h with | .nx env h => execSs C b env h | r => r)
  | [], b, env, h => rfl
  | s :: a, b, env, h => by
    rw [List.cons_append, execSs_cons, execSs_cons]
    cases execS C s env h with
    | nx e h' => exact execs_append a b e h'
    | _ => rfl
end Y
set_option Elab.async false
set_option linter.all false
set_option maxRecDepth 100000
set_option maxHeartbeats 4000000
namespace Y
theorem at_app {h t : Heap} {a : Nat} {o : HV} (e : h.at a = some o) : Heap.at (h ++ t) a = some o := by
  unfold Heap.at at e ⊢
  rw [List.getElem?_append_left (List.getElem?_eq_some_iff.mp e).1]
  exact e
theorem at_lt {h : Heap} {a : Nat} {o : HV} (e : h.at a = some o) : a < h.length := (List.getElem?_eq_some_iff.mp e).1
theorem at_mid {h t : Heap} {o : HV} : Heap.at (h ++ o :: t) h.length = some o := by
  unfold Heap.at
  rw [List.getElem?_append_right (Nat.le_refl _), Nat.sub_self]
  rfl
theorem set_mid {h t : Heap} {o o2 : HV} : (h ++ o :: t).set h.length o2 = h ++ o2 :: t := by
  rw [List.set_append_right _ _ (Nat.le_refl _), Nat.sub_self]
  rfl
theorem items_ref {h : Heap} {a : Nat} {ds : List D} (e : items? h (.ref a) = some ds) : h.at a = some (.lst ds) := by
  have e' : (match h.at a with | some (.lst ds) => some ds | _ => none) = some ds := e
  split at e'
  · rename_i es eo
    cases e'
    exact eo
  · cases e'
theorem ref_items {h : Heap} {a : Nat} {ds : List D} (e : h.at a = some (.lst ds)) : items? h (.ref a) = some ds := by
  show (match h.at a with | some (.lst ds) => some ds | _ => none) = some ds
  rw [e]
theorem items_app {h t : Heap} {x : D} {ds : List D} (e : items? h x = some ds) : items? (h ++ t) x = some ds := by
  cases x <;> first | (cases e; done) | exact e | exact ref_items (at_app (items_ref e))
/-- what hands out these, whatever is laid behind -/
def Walks (w : It) (h : Heap) (ds : List D) : Prop := ∀ t, (∀ i (hi : i < ds.length), w.next i (h ++ t) = .item ds[i]) ∧ w.next ds.length (h ++ t) = .stop
theorem walks_tup {h : Heap} {ds : List D} : Walks (.tup ds) h ds := fun t => ⟨fun i hi => by
    unfold It.next; rw [List.getElem?_eq_getElem hi], by
    unfold It.next; rw [List.getElem?_eq_none (Nat.le_refl _)]; simp⟩
theorem walks_str {h : Heap} {s : List Nat} : Walks (.str s) h (s.map fun c => .str [c]) := fun t => ⟨fun i hi => by
    rw [List.length_map] at hi
    unfold It.next; rw [List.getElem?_eq_getElem hi, List.getElem_map], by
    rw [List.length_map]
    unfold It.next; rw [List.getElem?_eq_none (Nat.le_refl _)]; simp⟩
theorem walks_seq {h : Heap} {a : Nat} {ds : List D} (e : h.at a = some (.lst ds)) : Walks (.seq a) h ds := fun t => ⟨fun i hi => by
    unfold It.next list?; dsimp only; rw [at_app e]; dsimp only; rw [List.getElem?_eq_getElem hi], by
    unfold It.next list?; dsimp only; rw [at_app e]; dsimp only; rw [List.getElem?_eq_none (Nat.le_refl _)]; simp⟩
def intsD (lo : Int) (n : Nat) : List D := (List.range n).map fun i : Nat => D.int (lo + (i : Int))
theorem intsD_len {lo : Int} {n : Nat} : (intsD lo n).length = n := by unfold intsD; simp
theorem intsD_get {lo : Int} {n i : Nat} (h : i < (intsD lo n).length) : (intsD lo n)[i] = .int (lo + i) := by
  have hn : i < n := by rw [intsD_len] at h; exact h
  have e : (intsD lo n)[i]? = some (.int (lo + i)) := by unfold intsD; rw [List.getElem?_map, List.getElem?_range hn]; rfl
  exact Option.some.inj ((List.getElem?_eq_getElem h).symm.trans e)
theorem walks_rng {h : Heap} {lo : Int} {n : Nat} : Walks (.rng lo n 1) h (intsD lo n) := fun t => ⟨fun i hi => by
    rw [intsD_len] at hi
    unfold It.next; rw [if_pos hi, intsD_get, Int.mul_one], by
    rw [intsD_len]
    unfold It.next; rw [if_neg (Nat.lt_irrefl _)]⟩
theorem walks_zip {h : Heap} {a b : It} {xs ys : List D} (ha : Walks a h xs) (hb : Walks b h ys) (hl : xs.length = ys.length) : Walks (.zip a b) h ((xs.zip ys).map fun p => .tup [p.1, p.2]) := fun t => ⟨fun i hi => by
    rw [List.length_map, List.length_zip] at hi
    unfold It.next
    rw [(ha t).1 i (by omega), (hb t).1 i (by omega)]
    dsimp only
    rw [List.getElem_map, List.getElem_zip], by
    rw [List.length_map, List.length_zip, ← hl, Nat.min_self]
    unfold It.next
    rw [(ha t).2, hl, (hb t).2]⟩
theorem walks_enm {h : Heap} {a : It} {xs : List D} (ha : Walks a h xs) : Walks (.enm a) h (((List.range xs.length).zip xs).map fun p => .tup [.int p.1, p.2]) := fun t => ⟨fun i hi => by
    rw [List.length_map, List.length_zip, List.length_range] at hi
    unfold It.next
    rw [(ha t).1 i (by omega)]
    dsimp only
    rw [List.getElem_map, List.getElem_zip, List.getElem_range], by
    rw [List.length_map, List.length_zip, List.length_range, Nat.min_self]
    unfold It.next
    rw [(ha t).2]⟩
theorem iter_seq {h : Heap} {x : D} {ds : List D} (e : items? h x = some ds) : ∃ w, iterOf h x = some w ∧ Walks w h ds := by
  cases x <;> first | (cases e; done) | skip
  · cases e; exact ⟨_, rfl, walks_tup⟩
  · rename_i a
    have eo := items_ref e
    exact ⟨.seq a, by simp [iterOf, eo], walks_seq eo⟩
theorem len_seq {h : Heap} {x : D} {ds : List D} (e : items? h x = some ds) : lenD h x = some ds.length := by
  cases x <;> first | (cases e; done) | skip
  · cases e; rfl
  · have eo := items_ref e
    simp [lenD, eo]
theorem tyd_seq {h : Heap} {x : D} {ds : List D} (e : items? h x = some ds) : isiF [.list, .tuple] x h = .ok (.bl true) h := by
  cases x <;> first | (cases e; done) | skip
  · rfl
  · have eo := items_ref e
    simp [isiF, tyd, tyIs, eo]
theorem idx_seq {h : Heap} {x : D} {ds : List D} {i : Nat} {d : D} (e : items? h x = some ds) (hi : ds[i]? = some d) : idxF x (.int i) h = .ok d h := by
  have hlt := (List.getElem?_eq_some_iff.mp hi).1
  have hx : idxN ds.length (i : Int) = some i := by unfold idxN; rw [if_pos (by omega), if_pos (by omega)]; simp
  cases x <;> first | (cases e; done) | skip
  · cases e
    simp [idxF, hx, hi, optR]
  · have eo := items_ref e
    simp [idxF, eo, hx, hi, optR]
section
variable {C : Ctx} {own : List Nat} {tg : Tg} {it elt : E} {ifs : List E} {env : Env} {h h1 : Heap} {w : It} {n : Nat}
theorem lc_rule (M : Nat → List D → Heap → Prop) (hit : (ev C it).i env h = .ok w h1) (h0 : M 0 [] (h1 ++ [.lst []]))
    (hn : ∀ i acc s, i < n → M i acc s → s.at h1.length = some (.lst acc) → ∃ d e1 b s1, w.next i s = .item d ∧ assign tg d s (wipe env own) = some e1 ∧ cTests (evt C ifs) e1 s = .ok b s1 ∧
      ((b = false ∧ s1.at h1.length = some (.lst acc) ∧ M (i + 1) acc s1) ∨ (b = true ∧ ∃ y s2, (ev C elt).v e1 s1 = .ok y s2 ∧ s2.at h1.length = some (.lst acc) ∧ M (i + 1) (acc ++ [y]) (s2.set h1.length (.lst (acc ++ [y]))))))
    (hs : ∀ acc s, M n acc s → w.next n s = .stop) (hf : n < C.P.fuel) (hz : n ≤ sizeLine) :
    ∃ acc s, (ev C (.lc own tg it ifs elt)).v env h = .ok (.ref h1.length) s ∧ M n acc s ∧ s.at h1.length = some (.lst acc) := by
  have key := turns_rule (it := w) (heap := fun s : Heap => s) (step := lcStep h1.length tg (wipe env own) (cTests (evt C ifs)) (ev C elt).v) (n := n) (B := fun _ => False)
    (I := fun i s => ∃ acc, M i acc s ∧ s.at h1.length = some (.lst acc) ∧ acc.length ≤ i)
    (fun i s ⟨acc, hM, ha, hl⟩ hi => by
      obtain ⟨d, e1, b, s1, q1, q2, q3, q4⟩ := hn i acc s hi hM ha
      refine ⟨d, q1, .inl ?_⟩
      unfold lcStep
      rw [q2]
      dsimp only
      rw [q3]
      rcases q4 with ⟨rfl, q5, q6⟩ | ⟨rfl, y, s2, q5, q6, q7⟩
      · exact ⟨s1, rfl, acc, q6, q5, by omega⟩
      · dsimp only
        rw [q5]
        dsimp only
        rw [q6]
        dsimp only
        rw [if_pos (by omega)]
        refine ⟨_, rfl, acc ++ [y], q7, ?_, by rw [List.length_append]; simp; omega⟩
        unfold Heap.at
        exact List.getElem?_set_self (at_lt q6))
    (fun s ⟨acc, hM, _⟩ => hs acc s hM) C.P.fuel 0 (h1 ++ [.lst []]) (by omega) (by omega) ⟨[], h0, at_mid, Nat.le_refl _⟩
  obtain ⟨s', e, acc, hM, ha, _⟩ := key.resolve_right fun ⟨r, _, hB⟩ => hB
  refine ⟨acc, s', ?_, hM, ha⟩
  show (cLc C.P.fuel own tg (ev C it).i (cTests (evt C ifs)) (ev C elt).v) env h = _
  unfold cLc
  rw [hit]
  show (match turns w (fun s : Heap => s) (lcStep h1.length tg (wipe env own) (cTests (evt C ifs)) (ev C elt).v) C.P.fuel 0 (h1 ++ [.lst []]) with | some (.inl s) => Res.ok (D.ref h1.length) s | _ => .err) = _
  rw [e]
theorem take_snoc {α β : Type} {f : α → β} {ds : List α} {i : Nat} (hi : i < ds.length) : (ds.take (i + 1)).map f = (ds.take i).map f ++ [f ds[i]] := by
  rw [List.take_succ_eq_append_getElem hi, List.map_append]
  rfl
variable {ds : List D} {f : D → D} {E' : D → Env}
theorem lc_map (hit : (ev C it).i env h = .ok w h1) (hw : Walks w h1 ds) (ha : ∀ d ∈ ds, ∀ t, assign tg d (h1 ++ t) (wipe env own) = some (E' d))
    (he : ∀ d ∈ ds, ∀ t, ∃ t', (ev C elt).v (E' d) (h1 ++ t) = .ok (f d) (h1 ++ (t ++ t'))) (hf : ds.length < C.P.fuel) (hz : ds.length ≤ sizeLine) :
    ∃ t', (ev C (.lc own tg it [] elt)).v env h = .ok (.ref h1.length) (h1 ++ .lst (ds.map f) :: t') := by
  obtain ⟨acc, s, q1, ⟨t', q2, q3⟩, q4⟩ := lc_rule (C := C) (own := own) (tg := tg) (it := it) (elt := elt) (ifs := []) (n := ds.length) (M := fun i acc s => ∃ t', s = h1 ++ .lst acc :: t' ∧ acc = (ds.take i).map f) hit ⟨[], rfl, rfl⟩
    (fun i acc s hi ⟨t', e1, e2⟩ _ => by
      subst e1
      have hm : ds[i] ∈ ds := List.getElem_mem hi
      obtain ⟨t2, e3⟩ := he _ hm (.lst acc :: t')
      refine ⟨ds[i], E' ds[i], true, _, (hw _).1 i hi, ha _ hm _, rfl, .inr ⟨rfl, f ds[i], _, e3, ?_, t' ++ t2, ?_, ?_⟩⟩
      · exact at_mid
      · exact set_mid
      · rw [e2, take_snoc hi])
    (fun acc s ⟨t', e1, _⟩ => by subst e1; exact (hw _).2) hf hz
  refine ⟨t', ?_⟩
  rw [q1, q2, q3, List.take_length]
theorem lc_map0 (hit : (ev C it).i env h = .ok w h1) (hw : Walks w h1 ds) (ha : ∀ d ∈ ds, ∀ t, assign tg d (h1 ++ t) (wipe env own) = some (E' d))
    (he : ∀ d ∈ ds, ∀ t, (ev C elt).v (E' d) (h1 ++ t) = .ok (f d) (h1 ++ t)) (hf : ds.length < C.P.fuel) (hz : ds.length ≤ sizeLine) :
    (ev C (.lc own tg it [] elt)).v env h = .ok (.ref h1.length) (h1 ++ [.lst (ds.map f)]) := by
  obtain ⟨acc, s, q1, ⟨q2, q3⟩, q4⟩ := lc_rule (C := C) (own := own) (tg := tg) (it := it) (elt := elt) (ifs := []) (n := ds.length) (M := fun i acc s => s = h1 ++ [.lst acc] ∧ acc = (ds.take i).map f) hit ⟨rfl, rfl⟩
    (fun i acc s hi ⟨e1, e2⟩ _ => by
      subst e1
      have hm : ds[i] ∈ ds := List.getElem_mem hi
      refine ⟨ds[i], E' ds[i], true, _, (hw _).1 i hi, ha _ hm _, rfl, .inr ⟨rfl, f ds[i], _, he _ hm _, at_mid, set_mid, ?_⟩⟩
      rw [e2, take_snoc hi])
    (fun acc s ⟨e1, _⟩ => by subst e1; exact (hw _).2) hf hz
  rw [q1, q2, q3, List.take_length]
/-- a loop without break -/
theorem for_rule {b : List S} (I : Nat → Env → Heap → Prop) (hit : (ev C it).i env h = .ok w h1) (h0 : I 0 env h1)
    (hn : ∀ i e s, i < n → I i e s → ∃ d e1 e2 s2, w.next i s = .item d ∧ assign tg d s e = some e1 ∧ execSs C b e1 s = .nx e2 s2 ∧ I (i + 1) e2 s2)
    (hs : ∀ e s, I n e s → w.next n s = .stop) (hf : n < C.P.fuel) : ∃ e2 s2, execS C (.for_ tg it b) env h = .nx e2 s2 ∧ I n e2 s2 := by
  have key := turns_rule (it := w) (heap := fun s : Env × Heap => s.2) (step := stepF tg (execSs C b)) (n := n) (B := fun _ => False) (I := fun i s => I i s.1 s.2)
    (fun i s hI hi => by
      obtain ⟨d, e1, e2, s2, q1, q2, q3, q4⟩ := hn i s.1 s.2 hi hI
      refine ⟨d, q1, .inl ⟨(e2, s2), ?_, q4⟩⟩
      unfold stepF
      rw [q2]
      dsimp only
      rw [q3])
    (fun s hI => hs s.1 s.2 hI) C.P.fuel 0 (env, h1) (by omega) (by omega) h0
  obtain ⟨s', e, hI⟩ := key.resolve_right fun ⟨r, _, hB⟩ => hB
  refine ⟨s'.1, s'.2, ?_, hI⟩
  unfold execS loopF evalI
  rw [hit]
  show finT (turns _ _ _ _ _ _) = _
  rw [e]
  rfl
end
def pC (P : Prog) (n : Nat) (h : Heap) (tl : Bool) : Ctx := { P := P, call := callF P (n + 1), base := h.length, low := callF P n, tl := tl }
theorem pure_ret {P : Prog} {n b k : Nat} {f : Fn} {ds : List D} {h h' : Heap} {d : D} (hk : P.fns[k]? = some f) (hp : f.pure = true) (hl : ds.length = f.np)
    (hx : execSs (pC P n h f.lam) f.body (ds.map some ++ List.replicate (f.ns - f.np) none) h = .ret d h') (hd : d.under h.length = true) : callF P (n + 2) b k ds h = .ok d h := by
  show bodyF P (callF P (n + 1)) (callF P n) true b k ds h = _
  unfold bodyF
  rw [hk]
  dsimp only
  rw [if_pos hl, hp, if_pos rfl]
  have := hx
  unfold pC at this
  rw [Bool.true_and, this]
  dsimp only
  unfold fin compact
  rw [if_pos rfl, if_pos hd]
theorem pure_lst {P : Prog} {n b k a : Nat} {f : Fn} {ds es : List D} {h h' : Heap} (hk : P.fns[k]? = some f) (hp : f.pure = true) (hl : ds.length = f.np)
    (hx : execSs (pC P n h f.lam) f.body (ds.map some ++ List.replicate (f.ns - f.np) none) h = .ret (.ref a) h') (ha : h'.at a = some (.lst es)) (hle : h.length ≤ a) (hd : D.unders h.length es = true) :
    callF P (n + 2) b k ds h = .ok (.ref h.length) (h ++ [.lst es]) := by
  show bodyF P (callF P (n + 1)) (callF P n) true b k ds h = _
  unfold bodyF
  rw [hk]
  dsimp only
  rw [if_pos hl, hp, if_pos rfl]
  have := hx
  unfold pC at this
  rw [Bool.true_and, this]
  dsimp only
  unfold fin compact
  rw [if_pos rfl, if_neg (by unfold D.under; simpa using hle)]
  dsimp only
  rw [ha]
  dsimp only
  rw [if_pos hd]
/-- a def that ends without return -/
theorem pure_non {P : Prog} {n b k : Nat} {f : Fn} {ds : List D} {h h' : Heap} {e : Env} (hk : P.fns[k]? = some f) (hp : f.pure = true) (hl : ds.length = f.np)
    (hx : execSs (pC P n h f.lam) f.body (ds.map some ++ List.replicate (f.ns - f.np) none) h = .nx e h') : callF P (n + 2) b k ds h = .ok .non h := by
  show bodyF P (callF P (n + 1)) (callF P n) true b k ds h = _
  unfold bodyF
  rw [hk]
  dsimp only
  rw [if_pos hl, hp, if_pos rfl]
  have := hx
  unfold pC at this
  rw [Bool.true_and, this]
  dsimp only
  unfold fin compact
  rw [if_pos rfl, if_pos (show D.under h.length .non = true from rfl)]
/-- a def that keeps what it left -/
theorem pure_all {P : Prog} {n b k a : Nat} {f : Fn} {ds es : List D} {h h' : Heap} (hk : P.fns[k]? = some f) (hp : f.pure = true) (hl : ds.length = f.np)
    (hx : execSs (pC P n h f.lam) f.body (ds.map some ++ List.replicate (f.ns - f.np) none) h = .ret (.ref a) h') (ha : h'.at a = some (.lst es)) (hle : h.length ≤ a) (hd : D.unders h.length es = false) :
    callF P (n + 2) b k ds h = .ok (.ref a) h' := by
  show bodyF P (callF P (n + 1)) (callF P n) true b k ds h = _
  unfold bodyF
  rw [hk]
  dsimp only
  rw [if_pos hl, hp, if_pos rfl]
  have := hx
  unfold pC at this
  rw [Bool.true_and, this]
  dsimp only
  unfold fin compact
  rw [if_pos rfl, if_neg (by unfold D.under; simpa using hle)]
  dsimp only
  rw [ha]
  dsimp only
  rw [if_neg (by rw [hd]; exact Bool.false_ne_true)]
def bSo (k : Nat) : List S := [.ite (.cmp .Is (.var 1) .cnon) [.ret (.cmp .Is (.var 0) .cnon)] [], .ite (.isi (.var 1) [.tuple]) [.ite (.orv (.notv (.isi (.var 0) [.tuple])) (.cmp .NotEq (.bi .len [.var 0]) (.bi .len [.var 1]))) [.ret (.cbl false)] [], .for_ (.nm 2) (.rng1 (.bi .len [.var 1])) [.ite (.notv (.call k [.idx (.var 0) (.var 2), .idx (.var 1) (.var 2)])) [.ret (.cbl false)] []], .ret (.cbl true)] [], .ite (.orv (.isi (.var 1) [.bool]) (.isi (.var 0) [.bool])) [.ret (.andv (.isi (.var 1) [.bool]) (.andv (.isi (.var 0) [.bool]) (.cmp .Eq (.var 0) (.var 1))))] [], .ite (.isi (.var 1) [.int]) [.ret (.andv (.isi (.var 0) [.int]) (.cmp .Eq (.var 0) (.var 1)))] [], .ret (.andv (.isi (.var 1) [.str]) (.andv (.isi (.var 0) [.str]) (.cmp .Eq (.var 0) (.var 1))))]
mutual
/-- data: at most m tuples deep, rows short -/
def pl : Nat → D → Bool
  | _, .non => true
  | _, .bl _ => true
  | _, .int _ => true
  | _, .str _ => true
  | m, .tup ds => decide (m ≠ 0) && decide (ds.length < 4000) && pls (m - 1) ds
  | _, _ => false
def pls : Nat → List D → Bool
  | _, [] => true
  | m, d :: ds => pl m d && pls m ds
end
theorem pls_mem {m : Nat} : ∀ {ds : List D}, pls m ds = true → ∀ d ∈ ds, pl m d = true
  | d :: ds, h, x, hx => by
    unfold pls at h
    obtain ⟨h1, h2⟩ := Bool.and_eq_true_iff.mp h
    rcases List.mem_cons.mp hx with rfl | hx
    · exact h1
    · exact pls_mem h2 x hx
theorem eqL_self : ∀ s : List Nat, eqL s s = true
  | [] => rfl
  | c :: s => by unfold eqL; rw [if_pos rfl]; exact eqL_self s
theorem eq_str (a b : List Nat) (h : Heap) : cmpop .Eq (.str a) (.str b) h = some (eqL a b) := by
  simp [cmpop, eqO, list?, eqW, dat, eqB]
theorem so_non {C : Ctx} {k : Nat} {h : Heap} : execSs C (bSo k) [some .non, some .non, none] h = .ret (.bl true) h := by
  simp [bSo, execSs, seqS, execS, iteS, evalT, evalE, ev, evs, mkV, cOp, cUn, cVar, cC, Res.bind, cmpF, cmpop, optR, truR, truth, ofRes]
theorem so_bl {C : Ctx} {k : Nat} {h : Heap} {v : Bool} : execSs C (bSo k) [some (.bl v), some (.bl v), none] h = .ret (.bl true) h := by
  cases v <;> simp [bSo, execSs, seqS, execS, iteS, evalT, evalE, ev, evs, mkV, cOp, cUn, cVar, cC, Res.bind, cmpF, cmpop, optR, truR, truth, ofRes, isiF, tyd, tyIs, tOr, cOr, cAnd, eqO, eqW, list?, dat, eqB]
theorem so_int {C : Ctx} {k : Nat} {h : Heap} {v : Int} : execSs C (bSo k) [some (.int v), some (.int v), none] h = .ret (.bl true) h := by
  simp [bSo, execSs, seqS, execS, iteS, evalT, evalE, ev, evs, mkV, cOp, cUn, cVar, cC, Res.bind, cmpF, cmpop, optR, truR, truth, ofRes, isiF, tyd, tyIs, tOr, cOr, cAnd, eqO, eqW, list?, dat, eqB]
theorem so_str {C : Ctx} {k : Nat} {h : Heap} {v : List Nat} : execSs C (bSo k) [some (.str v), some (.str v), none] h = .ret (.bl true) h := by
  simp [bSo, execSs, seqS, execS, iteS, evalT, evalE, ev, evs, mkV, cOp, cUn, cVar, cC, Res.bind, cmpF, cmpop, optR, truR, truth, ofRes, isiF, tyd, tyIs, tOr, cOr, cAnd, eqO, eqW, list?, dat, eqB, eqL_self]
theorem rng_small {n : Nat} (h : n < 4000) : rngSmall (n : Int) = true := by
  unfold rngSmall
  rw [Bool.and_eq_true, decide_eq_true_eq, decide_eq_true_eq]
  omega
theorem rng1_ev {C : Ctx} {e : E} {env : Env} {h h1 : Heap} {j : Int} (he : (ev C e).v env h = .ok (.int j) h1) (hj : rngSmall j = true) : (ev C (.rng1 e)).i env h = .ok (.rng 0 j.toNat 1) h1 := by
  simp only [ev, mkI, iRng1, he, Res.bind, hj, if_true]
theorem rng2_ev {C : Ctx} {e e2 : E} {env : Env} {h h1 h2 : Heap} {i j : Int} (he : (ev C e).v env h = .ok (.int i) h1) (he2 : (ev C e2).v env h1 = .ok (.int j) h2) (hi : rngSmall i = true) (hj : rngSmall j = true) : (ev C (.rng2 e e2)).i env h = .ok (.rng i (j - i).toNat 1) h2 := by
  simp only [ev, mkI, iRng2, he, he2, Res.bind, hi, hj, Bool.and_self, if_true]
theorem so_rng {C : Ctx} {ds : List D} {h : Heap} {x : Option D} (hl : ds.length < 4000) : (ev C (.rng1 (.bi .len [.var 1]))).i [x, some (.tup ds), none] h = .ok (.rng 0 ds.length 1) h :=
  rng1_ev (j := (ds.length : Int)) rfl (rng_small hl)
theorem so_c1 {C : Ctx} {h : Heap} {ds : List D} : execS C (.ite (.cmp .Is (.var 1) .cnon) [.ret (.cmp .Is (.var 0) .cnon)] []) [some (.tup ds), some (.tup ds), none] h = .nx [some (.tup ds), some (.tup ds), none] h := by
    simp [execSs, seqS, execS, iteS, evalT, evalE, ev, evs, mkV, cOp, cUn, cVar, cC, Res.bind, cmpF, cmpop, optR, truR, truth, ofRes]
theorem so_c2 {C : Ctx} {h : Heap} {ds : List D} : execS C (.ite (.orv (.notv (.isi (.var 0) [.tuple])) (.cmp .NotEq (.bi .len [.var 0]) (.bi .len [.var 1]))) [.ret (.cbl false)] []) [some (.tup ds), some (.tup ds), none] h = .nx [some (.tup ds), some (.tup ds), none] h := by
    simp [execS, execSs, iteS, evalT, ev, evs, mkV, cUn, cOp, cApp, cArgs, cVar, Res.bind, isiF, tyd, tyIs, truR, truth, tOr, tNot, cmpF, cmpop, eqO, list?, eqW, dat, eqB, biF, lenD, optR]
theorem so_c3 {C : Ctx} {h : Heap} {ds : List D} : (ev C (.isi (.var 1) [.tuple])).t [some (.tup ds), some (.tup ds), none] h = .ok true h := by
    simp [evalT, ev, mkV, cUn, cVar, Res.bind, isiF, tyd, tyIs, truR, truth]
theorem so_c4 {C : Ctx} {h : Heap} {ds : List D} {x : Option D} : execS C (.ret (.cbl true)) [some (.tup ds), some (.tup ds), x] h = .ret (.bl true) h := by simp [execS, evalE, ev, mkV, cC, ofRes]
theorem so_body {C : Ctx} {k i : Nat} {s : Heap} {ds : List D} {d : D} (hi : ds[i]? = some d) (ih : C.call C.base k [d, d] s = .ok (.bl true) s) :
    execSs C [.ite (.notv (.call k [.idx (.var 0) (.var 2), .idx (.var 1) (.var 2)])) [.ret (.cbl false)] []] [some (.tup ds), some (.tup ds), some (.int i)] s = .nx [some (.tup ds), some (.tup ds), some (.int i)] s := by
  have ix : idxF (.tup ds) (.int i) s = .ok d s := idx_seq rfl hi
  simp only [execSs, seqS, execS, iteS, evalT, ev, evs, mkV, cOp, cUn, cApp, cArgs, cVar, Res.bind, List.getElem?_cons_zero, List.getElem?_cons_succ, ix, ih, truR, truth, tNot, Bool.not_true]
section
variable {C : Ctx} {t e : E} {a b ss : List S} {st : S} {env env1 : Env} {h h1 h2 : Heap} {d : D}
theorem ite_t (ht : (ev C t).t env h = .ok true h1) : execS C (.ite t a b) env h = execSs C a env h1 := by
  unfold execS iteS evalT
  rw [ht]
theorem ite_f (ht : (ev C t).t env h = .ok false h1) : execS C (.ite t a b) env h = execSs C b env h1 := by
  unfold execS iteS evalT
  rw [ht]
theorem ss_nx (e : execS C st env h = .nx env1 h1) : execSs C (st :: ss) env h = execSs C ss env1 h1 := by
  rw [execSs_cons, e]
theorem ss_ret (e : execS C st env h = .ret d h1) : execSs C (st :: ss) env h = .ret d h1 := by
  rw [execSs_cons, e]
theorem ret_ev (he : (ev C e).v env h = .ok d h1) : execS C (.ret e) env h = .ret d h1 := by
  unfold execS evalE ofRes
  rw [he]
theorem set_ev {i : Nat} (he : (ev C e).v env h = .ok d h1) : execS C (.set i e) env h = .nx (env.put i d) h1 := by
  unfold execS evalE ofRes
  rw [he]
theorem expr_ev (he : (ev C e).v env h = .ok d h1) : execS C (.expr e) env h = .nx env h1 := by
  unfold execS evalE ofRes
  rw [he]
theorem asg_ev {tg : Tg} (he : (ev C e).v env h = .ok d h1) (ha : assign tg d h1 env = some env1) : execS C (.asg tg e) env h = .nx env1 h1 := by
  unfold execS evalE ofRes
  rw [he]
  dsimp only
  rw [ha]
end
theorem so_tup {C : Ctx} {k : Nat} {h : Heap} {ds : List D} (hl : ds.length < 4000) (hf : 4000 ≤ C.P.fuel) (hc : ∀ d ∈ ds, C.call C.base k [d, d] h = .ok (.bl true) h) : execSs C (bSo k) [some (.tup ds), some (.tup ds), none] h = .ret (.bl true) h := by
  obtain ⟨e2, s2, q1, x, rfl, rfl⟩ := for_rule (C := C) (tg := .nm 2) (it := .rng1 (.bi .len [.var 1])) (env := [some (.tup ds), some (.tup ds), none]) (h := h) (h1 := h) (w := .rng 0 ds.length 1) (n := ds.length) (b := [.ite (.notv (.call k [.idx (.var 0) (.var 2), .idx (.var 1) (.var 2)])) [.ret (.cbl false)] []])
    (I := fun i e s => ∃ x, e = [some (.tup ds), some (.tup ds), x] ∧ s = h)
    (so_rng hl) ⟨none, rfl, rfl⟩
    (fun i e s hi ⟨x, e1, e2⟩ => by
      subst e1 e2
      refine ⟨.int i, [some (.tup ds), some (.tup ds), some (.int i)], [some (.tup ds), some (.tup ds), some (.int i)], s, rng_next hi, rfl, ?_, some (.int i), rfl, rfl⟩
      exact so_body (List.getElem?_eq_getElem hi) (hc ds[i] (List.getElem_mem hi)))
    (fun e s ⟨x, e1, e2⟩ => rng_stop) (by omega)
  have e3 : execS C (.ite (.isi (.var 1) [.tuple]) [.ite (.orv (.notv (.isi (.var 0) [.tuple])) (.cmp .NotEq (.bi .len [.var 0]) (.bi .len [.var 1]))) [.ret (.cbl false)] [], .for_ (.nm 2) (.rng1 (.bi .len [.var 1])) [.ite (.notv (.call k [.idx (.var 0) (.var 2), .idx (.var 1) (.var 2)])) [.ret (.cbl false)] []], .ret (.cbl true)] []) [some (.tup ds), some (.tup ds), none] s2 = .ret (.bl true) s2 := by
    rw [ite_t so_c3, ss_nx so_c2, ss_nx q1, ss_ret so_c4]
  unfold bSo
  rw [ss_nx so_c1, ss_ret e3]
theorem so_ok {P : Prog} {k : Nat} (hk : P.fns[k]? = some ⟨2, 3, bSo k, true, false⟩) (hf : 4000 ≤ P.fuel) : ∀ (m n : Nat) (h : Heap) (b : Nat) (d : D), pl m d = true → callF P (n + m + 2) b k [d, d] h = .ok (.bl true) h
  | m, n, h, b, .non, _ => pure_ret (n := n + m) hk rfl rfl so_non rfl
  | m, n, h, b, .bl v, _ => pure_ret (n := n + m) hk rfl rfl so_bl rfl
  | m, n, h, b, .int v, _ => pure_ret (n := n + m) hk rfl rfl so_int rfl
  | m, n, h, b, .str v, _ => pure_ret (n := n + m) hk rfl rfl so_str rfl
  | 0, n, h, b, .tup ds, hd => by unfold pl at hd; simp at hd
  | m + 1, n, h, b, .tup ds, hd => by
    unfold pl at hd
    simp only [Bool.and_eq_true, decide_eq_true_eq, Nat.add_sub_cancel] at hd
    exact pure_ret (n := n + (m + 1)) hk rfl rfl (so_tup hd.1.2 hf fun d hm => so_ok hk hf m n h h.length d (pls_mem hd.2 d hm)) rfl
  | m, n, h, b, .ref a, hd => by unfold pl at hd; cases hd
  | m, n, h, b, .fn a, hd => by unfold pl at hd; cases hd
  | m, n, h, b, .clo a _, hd => by unfold pl at hd; cases hd
  | m, n, h, b, .frz _, hd => by unfold pl at hd; cases hd
end Y
set_option Elab.async false
set_option linter.all false
set_option maxRecDepth 100000
set_option maxHeartbeats 4000000
namespace Y
open PySem PySem.Spec PyProof.Rows
open L2 (V Hp upd upd_same upd_ne ne_of ne_of_none RelV Vals SqL SqT Rd Cx Inv PE PT PTs PW PS PSs PA PG PGs PI TE TT TS TA TG TGs TI VK XK WX Ends EP Takes Room)
theorem call_succ (P : Prog) (n : Nat) : ∃ call low tl, callF P (n + 1) = bodyF P call low tl := by
  cases n with
  | zero => exact ⟨noCall, noCall, false, rfl⟩
  | succ n => exact ⟨callF P (n + 1), callF P n, true, rfl⟩
theorem row_under {row : List Y.D} {n m : Nat} (h : RowOk n row) : Y.D.unders m row = true := by
  have h2 := h.2
  clear h
  induction row with
  | nil => rfl
  | cons d ds ih =>
    obtain ⟨i, rfl, _⟩ := h2 d List.mem_cons_self
    unfold D.unders
    rw [ih fun x hx => h2 x (List.mem_cons_of_mem _ hx)]
    rfl
theorem num_call {P : Prog} {n b k : Nat} {sc : Y.D} {hS : Y.Heap} {ns : List Int} (hk : P.fns[k]? = some ⟨1, 6, bNum, true, false⟩) (hf : 1000 ≤ P.fuel) (hs : ScOk sc hS ns) (hn : ns.length ≤ 63) :
    ∃ row : List Y.D, row ≠ [] ∧ RowOk 3781 row ∧ callF P (n + 1) b k [sc] hS = .ok (.ref hS.length) (hS ++ [.lst row]) := by
  obtain ⟨call, low, tl, e⟩ := call_succ P n
  obtain ⟨row, h1, h2, h3⟩ := num_body (C := { P := P, call := call, base := hS.length, low := low, tl := false }) (low := low) hf rfl hs hn
  refine ⟨row, h1, h2, ?_⟩
  rw [e]
  unfold bodyF
  rw [hk]
  dsimp only
  have h3' : execSs { P := P, call := call, base := if true = true then hS.length else b, low := low, tl := tl && false } bNum (List.map some [sc] ++ List.replicate (6 - 1) none) hS = .ret (.ref hS.length) (hp hS row (ns.map .int)) := by
    rw [Bool.and_false]; exact h3
  rw [if_pos (by rfl), h3']
  dsimp only
  unfold fin compact
  rw [if_pos rfl, if_neg (by unfold D.under; simp)]
  dsimp only
  rw [hp_at0]
  dsimp only
  rw [if_pos (row_under h2)]
theorem cut63 {ns : List Int} (hn : ns.length ≤ 63) : cut (ns.map Y.D.int) none (some 63) = ns.map .int := by
  have hh : cutHi (ns.map Y.D.int).length (some 63) = ns.length := by
    rw [List.length_map]
    unfold cutHi clip
    dsimp only
    rw [if_pos (by decide)]
    split
    · have : (63 : Int).toNat = 63 := rfl
      omega
    · rfl
  have hl : cutLo (ns.map Y.D.int).length none = 0 := rfl
  unfold cut
  rw [hh, hl, List.drop_zero, List.take_of_length_le (by rw [List.length_map]; exact Nat.le_refl _)]
theorem sc_frz {ns : List Int} (hn : ns.length ≤ 63) : ScOk (.frz (ns.map .int)) [] ns := fun h _ _ => by
  show mkLst (cut (ns.map Y.D.int) none (some 63)) h = _
  rw [cut63 hn]
  unfold mkLst
  rw [if_pos (by rw [List.length_map]; unfold sizeLine; omega)]
theorem sc_ref {ns : List Int} (hn : ns.length ≤ 63) : ScOk (.ref 0) [.lst (ns.map .int)] ns := fun h _ hs => by
  have h0 := hs 0 (by simp)
  unfold slcV list? Heap.at
  dsimp only
  rw [h0]
  dsimp only [List.getElem?_cons_zero]
  rw [cut63 hn]
  unfold mkLst
  rw [if_pos (by rw [List.length_map]; unfold sizeLine; omega)]
/-- the law's promise -/
def spLaw (L : Lk) (K : PySem.W.Frag) : L2.Sp := fun vs H Q _ => ∃ (a : Addr) (ns : List Int), vs = [.ref a] ∧ SqL K H a (ns.map V.int) ∧ ns.length ≤ 63 ∧ LamX.Tabs L.tb H ∧ ∀ H', Q (.bl true) H'
def lawC (D : LawD) (n : Nat) (lam : Bool) : Ctx := { P := D.P, call := callF D.P (n + 1), base := 0, low := callF D.P n, tl := lam }
/-- a heap's object that lies under n: of lists alone -/
def HV.und (n : Nat) : HV → Bool
  | .lst ds => D.unders n ds
  | _ => false
/-- what may be forgotten: all objects from n on, and what the slots held of them -/
structure Tr (n : Nat) (env : Y.Env) (h : Y.Heap) (env1 : Y.Env) : Prop where
  le : n ≤ h.length
  hv : ∀ (i : Nat) (o : HV), i < n → h[i]? = some o → o.und n = true
  len : env1.length = env.length
  er : ∀ (i : Nat) (d : Y.D), env1[i]? = some (some d) → env[i]? = some (some d) ∧ d.under n = true
/-- the rest of a law gives True: by a run, or by one statement and the rest, or with things forgotten -/
inductive YRun (C : Ctx) : List S → Y.Env → Y.Heap → Prop
  | ret {ss : List S} {env : Y.Env} {h h' : Y.Heap} (e : execSs C ss env h = .ret (.bl true) h') : YRun C ss env h
  | step {s : S} {ss : List S} {env env1 : Y.Env} {h h1 : Y.Heap} (e : execS C s env h = .nx env1 h1) (g : YRun C ss env1 h1) : YRun C (s :: ss) env h
  | trunc {n : Nat} {ss : List S} {env env1 : Y.Env} {h : Y.Heap} (t : Tr n env h env1) (g : YRun C ss env1 (h.take n)) : YRun C ss env h
theorem SR.trunc {L : Lk} {K : PySem.W.Frag} {env env1 : Y.Env} {h : Y.Heap} {r : List Addr} {σ : Sg} {H : Hp} {n : Nat} (s : SR L K env h r σ H) (t : Tr n env h env1) : SR L K env1 (h.take n) (r.take n) σ H := by
  have hl : (r.take n).length = n := by rw [List.length_take, s.hr.len]; exact Nat.min_eq_left t.le
  refine ⟨⟨by rw [hl, List.length_take]; exact (Nat.min_eq_left t.le).symm, s.hr.nd.sublist (List.take_sublist n r), fun i o p h1 h2 => ?_, s.hr.tab⟩, by rw [t.len]; exact s.len, fun i d e => ?_⟩
  · have hi : i < n := by
      have := (List.getElem?_eq_some_iff.mp h2).1
      omega
    rw [List.getElem?_take, if_pos hi] at h1 h2
    have hu := t.hv i o hi h1
    have ho := s.hr.at_ i o p h1 h2
    cases o with
    | lst ds =>
      obtain ⟨vs, e1, e2⟩ := ho
      exact ⟨vs, e1, e2.under (List.take_prefix n r) hl hu⟩
    | dic kvs => cases hu
    | st ks => cases hu
    | ins c fs => cases hu
  · obtain ⟨e1, e2⟩ := t.er i d e
    obtain ⟨v, g1, g2⟩ := s.er i d e1
    exact ⟨v, g1, g2.under (List.take_prefix n r) hl e2⟩
theorem run_pss {L : Lk} {C : Ctx} {n : Nat} {W : XK} {X : Cx} {ss : List S} {env : Y.Env} {h : Y.Heap} (g : GoodB L C n W X) (R : YRun C ss env h) : ∀ ps : List Stmt, chkSs L.nm X.N X.env.scope ss ps = true →
    PSs X ps (fun D σ H => ∃ r, SR L X.K env h r σ H ∧ ∀ H', D.rt (.bl true) H') := by
  induction R with
  | ret e => exact fun ps hc => ⟨fun pins s σ H D I ⟨r, sr, q⟩ => (execSs_ok _ g hc).run pins s σ H D I ⟨_, _, r, sr, by
      rw [e]
      intro v H2 r2 _ _ _ g2
      unfold RelD at g2
      rw [g2]
      exact q H2⟩⟩
  | @step st ss env env1 h h1 e R ih =>
    intro ps hc
    cases ps with
    | nil => unfold chkSs at hc; cases hc
    | cons p1 pr =>
      unfold chkSs at hc
      obtain ⟨c1, c2⟩ := Bool.and_eq_true_iff.mp hc
      refine ⟨fun pins s σ H D I ⟨r, sr, q⟩ => (L2.pss_cons (execS_ok st g c1) (ih pr c2)).run pins s σ H D I ⟨_, _, r, sr, ?_⟩⟩
      rw [e]
      exact fun σ' H' r' _ _ sr' => ⟨r', sr', q⟩
  | trunc t R ih => exact fun ps hc => ⟨fun pins s σ H D I ⟨r, sr, q⟩ => (ih ps hc).run pins s σ H D I ⟨_, sr.trunc t, q⟩⟩
/-- what is run of the rest -/
def tRun (L : Lk) (K : PySem.W.Frag) (C : Ctx) (ss : List S) : TS := fun D σ H => ∃ env h r, SR L K env h r σ H ∧ YRun C ss env h ∧ ∀ H', D.rt (.bl true) H'
theorem run_ok {L : Lk} {C : Ctx} {n : Nat} {W : XK} {X : Cx} {ss : List S} {ps : List Stmt} (g : GoodB L C n W X) (hc : chkSs L.nm X.N X.env.scope ss ps = true) : PSs X ps (tRun L X.K C ss) :=
  ⟨fun pins s σ H D I ⟨env, h, r, sr, R, q⟩ => (run_pss g R ps hc).run pins s σ H D I ⟨r, sr, q⟩⟩
theorem law_body {D : LawD} {P : Program} {w : World} {K : PySem.W.Frag} {mg : Str → Option Value} {base h : PySem.Heap} {n k kN m : Nat} {d : DI} {rest : List S} {lam : Bool} (A : At D P w K mg base h) (hd : D.fns[k]? = some d) (hps : d.ps = [("script" : Str)])
    (hfk : D.P.fns[k]? = some ⟨1, m + 2, .set 1 (.call kN [.var 0]) :: rest, true, lam⟩) (hN : D.P.fns[kN]? = some ⟨1, 6, bNum, true, false⟩) (hfu : 1000 ≤ D.P.fuel)
    (plain : ∀ row : List Y.D, row ≠ [] → RowOk 3781 row → YRun (lawC D n lam) rest (none :: some (.ref 0) :: List.replicate m none) [.lst row]) :
    L2.FnOk P w K mg base (L2.CX P w) (lvl (n + 2)) ((D.lk K).fa k) ((D.lk K).fd k) ((D.lk K).ps k) (spLaw (D.lk K) K) := by
  have hx : (D.lk K).nm.fn[k]? = some d.nm := by
    show (D.fns.map DI.nm)[k]? = some d.nm
    rw [List.getElem?_map, hd]; rfl
  obtain ⟨f, hf, h2, hb⟩ := A.fnLk k d.nm hx
  rw [hfk] at hf
  cases hf
  rcases hb with hb | ⟨x', qual, st, N, F, S, hchk, h1⟩
  · cases hb
  obtain ⟨oc, od, kV, doc, pm, an, cdv, ct, osl, hfd, lkf, hcd, hcode⟩ := F
  rw [hfd]
  rw [hfd] at lkf
  have gps : (D.lk K).ps k = [("script" : Str)] := by rw [(A.dat hd).2.1]; exact hps
  refine L2.fn_of (k := lvl (n + 1) + 1) lkf hcd S (fun vs H Q E ⟨a, ns, e, _⟩ => by rw [e, gps]; rfl) fun B outer s H vs Q E hr ⟨a, ns, ev, hS, hl, tab, hq⟩ => ?_
  subst ev
  have gB := good_of (b := 0) (tl := lam) (call := callF D.P (n + 1)) (low := callF D.P n) (f := (D.lk K).fa k) (cdv := cdv) (A := B) (outer := outer) (s := s) (H := H) (E := E) A.link S.nd hcode hr (A.all (n + 1)) (fun _ => ⟨n, by unfold lvl; omega, A.all n⟩)
  cases hst : L2.defBody st with
  | nil => rw [hst] at hchk; cases hchk
  | cons p1 pr =>
  rw [hst] at hchk
  unfold chkSs at hchk
  obtain ⟨c1, c2⟩ := Bool.and_eq_true_iff.mp hchk
  refine ⟨_, L2.pss_cons (execS_ok _ gB c1) (run_ok gB c2), ?_⟩
  have gN : N.length = m + 2 := h1
  have go : ∀ (sc : Y.D) (hS' : Y.Heap) (r : List Addr), ScOk sc hS' ns → HR (D.lk K) K r hS' H → RelD (D.lk K) K H r sc (.ref a) →
      ∃ env h r, SR (D.lk K) K env h r (L2.start N [V.ref a]) H ∧ PostS (D.lk K) K { nx := tRun (D.lk K) K (lawC D n lam) rest { nx := fun _ H' => Q .non H', rt := Q }, rt := Q } E r H (execS (lawC D n lam) (.set 1 (.call kN [.var 0])) env h) := fun sc hS' r hsc hr' g => by
    obtain ⟨row, n1, n2, e⟩ := num_call (P := D.P) (n := n) (b := 0) hN hfu hsc hl
    refine ⟨[some sc] ++ List.replicate (N.length - 1) none, hS', r, start_sr (ds := [sc]) (vs := [.ref a]) hr' (by unfold RelDs; exact ⟨_, _, rfl, g, by unfold RelDs; rfl⟩), ?_⟩
    have e1 : execS (lawC D n lam) (.set 1 (.call kN [.var 0])) ([some sc] ++ List.replicate (N.length - 1) none) hS' = .nx (some sc :: some (.ref hS'.length) :: List.replicate m none) (hS' ++ [.lst row]) := by
      rw [gN]
      show ofRes (Res.bind (Res.bind (Res.ok sc hS') fun d h => Res.bind (Res.ok [] h) fun ds h => .ok (d :: ds) h) fun ds h => callF D.P (n + 1) 0 kN ds h) _ = _
      unfold Res.bind
      dsimp only
      rw [e]
      rfl
    rw [e1]
    intro σ' H' r' pr' kp s'
    have hlen : r'.length = hS'.length + 1 := by rw [s'.hr.len, List.length_append]; rfl
    have hrow : (hS' ++ [HV.lst row])[hS'.length]? = some (.lst row) := by simp
    obtain ⟨p, hp', hor⟩ := s'.hr.addr hrow
    obtain ⟨vs, hv1, hv2⟩ := hor
    have hv3 : RelDs (D.lk K) K H' [p] row vs := (hv2.under (r := []) (List.nil_prefix) (n := 0) rfl (row_under n2)).mono (Keep.refl _) (List.nil_prefix)
    have ep := plain row n1 n2
    refine ⟨none :: some (.ref 0) :: List.replicate m none, [.lst row], [p], ⟨⟨rfl, by simp, fun i o q e1 e2 => ?_, s'.hr.tab⟩, by rw [← s'.len]; simp, fun i d' e' => ?_⟩, ?_⟩
    · cases i with
      | zero => cases e1; cases e2; exact ⟨vs, hv1, hv3⟩
      | succ i => simp at e1
    · match i, e' with
      | 0, e' => cases e'
      | 1, e' =>
        cases e'
        obtain ⟨v, g1, g2⟩ := s'.er 1 (.ref hS'.length) rfl
        refine ⟨v, g1, ?_⟩
        unfold RelD at g2 ⊢
        obtain ⟨q, rfl, g3⟩ := g2
        rw [hp'] at g3
        cases g3
        exact ⟨p, rfl, rfl⟩
      | i + 2, e' =>
        have e' : (List.replicate m (none : Option Y.D))[i]? = some (some d') := e'
        rw [List.getElem?_replicate] at e'
        split at e' <;> cases e'
    · exact ⟨ep, hq⟩
  have frz : SqF K H a (ns.map V.int) → _ := fun s => go (.frz (ns.map .int)) [] [] (sc_frz hl) ⟨rfl, List.nodup_nil, fun i o p h => by simp at h, tab⟩ (by unfold RelD; exact ⟨a, _, rfl, s, ints_rel⟩)
  rcases hS with (hS | ⟨o, hS⟩) | hS
  · refine go (.ref 0) _ [a] (sc_ref hl) ⟨rfl, by simp, fun i o p h1 h2 => ?_, tab⟩ (by unfold RelD; exact ⟨a, rfl, rfl⟩)
    cases i with
    | zero =>
      cases h1; cases h2
      exact ⟨_, hS, ints_rel⟩
    | succ i => simp at h1
  · exact frz (.inl ⟨o, hS⟩)
  · exact frz (.inr fun H' => .inr hS)
theorem law_at2 {D : LawD} {l : PySem.W.OpenLaw} {w : World} {K : PySem.W.Frag} {mg : Str → Option Value} {h : PySem.Heap} {fa : Addr} {n k kN m : Nat} {d : DI} {rest : List S} {lam : Bool}
    (c : He.SaysX [] D.defs [] D.tf (heapB D) w h K) (kin : K.In h) (ns : h.Ns mainGlobals mg) (hmg : mg d.x = some (.ref fa)) (hd : D.fns[k]? = some d) (hps : d.ps = [("script" : Str)]) (hcl : d.cl = none) (hn : n ≤ 61)
    (txt : textB D = true) (told : ∀ c, D.P.told c = (D.nms[c]?).getD none) (ini : ∀ c, D.P.init c = D.iniF c) (mth : ∀ c m, D.P.meth c m = D.mthF c m)
    (hfk : D.P.fns[k]? = some ⟨1, m + 2, .set 1 (.call kN [.var 0]) :: rest, true, lam⟩) (hN : D.P.fns[kN]? = some ⟨1, 6, bNum, true, false⟩) (hfu : 1000 ≤ D.P.fuel)
    (plain : ∀ row : List Y.D, row ≠ [] → RowOk 3781 row → YRun (lawC D n lam) rest (none :: some (.ref 0) :: List.replicate m none) [.lst row]) :
    LamX.LawAtS l w K (L2.CX l.prog w) 127 63 "script" mg fa h := by
  have lv : lvl (n + 2) ≤ 127 := by unfold lvl; omega
  have hdm : d ∈ D.fns := List.mem_of_getElem? hd
  obtain ⟨fd, F⟩ := c.t.d.defs (d := d.def_) (List.mem_append_left _ (List.mem_map_of_mem hdm))
  obtain ⟨oc, od, kV, doc, pm, an, cdv, ct, osl, e, lk, _⟩ := funD_plain F
  have hex := c.more
  unfold heapB at hex
  simp only [Bool.and_eq_true, Bool.or_eq_true, decide_eq_true_eq, List.all_eq_true] at hex
  obtain ⟨⟨⟨⟨⟨⟨⟨_, q1⟩, _⟩, _⟩, _⟩, _⟩, _⟩, _⟩ := hex
  have hfa : fa = He.ga K d.x := by
    have := PySem.W.mg_of kin ns (He.eqO_ok ((q1 d hdm).resolve_left (by rw [hcl]; exact Bool.noConfusion)))
    rw [hmg] at this
    injection (Option.some.inj this)
  have hat : d.at_ = (d.x, none) := by unfold DI.at_; rw [hcl]
  have gfa : (D.lk K).fa k = fa := by
    have : (D.lk K).fa k = He.fAd K d.at_ := by unfold LawD.lk; dsimp only; rw [hd]; rfl
    rw [this, hat, hfa]; rfl
  have gps : (D.lk K).ps k = [("script" : Str)] := by unfold LawD.lk; dsimp only; rw [hd]; exact hps
  have gfd : (D.lk K).fd k = fd := by unfold LawD.lk; dsimp only; rw [hd]; exact fdOf_eq lk
  have hargs : argsB [("script" : Str)] (L2.defArgs d.st) = true := by
    have h1 := txt
    unfold textB at h1
    simp only [Bool.and_eq_true, List.all_eq_true, List.mem_range, decide_eq_true_eq] at h1
    obtain ⟨f, d', _, e2, _, ha, _⟩ := fnB_ok (h1.1.1.1.2 k (List.getElem?_eq_some_iff.mp hd).1)
    rw [hd] at e2; cases e2
    rw [hps] at ha
    exact ha
  refine ⟨fd, D.tf.map (He.cT K), spLaw (D.lk K) K, fun p hp => ?_, fun p hp => ?_, fun p hp => ?_, fun s u => ?_, fun H a ns hl _ hT hS => ?_, fun base k1 k2 k3 => ?_⟩
  · obtain ⟨p', hp', rfl⟩ := List.mem_map.mp hp
    exact c.empty p' hp'
  · obtain ⟨p', hp', rfl⟩ := List.mem_map.mp hp
    exact c.out p' hp'
  · obtain ⟨p', hp', rfl⟩ := List.mem_map.mp hp
    exact PySem.W.codeHd_of_K kin (c.hd p' hp')
  · rw [e]
    obtain ⟨as, h1, h2, h3⟩ := argsB_ok hargs
    exact BindsTo.of_eq (binds_plain (us := [u]) h1 h2 h3 rfl rfl)
  · have tab : LamX.Tabs (D.lk K).tb H := fun p hp => by
      obtain ⟨p', hp', rfl⟩ := List.mem_map.mp (show p ∈ D.tf.map fun p => ((He.cT K p).2, lamQ p.1) from hp)
      exact ⟨#[], hT _ (List.mem_map_of_mem hp'), by first | trivial | (intro x hx; cases hx) | simp, fun pos cv hc => by cases hc⟩
    exact ⟨a, ns, rfl, hS, hl, tab, fun _ => rfl⟩
  · have A : At D l.prog w K mg base h := ⟨c, k1, k2, k3, txt, told, ini, mth⟩
    have := law_body A hd hps hfk hN hfu plain
    rw [gfa, gfd, gps] at this
    exact this.mono lv
end Y
set_option Elab.async false
set_option linter.all false
set_option maxRecDepth 100000
set_option maxHeartbeats 4000000
namespace Y
def bDraw : List S := [.ite (.cmp .Lt (.var 1) (.bi .len [.var 0])) [.ret (.bin .Mod (.bi .int [.idx (.var 0) (.var 1)]) (.var 2))] [], .set 3 (.bin .Mod (.bi .int [.bin .Add (.bin .Add (.bin .Mult (.idx (.var 0) (.bin .Mod (.bi .int [.var 1]) (.bi .len [.var 0]))) (.cint 40692)) (.bin .Mult (.var 1) (.cint 7919))) (.cint 3)]) (.cint 2147483399)), .ret (.bin .Mod (.bi .int [.bin .Mod (.bi .int [.bin .Add (.bin .Mult (.var 3) (.cint 48271)) (.var 1)]) (.cint 2147483647)]) (.var 2))]
def bTake (kD : Nat) : List S := [.seti (.var 1) (.cint 0) (.bin .Add (.idx (.var 1) (.cint 0)) (.cint 1)), .ret (.call kD [.var 0, .bin .Sub (.idx (.var 1) (.cint 0)) (.cint 1), .var 2])]
theorem idx_of {row : List D} {t : Int} (h0 : 0 ≤ t) (h1 : t < row.length) : idxN row.length t = some t.toNat := by unfold idxN; rw [if_pos h0, if_pos h1]
theorem lt_int (a b : Int) (h : Heap) : cmpop .Lt (.int a) (.int b) h = some (decide (a < b)) := by simp [cmpop, ltW, dat, ltD]
section
variable {C : Ctx} {h : Heap} {row : List D} {a : Nat} {t lim : Int} {m : Nat}
theorem draw_body (ha : h.at a = some (.lst row)) (hr : RowOk m row) (hne : row ≠ []) (ht : 0 ≤ t) (hl : 0 < lim) :
    ∃ v : Int, 0 ≤ v ∧ v < lim ∧ execSs C bDraw [some (.ref a), some (.int t), some (.int lim), none] h = .ret (.int v) h := by
  have hpos : 0 < row.length := List.length_pos_iff.mpr hne
  by_cases hlt : t < row.length
  · have hi : t.toNat < row.length := by omega
    obtain ⟨i, ei, i0, i1⟩ := hr.2 row[t.toNat] (List.getElem_mem hi)
    have eg : row[t.toNat]? = some (.int i) := by rw [List.getElem?_eq_getElem hi, ei]
    refine ⟨i % lim, Int.emod_nonneg _ (by omega), Int.emod_lt_of_pos _ hl, ?_⟩
    simp [bDraw, execSs, seqS, execS, iteS, evalT, evalE, ev, evs, mkV, cOp, cApp, cArgs, cVar, cC, Res.bind, biF, lenD, ha, cmpF, lt_int, optR, truR, truth, hlt, idxF, idx_of ht hlt, eg, binop, binI, hl, ofRes]
  · obtain ⟨j, j0, j1, ej⟩ : ∃ j : Nat, (j : Int) = t % (row.length : Int) ∧ j < row.length ∧ True := by
      have h1 : 0 ≤ t % (row.length : Int) := Int.emod_nonneg _ (by omega)
      have h2 : t % (row.length : Int) < row.length := Int.emod_lt_of_pos _ (by omega)
      exact ⟨(t % (row.length : Int)).toNat, by omega, by omega, trivial⟩
    obtain ⟨i, ei, i0, i1⟩ := hr.2 row[j] (List.getElem_mem j1)
    have eg : row[j]? = some (.int i) := by rw [List.getElem?_eq_getElem j1, ei]
    have hix : idxN row.length (t % (row.length : Int)) = some j := by
      rw [← j0, idx_of (by omega) (by omega)]
      rfl
    have hlp : (0 : Int) < row.length := by omega
    refine ⟨(((i * 40692 + t * 7919 + 3) % 2147483399 * 48271 + t) % 2147483647) % lim, Int.emod_nonneg _ (by omega), Int.emod_lt_of_pos _ hl, ?_⟩
    simp [bDraw, execSs, seqS, execS, iteS, evalT, evalE, ev, evs, mkV, cOp, cApp, cArgs, cVar, cC, Res.bind, biF, lenD, ha, cmpF, lt_int, optR, truR, truth, hlt, idxF, hix, eg, binop, binI, small64, hl, hlp, hpos, ofRes, Env.put]
theorem draw_call {P : Prog} {n b k : Nat} (hk : P.fns[k]? = some ⟨3, 4, bDraw, true, false⟩) (ha : h.at a = some (.lst row)) (hr : RowOk m row) (hne : row ≠ []) (ht : 0 ≤ t) (hl : 0 < lim) :
    ∃ v : Int, 0 ≤ v ∧ v < lim ∧ callF P (n + 1) b k [.ref a, .int t, .int lim] h = .ok (.int v) h := by
  obtain ⟨call, low, tl, e⟩ := call_succ P n
  obtain ⟨v, v0, v1, h3⟩ := draw_body (C := { P := P, call := call, base := h.length, low := low, tl := false }) ha hr hne ht hl
  refine ⟨v, v0, v1, ?_⟩
  rw [e]
  unfold bodyF
  rw [hk]
  dsimp only
  have h3' : execSs { P := P, call := call, base := if true = true then h.length else b, low := low, tl := tl && false } bDraw (List.map some [D.ref a, .int t, .int lim] ++ List.replicate (4 - 3) none) h = .ret (.int v) h := by
    rw [Bool.and_false]; exact h3
  rw [if_pos (by rfl), h3']
  rfl
end
theorem take_call {P : Prog} {n b k kD : Nat} {h : Heap} {row : List D} {a s : Nat} {t lim : Int} {m : Nat} (hk : P.fns[k]? = some ⟨3, 3, bTake kD, false, false⟩) (hD : P.fns[kD]? = some ⟨3, 4, bDraw, true, false⟩)
    (ha : h.at a = some (.lst row)) (hs : h.at s = some (.lst [.int t])) (hne2 : a ≠ s) (hb : b ≤ s) (hr : RowOk m row) (hne : row ≠ []) (ht : 0 ≤ t) (hl : 0 < lim) :
    ∃ v : Int, 0 ≤ v ∧ v < lim ∧ callF P (n + 2) b k [.ref a, .ref s, .int lim] h = .ok (.int v) (h.set s (.lst [.int (t + 1)])) := by
  have hsl : s < h.length := (List.getElem?_eq_some_iff.mp hs).1
  have hs' : Heap.at (h.set s (.lst [.int (t + 1)])) s = some (.lst [.int (t + 1)]) := by unfold Heap.at; exact List.getElem?_set_self hsl
  have ha' : Heap.at (h.set s (.lst [.int (t + 1)])) a = some (.lst row) := by unfold Heap.at; rw [List.getElem?_set_ne (Ne.symm hne2)]; exact ha
  obtain ⟨v, v0, v1, ev1⟩ := draw_call (P := P) (n := n) (b := b) hD ha' hr hne ht hl
  refine ⟨v, v0, v1, ?_⟩
  show bodyF P (callF P (n + 1)) (callF P n) true b k _ h = _
  unfold bodyF
  rw [hk]
  dsimp only
  rw [if_pos (by rfl)]
  have e1 : execS { P := P, call := callF P (n + 1), base := b, low := callF P n, tl := false } (.seti (.var 1) (.cint 0) (.bin .Add (.idx (.var 1) (.cint 0)) (.cint 1))) [some (.ref a), some (.ref s), some (.int lim)] h = .nx [some (.ref a), some (.ref s), some (.int lim)] (h.set s (.lst [.int (t + 1)])) := by
    simp [execS, evalE, ev, evs, mkV, cOp, cVar, cC, Res.bind, idxF, hs, idxN, optR, binop, binI, ofRes, setItem, setO, hb, nxO]
  have e2 : execS { P := P, call := callF P (n + 1), base := b, low := callF P n, tl := false } (.ret (.call kD [.var 0, .bin .Sub (.idx (.var 1) (.cint 0)) (.cint 1), .var 2])) [some (.ref a), some (.ref s), some (.int lim)] (h.set s (.lst [.int (t + 1)])) = .ret (.int v) (h.set s (.lst [.int (t + 1)])) := by
    have e3 : t + 1 - 1 = t := by omega
    simp [execS, evalE, ev, evs, mkV, cOp, cApp, cArgs, cVar, cC, Res.bind, idxF, hs', idxN, optR, binop, binI, ofRes, e3, ev1]
  have e4 : execSs { P := P, call := callF P (n + 1), base := b, low := callF P n, tl := false } (bTake kD) [some (.ref a), some (.ref s), some (.int lim)] h = .ret (.int v) (h.set s (.lst [.int (t + 1)])) := by
    simp only [bTake, execSs, seqS, e1, e2]
  have e5 : execSs { P := P, call := callF P (n + 1), base := if false = true then h.length else b, low := callF P n, tl := true && false } (bTake kD) (List.map some [D.ref a, .ref s, .int lim] ++ List.replicate (3 - 3) none) h = .ret (.int v) (h.set s (.lst [.int (t + 1)])) := e4
  rw [e5]
  rfl
theorem take_ev {C : Ctx} {n kT kD : Nat} {env : Env} {h : Heap} {row : List D} {i j a s : Nat} {e : E} {t lim : Int} {m : Nat} (hC : C.call = callF C.P (n + 2)) (hb : C.base = 0) (hk : C.P.fns[kT]? = some ⟨3, 3, bTake kD, false, false⟩) (hD : C.P.fns[kD]? = some ⟨3, 4, bDraw, true, false⟩)
    (hi : env[i]? = some (some (.ref a))) (hj : env[j]? = some (some (.ref s))) (he : (ev C e).v env h = .ok (.int lim) h)
    (ha : h.at a = some (.lst row)) (hs : h.at s = some (.lst [.int t])) (hne2 : a ≠ s) (hr : RowOk m row) (hne : row ≠ []) (ht : 0 ≤ t) (hl : 0 < lim) :
    ∃ v : Int, 0 ≤ v ∧ v < lim ∧ (ev C (.call kT [.var i, .var j, e])).v env h = .ok (.int v) (h.set s (.lst [.int (t + 1)])) := by
  obtain ⟨v, v0, v1, e1⟩ := take_call (P := C.P) (n := n) (b := C.base) hk hD ha hs hne2 (by rw [hb]; exact Nat.zero_le _) hr hne ht hl
  refine ⟨v, v0, v1, ?_⟩
  rw [← hC] at e1
  simp only [ev, evs, mkV, cApp, cArgs, cVar, hi, hj, he, Res.bind, e1]
end Y
namespace Y
/-- a run looked at three times -/
theorem comb {σ α β γ δ : Type} {x : Option σ} {f : σ → α} {g : σ → β} {o : σ → γ × δ} {a : α} {b : β} {c : γ} {d : δ} (h1 : x.map (fun s => (f s, g s)) = some (a, b)) (h2 : x.map (fun s => (o s).1) = some c) (h3 : x.map (fun s => (o s).2) = some d) :
    x.map (fun s => (f s, g s, o s)) = some (a, b, (c, d)) := by
  cases x with
  | none => cases h1
  | some s =>
    have e1 : (f s, g s) = (a, b) := Option.some.inj h1
    have e2 : (o s).1 = c := Option.some.inj h2
    have e3 : (o s).2 = d := Option.some.inj h3
    have e4 : f s = a := congrArg Prod.fst e1
    have e5 : g s = b := congrArg Prod.snd e1
    show some (f s, g s, o s) = _
    rw [e4, e5, ← e2, ← e3]
end Y
set_option Elab.async false
set_option linter.all false
set_option maxRecDepth 100000
set_option maxHeartbeats 4000000
namespace Y
section
variable {C : Ctx} {e : E} {es : List E} {env : Env} {h h1 h2 : Heap} {d x y : D} {ds xs : List D} {k : Nat}
theorem args_nil : cArgs (evs C []) env h = .ok [] h := rfl
theorem args_cons (h1' : (ev C e).v env h = .ok d h1) (h2' : cArgs (evs C es) env h1 = .ok ds h2) : cArgs (evs C (e :: es)) env h = .ok (d :: ds) h2 := by
  show (Res.bind ((ev C e).v env h) fun d h => Res.bind (cArgs (evs C es) env h) fun ds h => .ok (d :: ds) h) = _
  rw [h1']
  show (Res.bind (cArgs (evs C es) env h1) fun ds h => Res.ok (d :: ds) h) = _
  rw [h2']
  rfl
theorem args1 (h1' : (ev C e).v env h = .ok d h1) : cArgs (evs C [e]) env h = .ok [d] h1 := args_cons h1' args_nil
theorem call_ev (ha : cArgs (evs C es) env h = .ok ds h1) : (ev C (.call k es)).v env h = C.call C.base k ds h1 := by
  show (Res.bind (cArgs (evs C es) env h) fun ds h => C.call C.base k ds h) = _
  rw [ha]
  rfl
theorem bi_ev {b : Bi} (ha : (ev C e).v env h = .ok d h1) : (ev C (.bi b [e])).v env h = biF b [d] h1 := by
  show (Res.bind (cArgs (evs C [e]) env h) fun ds h => biF b ds h) = _
  rw [args1 ha]
  rfl
theorem idx_ev {e2 : E} (ha : (ev C e).v env h = .ok x h1) (hb : (ev C e2).v env h1 = .ok y h2) : (ev C (.idx e e2)).v env h = idxF x y h2 := by
  show (Res.bind ((ev C e).v env h) fun x h => Res.bind ((ev C e2).v env h) fun y h => idxF x y h) = _
  rw [ha]
  show (Res.bind ((ev C e2).v env h1) fun y h => idxF x y h) = _
  rw [hb]
  rfl
theorem bin_ev {e2 : E} {op : PySem.Operator} (ha : (ev C e).v env h = .ok x h1) (hb : (ev C e2).v env h1 = .ok y h2) : (ev C (.bin op e e2)).v env h = binop op x y h2 := by
  show (Res.bind ((ev C e).v env h) fun x h => Res.bind ((ev C e2).v env h) fun y h => binop op x y h) = _
  rw [ha]
  show (Res.bind ((ev C e2).v env h1) fun y h => binop op x y h) = _
  rw [hb]
  rfl
theorem cmp_ev {e2 : E} {op : PySem.CmpOp} (ha : (ev C e).v env h = .ok x h1) (hb : (ev C e2).v env h1 = .ok y h2) : (ev C (.cmp op e e2)).v env h = cmpF op x y h2 := by
  show (Res.bind ((ev C e).v env h) fun x h => Res.bind ((ev C e2).v env h) fun y h => cmpF op x y h) = _
  rw [ha]
  show (Res.bind ((ev C e2).v env h1) fun y h => cmpF op x y h) = _
  rw [hb]
  rfl
theorem tru_ev {m : MV} {b : Bool} (he : ev C e = mkV m) (ha : m env h = .ok (.bl b) h1) : (ev C e).t env h = .ok b h1 := by
  rw [he]
  show (Res.bind (m env h) truR) = _
  rw [ha]
  rfl
theorem not_t {b : Bool} (ha : (ev C e).t env h = .ok b h1) : (ev C (.notv e)).t env h = .ok (!b) h1 := by
  show (Res.bind ((ev C e).t env h) fun b h => .ok (!b) h) = _
  rw [ha]
  rfl
theorem or_tf {e2 : E} {b : Bool} (ha : (ev C e).t env h = .ok false h1) (hb : (ev C e2).t env h1 = .ok b h2) : (ev C (.orv e e2)).t env h = .ok b h2 := by
  show (Res.bind ((ev C e).t env h) fun c h => if c then .ok true h else (ev C e2).t env h) = _
  rw [ha]
  exact hb
theorem and_v {e2 : E} (ha : (ev C e).v env h = .ok (.bl true) h1) (hb : (ev C e2).v env h1 = .ok d h2) : (ev C (.andv e e2)).v env h = .ok d h2 := by
  show (Res.bind ((ev C e).v env h) fun x h => match truth h x with | some true => (ev C e2).v env h | some false => .ok x h | none => .err) = _
  rw [ha]
  exact hb
/-- what is walked of a value -/
theorem iter_ev {m : MV} {w : It} (he : ev C e = mkV m) (ha : m env h = .ok x h1) (hw : iterOf h1 x = some w) : (ev C e).i env h = .ok w h1 := by
  rw [he]
  show (Res.bind (m env h) iterR) = _
  rw [ha]
  show iterR x h1 = _
  unfold iterR
  rw [hw]
theorem all_list {bs : List D} (ha : h.at k = some (.lst bs)) (hb : ∀ d ∈ bs, d = .bl true) : biF .all [.ref k] h = .ok (.bl true) h := by
  have e1 : list? h (.ref k) = some bs := by
    show (match h.at k with | some (.lst ds) => some ds | _ => none) = _
    rw [ha]
  have e2 : allB bs = some true := by
    clear ha e1
    induction bs with
    | nil => rfl
    | cons b bs ih =>
      rw [hb b List.mem_cons_self]
      show (match allB bs with | some r => some (true && r) | none => none) = _
      rw [ih fun d hd => hb d (List.mem_cons_of_mem _ hd)]
      rfl
  show (match list? h (.ref k) with | some xs => optR ((allB xs).map .bl) h | none => .err) = _
  rw [e1]
  dsimp only
  rw [e2]
  rfl
end
theorem call_ret {P : Prog} {n b k : Nat} {f : Fn} {ds : List D} {h h' : Heap} {d : D} (hk : P.fns[k]? = some f) (hp : f.pure = false) (hl : ds.length = f.np)
    (hx : execSs { P := P, call := callF P (n + 1), base := b, low := callF P n, tl := f.lam } f.body (ds.map some ++ List.replicate (f.ns - f.np) none) h = .ret d h') : callF P (n + 2) b k ds h = .ok d h' := by
  show bodyF P (callF P (n + 1)) (callF P n) true b k ds h = _
  unfold bodyF
  rw [hk]
  dsimp only
  rw [if_pos hl, hp, if_neg Bool.false_ne_true, Bool.true_and, hx]
  rfl
def H2 (row : List D) (t : Int) (g : Heap) : Heap := .lst row :: .lst [.int t] :: g
theorem H2_at0 {row : List D} {t : Int} {g : Heap} : (H2 row t g).at 0 = some (.lst row) := rfl
theorem H2_at1 {row : List D} {t : Int} {g : Heap} : (H2 row t g).at 1 = some (.lst [.int t]) := rfl
theorem H2_app {row : List D} {t : Int} {g g' : Heap} : H2 row t g ++ g' = H2 row t (g ++ g') := rfl
theorem H2_len {row : List D} {t : Int} {g : Heap} : (H2 row t g).length = g.length + 2 := rfl
/-- what is said of a law's row and of the defs that draw -/
structure Dw (P : Prog) (kT kD : Nat) (row : List D) : Prop where
  hT : P.fns[kT]? = some ⟨3, 3, bTake kD, false, false⟩
  hD : P.fns[kD]? = some ⟨3, 4, bDraw, true, false⟩
  ok : RowOk 3781 row
  ne : row ≠ []
section
variable {C : Ctx} {P : Prog} {kT kD n : Nat} {row : List D} {env : Env} {e : E} {h h0 : Heap} {t lim : Int} {g : Heap}
theorem draw_ev (D : Dw C.P kT kD row) (hC : C.call = callF C.P (n + 2)) (hb : C.base = 0) {i j : Nat} (hi : env[i]? = some (some (.ref 0))) (hj : env[j]? = some (some (.ref 1)))
    (he : (ev C e).v env h0 = .ok (.int lim) (H2 row t g)) (hi0 : (ev C (.var i)).v env h0 = .ok (.ref 0) h0) (hj0 : (ev C (.var j)).v env h0 = .ok (.ref 1) h0) (ht : 0 ≤ t) (hl : 0 < lim) :
    ∃ v : Int, 0 ≤ v ∧ v < lim ∧ (ev C (.call kT [.var i, .var j, e])).v env h0 = .ok (.int v) (H2 row (t + 1) g) := by
  obtain ⟨v, v0, v1, e1⟩ := take_call (P := C.P) (n := n) (b := C.base) D.hT D.hD (h := H2 row t g) (a := 0) (s := 1) H2_at0 H2_at1 (by decide) (by rw [hb]; exact Nat.zero_le _) D.ok D.ne ht hl
  refine ⟨v, v0, v1, ?_⟩
  rw [call_ev (args_cons hi0 (args_cons hj0 (args1 he))), hC, e1]
  rfl
/-- a draw below a bound that is known -/
theorem draw_c (D : Dw C.P kT kD row) (hC : C.call = callF C.P (n + 2)) (hb : C.base = 0) {i j : Nat} (hi : env[i]? = some (some (.ref 0))) (hj : env[j]? = some (some (.ref 1)))
    (he : (ev C e).v env (H2 row t g) = .ok (.int lim) (H2 row t g)) (ht : 0 ≤ t) (hl : 0 < lim) :
    ∃ v : Int, 0 ≤ v ∧ v < lim ∧ (ev C (.call kT [.var i, .var j, e])).v env (H2 row t g) = .ok (.int v) (H2 row (t + 1) g) :=
  draw_ev D hC hb hi hj he (by show cVar i env _ = _; unfold cVar; rw [hi]) (by show cVar j env _ = _; unfold cVar; rw [hj]) ht hl
def bPick (kT : Nat) : List S := [.ret (.idx (.var 2) (.call kT [.var 0, .var 1, .bi .len [.var 2]]))]
theorem pick_call {kP b : Nat} {x : D} {xs : List D} (D : Dw P kT kD row) (hk : P.fns[kP]? = some ⟨3, 3, bPick kT, false, false⟩) (hb : b = 0) (hx : ∀ t, items? (H2 row t g) x = some xs) (hne : xs ≠ []) (ht : 0 ≤ t) :
    ∃ d ∈ xs, callF P (n + 3) b kP [.ref 0, .ref 1, x] (H2 row t g) = .ok d (H2 row (t + 1) g) := by
  subst hb
  have hpos : 0 < xs.length := List.length_pos_iff.mpr hne
  obtain ⟨v, v0, v1, e1⟩ := take_call (P := P) (n := n) (b := 0) D.hT D.hD (h := H2 row t g) (a := 0) (s := 1) (lim := xs.length) H2_at0 H2_at1 (by decide) (Nat.zero_le _) D.ok D.ne ht (by omega)
  have hv : v.toNat < xs.length := by omega
  refine ⟨xs[v.toNat], List.getElem_mem hv, call_ret (n := n + 1) hk rfl rfl ?_⟩
  have hlen : biF .len [x] (H2 row t g) = .ok (.int xs.length) (H2 row t g) := by
    show (match lenD (H2 row t g) x with | some n => Res.ok (Y.D.int n) (H2 row t g) | none => .err) = _
    rw [len_seq (hx t)]
  have e2 : idxF x (.int v) (H2 row (t + 1) g) = .ok xs[v.toNat] (H2 row (t + 1) g) := by
    have := idx_seq (i := v.toNat) (hx (t + 1)) (List.getElem?_eq_getElem hv)
    rw [show ((v.toNat : Nat) : Int) = v by omega] at this
    exact this
  refine ss_ret (ret_ev ?_)
  rw [idx_ev (x := x) (h1 := H2 row t g) (y := .int v) (h2 := H2 row (t + 1) g) rfl ?_, e2]
  rw [call_ev (ds := [.ref 0, .ref 1, .int xs.length]) (h1 := H2 row t g) (args_cons rfl (args_cons rfl (args1 ?_)))]
  · exact e1
  · rw [bi_ev (d := x) (h1 := H2 row t g) rfl]; exact hlen
def abc : List Nat := [97, 98, 99, 100, 101, 102, 103, 104, 105, 106, 107, 108, 109, 110, 111, 112, 113, 114, 115, 116, 117, 118, 119, 120, 121, 122]
def bLet (kT : Nat) : List S := [.set 3 (.cstr []), .for_ (.nm 4) (.rng1 (.var 2)) [.set 3 (.bin .Add (.var 3) (.idx (.cstr abc) (.call kT [.var 0, .var 1, .cint 26])))], .ret (.var 3)]
def small (s : List Nat) : Prop := ∀ c ∈ s, 97 ≤ c ∧ c ≤ 122
theorem abc_at {v : Int} (h0 : 0 ≤ v) (h1 : v < 26) (h : Heap) : ∃ c, 97 ≤ c ∧ c ≤ 122 ∧ idxF (.str abc) (.int v) h = .ok (.str [c]) h := by
  obtain ⟨n, rfl⟩ := Int.eq_ofNat_of_zero_le h0
  have hn : n < 26 := by omega
  refine ⟨abc.getD n 0, ?_, ?_, ?_⟩
  · have : ∀ n, n < 26 → 97 ≤ abc.getD n 0 := by decide
    exact this n hn
  · have : ∀ n, n < 26 → abc.getD n 0 ≤ 122 := by decide
    exact this n hn
  · have e1 : idxN abc.length (n : Int) = some n := by unfold idxN; rw [if_pos (by omega), if_pos (by show (n : Int) < 26; omega)]; simp
    have e2 : abc[n]? = some (abc.getD n 0) := by
      rw [List.getD_eq_getElem?_getD, List.getElem?_eq_getElem (show n < abc.length from hn)]
      rfl
    show (match idxN abc.length (n : Int) with | some k => (match abc[k]? with | some c => Res.ok (Y.D.str [c]) h | none => .err) | none => .err) = _
    rw [e1]
    dsimp only
    rw [e2]
theorem letters_call {kL b m : Nat} (D : Dw P kT kD row) (hk : P.fns[kL]? = some ⟨3, 5, bLet kT, false, false⟩) (hf : 4000 ≤ P.fuel) (hb : b = 0) (hm : m < 4000) (ht : 0 ≤ t) :
    ∃ (s : List Nat) (t' : Int), 0 ≤ t' ∧ s.length = m ∧ small s ∧ callF P (n + 3) b kL [.ref 0, .ref 1, .int m] (H2 row t g) = .ok (.str s) (H2 row t' g) := by
  subst hb
  obtain ⟨e2, s2, q1, s, x, t', ht', hs, hsm, rfl, rfl⟩ : ∃ e2 s2, execS { P := P, call := callF P (n + 2), base := 0, low := callF P (n + 1), tl := false } (.for_ (.nm 4) (.rng1 (.var 2)) [.set 3 (.bin .Add (.var 3) (.idx (.cstr abc) (.call kT [.var 0, .var 1, .cint 26])))]) [some (.ref 0), some (.ref 1), some (.int m), some (.str []), none] (H2 row t g) = .nx e2 s2 ∧
      ∃ s x t', 0 ≤ t' ∧ s.length = m ∧ small s ∧ e2 = [some (.ref 0), some (.ref 1), some (.int m), some (.str s), x] ∧ s2 = H2 row t' g :=
    for_rule (C := { P := P, call := callF P (n + 2), base := 0, low := callF P (n + 1), tl := false }) (I := fun i e s2 => ∃ s x t', 0 ≤ t' ∧ s.length = i ∧ small s ∧ e = [some (.ref 0), some (.ref 1), some (.int m), some (.str s), x] ∧ s2 = H2 row t' g) (w := .rng 0 m 1) (n := m)
      (rng1_ev (j := (m : Int)) rfl (rng_small hm)) ⟨[], none, t, ht, rfl, fun c hc => (by cases hc), rfl, rfl⟩
      (fun i e s2 hi ⟨s, x, t', ht', hs, hsm, e1, e2⟩ => by
        subst e1 e2
        obtain ⟨v, v0, v1, e3⟩ := draw_c (C := { P := P, call := callF P (n + 2), base := 0, low := callF P (n + 1), tl := false }) (n := n) (e := .cint 26) (env := [some (.ref 0), some (.ref 1), some (.int m), some (.str s), some (.int i)]) (i := 0) (j := 1) (g := g) D rfl rfl rfl rfl rfl ht' (by decide)
        obtain ⟨c, c0, c1, e4⟩ := abc_at v0 v1 (H2 row (t' + 1) g)
        refine ⟨.int i, [some (.ref 0), some (.ref 1), some (.int m), some (.str s), some (.int i)], [some (.ref 0), some (.ref 1), some (.int m), some (.str (s ++ [c])), some (.int i)], H2 row (t' + 1) g, rng_next hi, rfl, ?_, s ++ [c], some (.int i), t' + 1, by omega, by rw [List.length_append, hs]; rfl, ?_, rfl, rfl⟩
        · refine (ss_nx (set_ev (d := .str (s ++ [c])) (h1 := H2 row (t' + 1) g) ?_)).trans rfl
          rw [bin_ev (x := .str s) (h1 := H2 row t' g) (y := .str [c]) (h2 := H2 row (t' + 1) g) rfl ?_]
          · show mkStr (s ++ [c]) (H2 row (t' + 1) g) = _
            unfold mkStr
            rw [if_pos (by rw [List.length_append, hs]; unfold sizeLine; simp; omega)]
          · rw [idx_ev (x := .str abc) (h1 := H2 row t' g) rfl e3, e4]
        · intro q hq
          rcases List.mem_append.mp hq with hq | hq
          · exact hsm q hq
          · rw [List.mem_singleton] at hq; subst hq; exact ⟨c0, c1⟩)
      (fun e s2 _ => rng_stop) (by show m < P.fuel; omega)
  refine ⟨s, t', ht', hs, hsm, call_ret (n := n + 1) hk rfl rfl ?_⟩
  exact (ss_nx (set_ev (d := .str []) (h1 := H2 row t g) rfl)).trans ((ss_nx q1).trans (ss_ret (ret_ev rfl)))
end
section
variable {C : Ctx} {e e1 e2 e3 : E} {es : List E} {env : Env} {h h1 h2 h3 : Heap} {d x y z : D} {ds xs : List D} {k : Nat}
theorem chain_ev {o1 o2 : PySem.CmpOp} (ha : (ev C e1).v env h = .ok x h1) (hb : (ev C e2).v env h1 = .ok y h2) (hc : cmpop o1 x y h2 = some true) (hd : (ev C e3).v env h2 = .ok z h3) : (ev C (.chain o1 o2 e1 e2 e3)).v env h = cmpF o2 y z h3 := by
  show (Res.bind ((ev C e1).v env h) fun x h => Res.bind ((ev C e2).v env h) fun y h => match cmpop o1 x y h with
      | some true => Res.bind ((ev C e3).v env h) fun z h => cmpF o2 y z h
      | some false => .ok (.bl false) h
      | none => .err) = _
  rw [ha]
  show (Res.bind ((ev C e2).v env h1) fun y h => match cmpop o1 x y h with
      | some true => Res.bind ((ev C e3).v env h) fun z h => cmpF o2 y z h
      | some false => .ok (.bl false) h
      | none => .err) = _
  rw [hb]
  show (match cmpop o1 x y h2 with
      | some true => Res.bind ((ev C e3).v env h2) fun z h => cmpF o2 y z h
      | some false => .ok (.bl false) h2
      | none => .err) = _
  rw [hc]
  show (Res.bind ((ev C e3).v env h2) fun z h => cmpF o2 y z h) = _
  rw [hd]
  rfl
theorem le_int {a b : Int} (h : a ≤ b) (hh : Heap) : cmpop .LtE (.int a) (.int b) hh = some true := by
  show some (decide (a ≤ b)) = _
  rw [decide_eq_true h]
theorem leF_int {a b : Int} (h : a ≤ b) (hh : Heap) : cmpF .LtE (.int a) (.int b) hh = .ok (.bl true) hh := by
  unfold cmpF
  rw [le_int h]
  rfl
theorem lt_int' {a b : Int} (h : a < b) (hh : Heap) : cmpF .Lt (.int a) (.int b) hh = .ok (.bl true) hh := by
  unfold cmpF
  rw [lt_int, decide_eq_true h]
  rfl
theorem ge_int {a b : Int} (h : b ≤ a) (hh : Heap) : cmpF .GtE (.int a) (.int b) hh = .ok (.bl true) hh := by
  show optR ((some (decide (b ≤ a))).map D.bl) hh = _
  rw [decide_eq_true h]
  rfl
theorem eqF_int (a b : Int) (hh : Heap) : cmpF .Eq (.int a) (.int b) hh = .ok (.bl (decide (a = b))) hh := by
  unfold cmpF
  rw [eq_int]
  rfl
theorem len_ev (he : (ev C e).v env h = .ok x h1) (hx : items? h1 x = some xs) : (ev C (.bi .len [e])).v env h = .ok (.int xs.length) h1 := by
  rw [bi_ev he]
  show (match lenD h1 x with | some n => Res.ok (Y.D.int n) h1 | none => .err) = _
  rw [len_seq hx]
theorem calls_ev {i : Nat} (hi : env[i]? = some (some (.fn k))) (ha : cArgs (evs C es) env h = .ok ds h1) : (ev C (.calls i es)).v env h = C.call C.base k ds h1 := by
  show (match env[i]? with
    | some (some (.fn k)) => cApp (cArgs (evs C es)) (fun ds _ h => C.call C.base k ds h) env h
    | some (some (.clo k cs)) => cApp (cArgs (evs C es)) (fun ds _ h => C.call C.base k (ds ++ cs) h) env h
    | _ => .err) = _
  rw [hi]
  show (Res.bind (cArgs (evs C es) env h) fun ds h => C.call C.base k ds h) = _
  rw [ha]
  rfl
theorem all_ev {own : List Nat} {tg : Tg} {it elt : E} {w : It} {E' : D → Env} (hit : (ev C it).i env h = .ok w h1) (hw : Walks w h1 ds) (ha : ∀ d ∈ ds, ∀ t, assign tg d (h1 ++ t) (wipe env own) = some (E' d))
    (he : ∀ d ∈ ds, ∀ t, (ev C elt).v (E' d) (h1 ++ t) = .ok (.bl true) (h1 ++ t)) (hf : ds.length < C.P.fuel) (hz : ds.length ≤ sizeLine) :
    ∃ h2, (ev C (.bi .all [.lc own tg it [] elt])).v env h = .ok (.bl true) h2 := by
  refine ⟨h1 ++ [.lst (ds.map fun _ => .bl true)], ?_⟩
  rw [bi_ev (lc_map0 (f := fun _ => .bl true) hit hw ha he hf hz)]
  exact all_list at_mid fun d hd => by obtain ⟨_, _, e⟩ := List.mem_map.mp hd; exact e.symm
end
def bDemand : List S := [.for_ (.tp [.nm 1, .nm 2]) (.enm (.var 0)) [.ite (.notv (.var 2)) [.raise 0 (.var 1)] []]]
def bDemAt : List S := [.ite (.notv (.var 0)) [.raise 0 (.var 1)] []]
def bIsInt : List S := [.ret (.andv (.isi (.var 0) [.int]) (.notv (.isi (.var 0) [.bool])))]
def bIntIn (k : Nat) : List S := [.ret (.andv (.call k [.var 0]) (.chain .LtE .LtE (.var 1) (.var 0) (.var 2)))]
def bIntFrom (k : Nat) : List S := [.ret (.andv (.call k [.var 0]) (.cmp .GtE (.var 0) (.var 1)))]
def bIsSeq : List S := [.ret (.andv (.isi (.var 0) [.list, .tuple]) (.chain .LtE .LtE (.var 1) (.bi .len [.var 0]) (.var 2)))]
def bSeqOf (k : Nat) : List S := [.ret (.andv (.call k [.var 0, .var 1, .var 2]) (.bi .all [.lc [4] (.nm 4) (.var 0) [] (.calls 3 [.var 4])]))]
def bIsText : List S := [.ret (.andv (.isi (.var 0) [.str]) (.chain .LtE .LtE (.var 1) (.bi .len [.var 0]) (.var 2)))]
def bPrintable : List S := [.ret (.andv (.chain .LtE .LtE (.cstr [32]) (.var 0) (.cstr [126])) (.cmp .NotEq (.bi .ord [.var 0]) (.cint 37)))]
def bPrints (k1 k2 : Nat) : List S := [.ret (.andv (.call k1 [.var 0, .var 1, .var 2]) (.bi .all [.lc [3] (.nm 3) (.var 0) [] (.call k2 [.var 3])]))]
section
variable {P : Prog} {n b k kI kS kF : Nat} {h : Heap} {x : D} {xs : List D} {lo hi v : Int}
theorem demand_call (hk : P.fns[k]? = some ⟨1, 3, bDemand, true, false⟩) (hf : 4000 ≤ P.fuel) (hx : items? h x = some xs) (hb : ∀ d ∈ xs, d = .bl true) (hl : xs.length < 4000) : callF P (n + 2) b k [x] h = .ok .non h := by
  obtain ⟨w, hw, hW⟩ := iter_seq hx
  have hW2 := walks_enm hW
  have hlen : (((List.range xs.length).zip xs).map fun p => D.tup [.int p.1, p.2]).length = xs.length := by simp
  obtain ⟨e2, s2, q1, a2, a3, rfl, rfl⟩ := for_rule (C := pC P n h false) (tg := .tp [.nm 1, .nm 2]) (it := .enm (.var 0)) (env := [some x, none, none]) (h := h) (h1 := h) (w := .enm w) (n := xs.length) (b := [.ite (.notv (.var 2)) [.raise 0 (.var 1)] []])
    (I := fun i e s => ∃ a2 a3, e = [some x, a2, a3] ∧ s = h)
    (by
      show (Res.bind (Res.ok x h) fun x h => Res.bind (iterR x h) fun w h => Res.ok (It.enm w) h) = _
      unfold Res.bind
      dsimp only
      unfold iterR
      rw [hw]) ⟨none, none, rfl, rfl⟩
    (fun i e s hi ⟨a2, a3, e1, e2⟩ => by
      subst e1 e2
      have h1 := (hW2 []).1 i (by rw [hlen]; exact hi)
      rw [List.append_nil, List.getElem_map, List.getElem_zip, List.getElem_range] at h1
      rw [hb _ (List.getElem_mem hi)] at h1
      exact ⟨_, [some x, some (.int i), some (.bl true)], [some x, some (.int i), some (.bl true)], s, h1, rfl, (ss_nx (ite_f (not_t (tru_ev (b := true) rfl rfl)))).trans rfl, _, _, rfl, rfl⟩)
    (fun e s ⟨a2, a3, e1, e2⟩ => by
      subst e2
      have h1 := (hW2 []).2
      rw [List.append_nil, hlen] at h1
      exact h1) (by show xs.length < P.fuel; omega)
  exact pure_non hk rfl rfl ((ss_nx q1).trans rfl)
theorem demAt_call (hk : P.fns[k]? = some ⟨2, 2, bDemAt, true, false⟩) : callF P (n + 2) b k [.bl true, x] h = .ok .non h :=
  pure_non hk rfl rfl ((ss_nx (ite_f (not_t (tru_ev (b := true) rfl rfl)))).trans rfl)
theorem isInt_call (hk : P.fns[k]? = some ⟨1, 1, bIsInt, true, false⟩) : callF P (n + 2) b k [.int v] h = .ok (.bl true) h :=
  pure_ret hk rfl rfl (ss_ret (ret_ev (and_v (h1 := h) rfl rfl))) rfl
theorem intIn_call (hk : P.fns[k]? = some ⟨3, 3, bIntIn kI, true, false⟩) (hI : P.fns[kI]? = some ⟨1, 1, bIsInt, true, false⟩) (h0 : lo ≤ v) (h1 : v ≤ hi) : callF P (n + 3) b k [.int v, .int lo, .int hi] h = .ok (.bl true) h :=
  pure_ret (n := n + 1) hk rfl rfl (ss_ret (ret_ev (and_v ((call_ev (args1 rfl)).trans (isInt_call (n := n) hI)) ((chain_ev (x := .int lo) (y := .int v) (z := .int hi) rfl rfl (le_int h0 _) rfl).trans (leF_int h1 _))))) rfl
theorem intFrom_call (hk : P.fns[k]? = some ⟨2, 2, bIntFrom kI, true, false⟩) (hI : P.fns[kI]? = some ⟨1, 1, bIsInt, true, false⟩) (h0 : lo ≤ v) : callF P (n + 3) b k [.int v, .int lo] h = .ok (.bl true) h :=
  pure_ret (n := n + 1) hk rfl rfl (ss_ret (ret_ev (and_v ((call_ev (args1 rfl)).trans (isInt_call (n := n) hI)) ((cmp_ev (x := .int v) (y := .int lo) rfl rfl).trans (ge_int h0 _))))) rfl
theorem isSeq_call (hk : P.fns[k]? = some ⟨3, 3, bIsSeq, true, false⟩) (hx : items? h x = some xs) (h0 : lo ≤ xs.length) (h1 : (xs.length : Int) ≤ hi) : callF P (n + 2) b k [x, .int lo, .int hi] h = .ok (.bl true) h :=
  pure_ret hk rfl rfl (ss_ret (ret_ev (and_v (tyd_seq hx) ((chain_ev (x := .int lo) (y := .int xs.length) (z := .int hi) rfl (len_ev rfl hx) (le_int h0 _) rfl).trans (leF_int h1 _))))) rfl
theorem seqOf_call (hk : P.fns[k]? = some ⟨4, 5, bSeqOf kS, true, false⟩) (hS : P.fns[kS]? = some ⟨3, 3, bIsSeq, true, false⟩) (hf : 4000 ≤ P.fuel) (hx : items? h x = some xs) (h0 : lo ≤ xs.length) (h1 : (xs.length : Int) ≤ hi) (h2 : xs.length < 4000)
    (ht : ∀ d ∈ xs, ∀ t b, callF P (n + 2) b kF [d] (h ++ t) = .ok (.bl true) (h ++ t)) : callF P (n + 3) b k [x, .int lo, .int hi, .fn kF] h = .ok (.bl true) h := by
  obtain ⟨w, hw, hW⟩ := iter_seq hx
  obtain ⟨h2, e⟩ := all_ev (C := pC P (n + 1) h false) (own := [4]) (tg := .nm 4) (it := .var 0) (elt := .calls 3 [.var 4]) (env := [some x, some (.int lo), some (.int hi), some (.fn kF), none]) (E' := fun d => [some x, some (.int lo), some (.int hi), some (.fn kF), some d])
    (iter_ev rfl rfl hw) hW (fun d _ t => rfl) (fun d hd t => (calls_ev rfl (args1 rfl)).trans (ht d hd t _)) (by show xs.length < P.fuel; omega) (by unfold sizeLine; omega)
  exact pure_ret (n := n + 1) hk rfl rfl (ss_ret (ret_ev (and_v ((call_ev (args_cons rfl (args_cons rfl (args1 rfl)))).trans (isSeq_call (n := n) hS hx h0 h1)) e))) rfl
theorem isText_call {s : List Nat} (hk : P.fns[k]? = some ⟨3, 3, bIsText, true, false⟩) (h0 : lo ≤ s.length) (h1 : (s.length : Int) ≤ hi) : callF P (n + 2) b k [.str s, .int lo, .int hi] h = .ok (.bl true) h :=
  pure_ret hk rfl rfl (ss_ret (ret_ev (and_v (h1 := h) rfl ((chain_ev (x := .int lo) (y := .int s.length) (z := .int hi) rfl rfl (le_int h0 _) rfl).trans (leF_int h1 _))))) rfl
/-- a sign that a table may hold -/
def prn (c : Nat) : Prop := 32 ≤ c ∧ c ≤ 126 ∧ c ≠ 37
theorem printable_call {c : Nat} (hk : P.fns[k]? = some ⟨1, 1, bPrintable, true, false⟩) (hc : prn c) : callF P (n + 2) b k [.str [c]] h = .ok (.bl true) h := by
  obtain ⟨c0, c1, c2⟩ := hc
  have e1 : cmpop .LtE (.str [32]) (.str [c]) h = some true := by
    show some (!(if c < 32 then true else if 32 < c then false else ltL [] [])) = _
    rw [if_neg (by omega)]
    split <;> rfl
  have e2 : cmpF .LtE (.str [c]) (.str [126]) h = .ok (.bl true) h := by
    show optR ((some (!(if 126 < c then true else if c < 126 then false else ltL [] []))).map D.bl) h = _
    rw [if_neg (by omega)]
    split <;> rfl
  have e3 : cmpF .NotEq (.int c) (.int 37) h = .ok (.bl true) h := by
    show optR (((cmpop .Eq (.int c) (.int 37) h).map not).map D.bl) h = _
    rw [eq_int, decide_eq_false (by omega)]
    rfl
  exact pure_ret hk rfl rfl (ss_ret (ret_ev (and_v ((chain_ev (x := .str [32]) (y := .str [c]) (z := .str [126]) rfl rfl e1 rfl).trans e2) ((cmp_ev (x := .int c) (y := .int 37) rfl rfl).trans e3)))) rfl
theorem prints_call {s : List Nat} {k1 k2 : Nat} (hk : P.fns[k]? = some ⟨3, 4, bPrints k1 k2, true, false⟩) (h1 : P.fns[k1]? = some ⟨3, 3, bIsText, true, false⟩) (h2 : P.fns[k2]? = some ⟨1, 1, bPrintable, true, false⟩) (hf : 4000 ≤ P.fuel)
    (h0 : lo ≤ s.length) (hh : (s.length : Int) ≤ hi) (hl : s.length < 4000) (hs : ∀ c ∈ s, prn c) : callF P (n + 3) b k [.str s, .int lo, .int hi] h = .ok (.bl true) h := by
  obtain ⟨h2, e⟩ := all_ev (C := pC P (n + 1) h false) (own := [3]) (tg := .nm 3) (it := .var 0) (elt := .call k2 [.var 3]) (env := [some (.str s), some (.int lo), some (.int hi), none]) (E' := fun d => [some (.str s), some (.int lo), some (.int hi), some d]) (ds := s.map fun c => .str [c])
    (iter_ev (x := .str s) (h1 := h) rfl rfl rfl) walks_str (fun d _ t => rfl) (fun d hd t => by
      obtain ⟨c, hc, rfl⟩ := List.mem_map.mp hd
      exact (call_ev (args1 rfl)).trans (printable_call (n := n) h2 (hs c hc))) (by rw [List.length_map]; show s.length < P.fuel; omega) (by rw [List.length_map]; unfold sizeLine; omega)
  exact pure_ret (n := n + 1) hk rfl rfl (ss_ret (ret_ev (and_v ((call_ev (args_cons rfl (args_cons rfl (args1 rfl)))).trans (isText_call (n := n) h1 h0 hh)) e))) rfl
end
section
variable {C : Ctx} {own : List Nat} {tg : Tg} {it elt : E} {env : Env} {h h1 : Heap} {w : It} {ds ys : List D} {E' : D → Env}
theorem lc_ys (hit : (ev C it).i env h = .ok w h1) (hw : Walks w h1 ds) (hl : ys.length = ds.length) (ha : ∀ d ∈ ds, ∀ t, assign tg d (h1 ++ t) (wipe env own) = some (E' d))
    (he : ∀ (i : Nat) (d y : D), ds[i]? = some d → ys[i]? = some y → ∀ t, ∃ t', (ev C elt).v (E' d) (h1 ++ t) = .ok y (h1 ++ (t ++ t'))) (hf : ds.length < C.P.fuel) (hz : ds.length ≤ sizeLine) :
    ∃ t', (ev C (.lc own tg it [] elt)).v env h = .ok (.ref h1.length) (h1 ++ .lst ys :: t') := by
  obtain ⟨acc, s, q1, ⟨t', q2, q3⟩, q4⟩ := lc_rule (C := C) (own := own) (tg := tg) (it := it) (elt := elt) (ifs := []) (n := ds.length) (M := fun i acc s => ∃ t', s = h1 ++ .lst acc :: t' ∧ acc = ys.take i) hit ⟨[], rfl, rfl⟩
    (fun i acc s hi ⟨t', e1, e2⟩ _ => by
      subst e1
      have hy : i < ys.length := by omega
      obtain ⟨t2, e3⟩ := he i ds[i] ys[i] (List.getElem?_eq_getElem hi) (List.getElem?_eq_getElem hy) (.lst acc :: t')
      refine ⟨ds[i], E' ds[i], true, _, (hw _).1 i hi, ha _ (List.getElem_mem hi) _, rfl, .inr ⟨rfl, ys[i], _, e3, at_mid, t' ++ t2, set_mid, ?_⟩⟩
      rw [e2, List.take_succ_eq_append_getElem hy])
    (fun acc s ⟨t', e1, _⟩ => by subst e1; exact (hw _).2) hf hz
  refine ⟨t', ?_⟩
  rw [q1, q2, q3, ← hl, List.take_length]
theorem lc_ys0 (hit : (ev C it).i env h = .ok w h1) (hw : Walks w h1 ds) (hl : ys.length = ds.length) (ha : ∀ d ∈ ds, ∀ t, assign tg d (h1 ++ t) (wipe env own) = some (E' d))
    (he : ∀ (i : Nat) (d y : D), ds[i]? = some d → ys[i]? = some y → ∀ t, (ev C elt).v (E' d) (h1 ++ t) = .ok y (h1 ++ t)) (hf : ds.length < C.P.fuel) (hz : ds.length ≤ sizeLine) :
    (ev C (.lc own tg it [] elt)).v env h = .ok (.ref h1.length) (h1 ++ [.lst ys]) := by
  obtain ⟨acc, s, q1, ⟨q2, q3⟩, q4⟩ := lc_rule (C := C) (own := own) (tg := tg) (it := it) (elt := elt) (ifs := []) (n := ds.length) (M := fun i acc s => s = h1 ++ [.lst acc] ∧ acc = ys.take i) hit ⟨rfl, rfl⟩
    (fun i acc s hi ⟨e1, e2⟩ _ => by
      subst e1
      have hy : i < ys.length := by omega
      refine ⟨ds[i], E' ds[i], true, _, (hw _).1 i hi, ha _ (List.getElem_mem hi) _, rfl, .inr ⟨rfl, ys[i], _, he i ds[i] ys[i] (List.getElem?_eq_getElem hi) (List.getElem?_eq_getElem hy) _, at_mid, set_mid, ?_⟩⟩
      rw [e2, List.take_succ_eq_append_getElem hy])
    (fun acc s ⟨e1, _⟩ => by subst e1; exact (hw _).2) hf hz
  rw [q1, q2, q3, ← hl, List.take_length]
variable {row : List D} {t : Int} {g : Heap}
/-- a comprehension whose parts draw -/
theorem lc_draw {i m : Nat} {t1 : Int} {g1 : Heap} {h0 : Heap} (PR : D → Prop) (hit : (ev C it).i env h0 = .ok (.rng 0 m 1) (H2 row t1 g1)) (h1 : 0 ≤ t1)
    (he : ∀ (j : Nat) (t : Int) (g : Heap), j < m → 0 ≤ t → ∃ d t' g', 0 ≤ t' ∧ PR d ∧ (ev C elt).v ((wipe env own).put i (.int j)) (H2 row t g) = .ok d (H2 row t' (g ++ g'))) (hf : m < C.P.fuel) (hz : m ≤ sizeLine) :
    ∃ ds t' g', 0 ≤ t' ∧ ds.length = m ∧ (∀ d ∈ ds, PR d) ∧ (ev C (.lc own (.nm i) it [] elt)).v env h0 = .ok (.ref (g1.length + 2)) (H2 row t' (g1 ++ .lst ds :: g')) := by
  have at_ : ∀ (t' : Int) (o : HV) (g' : Heap), (H2 row t' (g1 ++ o :: g')).at (g1.length + 2) = some o := fun t' o g' => at_mid (h := H2 row t' g1)
  have set_ : ∀ (t' : Int) (o o2 : HV) (g' : Heap), (H2 row t' (g1 ++ o :: g')).set (g1.length + 2) o2 = H2 row t' (g1 ++ o2 :: g') := fun t' o o2 g' => set_mid (h := H2 row t' g1)
  obtain ⟨acc, s, q1, ⟨t', g', q2, q3, q4, q5⟩, _⟩ := lc_rule (C := C) (own := own) (tg := .nm i) (it := it) (elt := elt) (ifs := []) (n := m)
    (M := fun i acc s => ∃ t' g', 0 ≤ t' ∧ acc.length = i ∧ (∀ d ∈ acc, PR d) ∧ s = H2 row t' (g1 ++ .lst acc :: g')) hit ⟨t1, [], h1, rfl, fun d hd => (by cases hd), rfl⟩
    (fun j acc s hj ⟨t', g', q2, q3, q4, q5⟩ _ => by
      subst q5
      obtain ⟨d, t2, g2, p1, p2, p3⟩ := he j t' (g1 ++ .lst acc :: g') hj q2
      have e1 : g1 ++ HV.lst acc :: g' ++ g2 = g1 ++ HV.lst acc :: (g' ++ g2) := by simp
      rw [e1] at p3
      refine ⟨.int j, _, true, _, ?_, rfl, rfl, .inr ⟨rfl, d, _, p3, at_ _ _ _, t2, g' ++ g2, p1, by rw [List.length_append, q3]; rfl, fun q hq => ?_, set_ _ _ _ _⟩⟩
      · unfold It.next; rw [if_pos hj]; simp
      · rcases List.mem_append.mp hq with hq | hq
        · exact q4 q hq
        · rw [List.mem_singleton] at hq; subst hq; exact p2)
    (fun acc s _ => rng_stop) hf hz
  subst q5
  exact ⟨acc, t', g', q2, q3, q4, q1⟩
theorem tup_draw {i m : Nat} {t1 : Int} {g1 : Heap} {h0 : Heap} (PR : D → Prop) (hit : (ev C it).i env h0 = .ok (.rng 0 m 1) (H2 row t1 g1)) (h1 : 0 ≤ t1)
    (he : ∀ (j : Nat) (t : Int) (g : Heap), j < m → 0 ≤ t → ∃ d t' g', 0 ≤ t' ∧ PR d ∧ (ev C elt).v ((wipe env own).put i (.int j)) (H2 row t g) = .ok d (H2 row t' (g ++ g'))) (hf : m < C.P.fuel) (hz : m ≤ sizeLine) :
    ∃ ds t' g', 0 ≤ t' ∧ ds.length = m ∧ (∀ d ∈ ds, PR d) ∧ (ev C (.bi .tuple [.lc own (.nm i) it [] elt])).v env h0 = .ok (.tup ds) (H2 row t' (g1 ++ g')) := by
  obtain ⟨ds, t', g', q1, q2, q3, q4⟩ := lc_draw PR hit h1 he hf hz
  refine ⟨ds, t', .lst ds :: g', q1, q2, q3, ?_⟩
  rw [bi_ev q4]
  show (match items? (H2 row t' (g1 ++ HV.lst ds :: g')) (.ref (g1.length + 2)) with | some xs => Res.ok (Y.D.tup xs) (H2 row t' (g1 ++ HV.lst ds :: g')) | none => .err) = _
  have e : items? (H2 row t' (g1 ++ HV.lst ds :: g')) (.ref (g1.length + 2)) = some ds := ref_items (at_mid (h := H2 row t' g1))
  rw [e]
end
theorem unmap {α β : Type} {f : α → β} {Q : α → Prop} : ∀ {ds : List β}, (∀ d ∈ ds, ∃ a, d = f a ∧ Q a) → ∃ as : List α, ds = as.map f ∧ as.length = ds.length ∧ ∀ a ∈ as, Q a
  | [], _ => ⟨[], rfl, rfl, fun a h => by cases h⟩
  | d :: ds, h => by
    obtain ⟨as, h1, h2, h3⟩ := unmap fun x hx => h x (List.mem_cons_of_mem _ hx)
    obtain ⟨a, h4, h5⟩ := h d List.mem_cons_self
    exact ⟨a :: as, by rw [h1, h4]; rfl, by simp [h2], fun x hx => (List.mem_cons.mp hx).elim (fun e => e ▸ h5) (h3 x)⟩
theorem iter_app {h t : Heap} {x : D} {ds : List D} {w : It} (e : items? h x = some ds) (hw : iterOf h x = some w) : iterOf (h ++ t) x = some w := by
  cases x <;> first | (cases e; done) | exact hw | skip
  have ea := items_ref e
  have eb := at_app (t := t) ea
  unfold iterOf at hw ⊢
  dsimp only at hw ⊢
  rw [ea] at hw
  rw [eb]
  exact hw
theorem callP {P : Prog} {n k : Nat} {h0 h h1 h2 : Heap} {tl : Bool} {es : List E} {ds : List D} {env : Env} {d : D} (ha : cArgs (evs (pC P n h0 tl) es) env h = .ok ds h1) (hc : callF P (n + 1) h0.length k ds h1 = .ok d h2) : (ev (pC P n h0 tl) (.call k es)).v env h = .ok d h2 :=
  (call_ev ha).trans hc
theorem callsP {P : Prog} {n k i : Nat} {h0 h h1 h2 : Heap} {tl : Bool} {es : List E} {ds : List D} {env : Env} {d : D} (hi : env[i]? = some (some (.fn k))) (ha : cArgs (evs (pC P n h0 tl) es) env h = .ok ds h1) (hc : callF P (n + 1) h0.length k ds h1 = .ok d h2) : (ev (pC P n h0 tl) (.calls i es)).v env h = .ok d h2 :=
  (calls_ev hi ha).trans hc
theorem tru_v {C : Ctx} {e : E} {env : Env} {h h1 : Heap} {b : Bool} (ha : (ev C e).v env h = .ok (.bl b) h1) (he : ev C e = mkV (ev C e).v) : (ev C e).t env h = .ok b h1 := by
  rw [he]
  show (Res.bind ((ev C e).v env h) truR) = _
  rw [ha]
  rfl
theorem H2_mid {row : List D} {t : Int} {g g' : Heap} {o : HV} : (H2 row t (g ++ o :: g')).at (g.length + 2) = some o := at_mid (h := H2 row t g)
theorem iter_v {C : Ctx} {e : E} {env : Env} {h h1 : Heap} {x : D} {w : It} (ha : (ev C e).v env h = .ok x h1) (hw : iterOf h1 x = some w) (he : ev C e = mkV (ev C e).v) : (ev C e).i env h = .ok w h1 := by
  rw [he]
  show (Res.bind ((ev C e).v env h) iterR) = _
  rw [ha]
  show iterR x h1 = _
  unfold iterR
  rw [hw]
end Y
set_option Elab.async false
set_option linter.all false
set_option maxRecDepth 100000
set_option maxHeartbeats 1000000
namespace Y
theorem sm64 {a : Int} (h0 : 0 ≤ a) (h1 : a ≤ 1000) : small64 a = true := by
  unfold small64
  rw [Bool.and_eq_true, decide_eq_true_eq, decide_eq_true_eq]
  omega
theorem mul_f {a b : Int} {h : Heap} (ha : small64 a = true) : binop .Mult (.int a) (.int b) h = .ok (.int (a * b)) h := by
  show (match (if (small64 a || small64 b) = true then some (a * b) else none) with | some k => Res.ok (D.int k) h | none => .err) = _
  rw [ha, Bool.true_or, if_pos rfl]
theorem fdiv_f {a b : Int} {h : Heap} (hb : 0 < b ∧ b < 1073741824) : binop .FloorDiv (.int a) (.int b) h = .ok (.int (a / b)) h := by
  show (match (if 0 < b ∧ b < 1073741824 then some (a / b) else none) with | some k => Res.ok (D.int k) h | none => .err) = _
  rw [if_pos hb]
theorem mod_f {a b : Int} {h : Heap} (hb : 0 < b) : binop .Mod (.int a) (.int b) h = .ok (.int (a % b)) h := by
  show (match (if 0 < b then some (a % b) else none) with | some k => Res.ok (D.int k) h | none => .err) = _
  rw [if_pos hb]
theorem divmod_f {a b : Int} {h : Heap} (hb : 0 < b ∧ b < 1073741824) : biF .divmod [.int a, .int b] h = .ok (.tup [.int (a / b), .int (a % b)]) h := by
  show (if 0 < b ∧ b < 1073741824 then Res.ok (D.tup [.int (a / b), .int (a % b)]) h else .err) = _
  rw [if_pos hb]
theorem bi2_ev {C : Ctx} {b : Bi} {e1 e2 : E} {env : Env} {h h1 h2 : Heap} {x y : D} (ha : (ev C e1).v env h = .ok x h1) (hb : (ev C e2).v env h1 = .ok y h2) : (ev C (.bi b [e1, e2])).v env h = biF b [x, y] h2 := by
  show (Res.bind (cArgs (evs C [e1, e2]) env h) fun ds h => biF b ds h) = _
  rw [args_cons ha (args1 hb)]
  rfl
theorem rs_of {j : Int} (h0 : 0 ≤ j) (h1 : j ≤ 1000) : rngSmall j = true := by
  unfold rngSmall
  rw [Bool.and_eq_true, decide_eq_true_eq, decide_eq_true_eq]
  omega
def isT : SRes → Bool | .ret (.bl b) _ => b | _ => false
theorem isT_ok {r : SRes} (h : isT r = true) : ∃ h', r = .ret (.bl true) h' := by
  cases r with
  | ret d h' =>
    cases d with
    | bl b => cases b with
      | true => exact ⟨h', rfl⟩
      | false => cases h
    | _ => cases h
  | _ => cases h
theorem tup_ev {C : Ctx} {es : List E} {env : Env} {h h1 : Heap} {ds : List D} (ha : cArgs (evs C es) env h = .ok ds h1) (hl : ds.length ≤ 1000) : (ev C (.tup es)).v env h = .ok (.tup ds) h1 := by
  show (Res.bind (cArgs (evs C es) env h) fun ds h => mkTup ds h) = _
  rw [ha]
  show mkTup ds h1 = _
  unfold mkTup
  rw [if_pos (by unfold sizeLine; omega)]
theorem var_ev {C : Ctx} {i : Nat} {env : Env} {h : Heap} {d : D} (e : env[i]? = some (some d)) : (ev C (.var i)).v env h = .ok d h := by
  show (match env[i]? with | some (some d) => Res.ok d h | _ => .err) = _
  rw [e]
theorem cat_f {a b : List Nat} {h : Heap} (hl : a.length + b.length ≤ 100000) : binop .Add (.str a) (.str b) h = .ok (.str (a ++ b)) h := by
  show mkStr (a ++ b) h = _
  unfold mkStr
  rw [if_pos (by rw [List.length_append]; unfold sizeLine; omega)]
theorem bm_ev {C : Ctx} {m : Bm} {o : E} {es : List E} {env : Env} {h h1 h2 : Heap} {x : D} {ds : List D} (ho : (ev C o).v env h = .ok x h1) (ht : isBT h1 x (bmB m x) = true) (ha : cArgs (evs C es) env h1 = .ok ds h2) : (ev C (.bm m o es)).v env h = bmF C.base m x ds h2 := by
  show (Res.bind ((ev C o).v env h) fun x h => if isBT h x (bmB m x) then Res.bind (cArgs (evs C es) env h) fun ds h => bmF C.base m x ds h else .err) = _
  rw [ho]
  show (if isBT h1 x (bmB m x) then Res.bind (cArgs (evs C es) env h1) fun ds h => bmF C.base m x ds h else .err) = _
  rw [if_pos ht, ha]
  rfl
theorem list_at {h : Heap} {a : Nat} {xs : List D} (e : h.at a = some (.lst xs)) : list? h (.ref a) = some xs := by
  show (match h.at a with | some (.lst ds) => some ds | _ => none) = _
  rw [e]
theorem add_f {h : Heap} {a b : Nat} {xs ys : List D} (hx : h.at a = some (.lst xs)) (hy : h.at b = some (.lst ys)) (hl : xs.length + ys.length ≤ 1000) : binop .Add (.ref a) (.ref b) h = .ok (.ref h.length) (h ++ [.lst (xs ++ ys)]) := by
  show (match list? h (.ref a), list? h (.ref b) with | some xs, some ys => mkLst (xs ++ ys) h | _, _ => .err) = _
  rw [list_at hx, list_at hy]
  show mkLst (xs ++ ys) h = _
  unfold mkLst
  rw [if_pos (by rw [List.length_append]; unfold sizeLine; omega)]
theorem lst_ev {C : Ctx} {es : List E} {env : Env} {h h1 : Heap} {ds : List D} (ha : cArgs (evs C es) env h = .ok ds h1) (hl : ds.length ≤ 1000) : (ev C (.lst es)).v env h = .ok (.ref h1.length) (h1 ++ [.lst ds]) := by
  show (Res.bind (cArgs (evs C es) env h) fun ds h => mkLst ds h) = _
  rw [ha]
  show mkLst ds h1 = _
  unfold mkLst
  rw [if_pos (by unfold sizeLine; omega)]
theorem at_put {w : Nat} {s : Heap} {o o2 : HV} (h : s.at w = some o) : Heap.at (s.set w o2) w = some o2 := by
  unfold Heap.at
  exact List.getElem?_set_self (at_lt h)
theorem attr_ev {C : Ctx} {o : E} {env : Env} {h h1 : Heap} {a c f : Nat} {fs : List (Nat × D)} {d : D} (ho : (ev C o).v env h = .ok (.ref a) h1) (ha : h1.at a = some (.ins c fs)) (hf : getF f fs = some d) : (ev C (.attr o f)).v env h = .ok d h1 := by
  show (Res.bind ((ev C o).v env h) fun x h => attrF f x h) = _
  rw [ho]
  show (match h1.at a with | some (.ins _ fs) => optR (getF f fs) h1 | _ => .err) = _
  rw [ha]
  show optR (getF f fs) h1 = _
  rw [hf]
  rfl
theorem slc_ev {C : Ctx} {a lo hi : E} {env : Env} {h : Heap} {s : List Nat} {i j : Int} (ha : (ev C a).v env h = .ok (.str s) h) (hl : (ev C lo).v env h = .ok (.int i) h) (hh : (ev C hi).v env h = .ok (.int j) h) (w1 : lo.wr = true) (w2 : hi.wr = true) :
    (ev C (.slc a lo hi)).v env h = .ok (.str (cut s (some i) (some j))) h := by
  show (Res.bind ((ev C a).v env h) fun x h => (partF lo.wr (ev C lo).v env h).bind fun l h => (partF hi.wr (ev C hi).v env h).bind fun u h => slcV x l u h) = _
  rw [ha, w1, w2]
  show ((Res.bind ((ev C lo).v env h) fun d h => match bndF true d with | some o => Res.ok o h | none => .err).bind fun l h => (partF true (ev C hi).v env h).bind fun u h => slcV (.str s) l u h) = _
  rw [hl]
  show ((Res.bind ((ev C hi).v env h) fun d h => match bndF true d with | some o => Res.ok o h | none => .err).bind fun u h => slcV (.str s) (some i) u h) = _
  rw [hh]
  rfl
theorem setItem_dic {b a : Nat} {h : Heap} {kvs : List (D × D)} {k v : D} (ha : h.at a = some (.dic kvs)) (hk : k.keyK = true) (hl : kvs.length < sizeLine) (hb : b ≤ a) : setItem b (.ref a) k v h = some (h.set a (.dic (putD k v kvs))) := by
  unfold setItem
  dsimp only
  rw [ha]
  cases k <;> first | (cases hk; done) | skip
  · show (if (D.int _).keyK && decide (kvs.length < sizeLine) then setO b h a (.dic (putD _ v kvs)) else none) = _
    rw [decide_eq_true hl]
    exact if_pos hb
  · show (if (D.str _).keyK && decide (kvs.length < sizeLine) then setO b h a (.dic (putD _ v kvs)) else none) = _
    rw [decide_eq_true hl]
    exact if_pos hb
theorem cut_sub {xs : List Nat} {i j : Nat} (hij : i ≤ j) (hj : j ≤ xs.length) : cut xs (some (i : Int)) (some (j : Int)) = (xs.take j).drop i := by
  have c : ∀ q : Nat, q ≤ xs.length → clip xs.length (q : Int) = q := fun q hq => by
    unfold clip
    rw [if_pos (by omega)]
    split
    · simp
    · omega
  show (xs.take (clip xs.length (j : Int))).drop (clip xs.length (i : Int)) = _
  rw [c j hj, c i (by omega)]
def qC (P : Prog) (N b : Nat) : Ctx := { P := P, call := callF P (N + 1), base := b, low := callF P N, tl := false }
theorem mth_ev {P : Prog} {N b m k a c : Nat} {o : E} {es : List E} {env : Env} {h h1 h2 h3 : Heap} {fs : List (Nat × D)} {ds : List D} {d : D} (ho : (ev (qC P N b) o).v env h = .ok (.ref a) h1) (ha : h1.at a = some (.ins c fs)) (hk : P.meth c m = some k)
    (hs : cArgs (evs (qC P N b) es) env h1 = .ok ds h2) (hc : callF P (N + 1) b k (.ref a :: ds) h2 = .ok d h3) : (ev (qC P N b) (.mth m o es)).v env h = .ok d h3 := by
  show (Res.bind ((ev (qC P N b) o).v env h) fun x h => match x with
    | .ref a => (match h.at a with
      | some (.ins c _) => (match P.meth c m with | some k => (cArgs (evs (qC P N b) es) env h).bind fun ds h => callF P (N + 1) b k (.ref a :: ds) h | none => .err)
      | _ => .err)
    | _ => .err) = _
  rw [ho]
  show (match h1.at a with
      | some (.ins c _) => (match P.meth c m with | some k => (cArgs (evs (qC P N b) es) env h1).bind fun ds h => callF P (N + 1) b k (.ref a :: ds) h | none => .err)
      | _ => .err) = _
  rw [ha]
  show (match P.meth c m with | some k => (cArgs (evs (qC P N b) es) env h1).bind fun ds h => callF P (N + 1) b k (.ref a :: ds) h | none => .err) = _
  rw [hk]
  show ((cArgs (evs (qC P N b) es) env h1).bind fun ds h => callF P (N + 1) b k (.ref a :: ds) h) = _
  rw [hs]
  exact hc
theorem call_run {P : Prog} {N b k : Nat} {f : Fn} {ds : List D} {h h' : Heap} {d : D} (hk : P.fns[k]? = some f) (hp : f.pure = false) (hll : f.lam = false) (hl : ds.length = f.np)
    (hx : execSs (qC P N b) f.body (ds.map some ++ List.replicate (f.ns - f.np) none) h = .ret d h' ∨ (d = .non ∧ ∃ e, execSs (qC P N b) f.body (ds.map some ++ List.replicate (f.ns - f.np) none) h = .nx e h')) : callF P (N + 2) b k ds h = .ok d h' := by
  show bodyF P (callF P (N + 1)) (callF P N) true b k ds h = _
  unfold bodyF
  rw [hk]
  dsimp only
  rw [if_pos hl, hp, if_neg Bool.false_ne_true, hll]
  show (match execSs (qC P N b) f.body (ds.map some ++ List.replicate (f.ns - f.np) none) h with
      | .nx _ h' => fin false h .non h'
      | .ret d h' => fin false h d h'
      | .exc c ds h' => if false = true then (if D.unders h.length ds then Res.exc c ds h else .err) else .exc c ds h'
      | _ => .err) = _
  rcases hx with hx | ⟨rfl, e, hx⟩
  · rw [hx]; rfl
  · rw [hx]; rfl
theorem new_ev {P : Prog} {N b c k : Nat} {es : List E} {env : Env} {h h1 h2 : Heap} {ds : List D} (hk : P.init c = some k) (ha : cArgs (evs (qC P N b) es) env h = .ok ds h1) (hc : callF P (N + 1) b k (.ref h1.length :: ds) (h1 ++ [.ins c []]) = .ok .non h2) : (ev (qC P N b) (.new c es)).v env h = .ok (.ref h1.length) h2 := by
  show (Res.bind (cArgs (evs (qC P N b) es) env h) fun ds h => newF (qC P N b) c ds h) = _
  rw [ha]
  show newF (qC P N b) c ds h1 = _
  unfold newF
  show (match P.init c with | some k => (callF P (N + 1) b k (.ref h1.length :: ds) (h1 ++ [HV.ins c []])).bind fun v h' => (match v with | .non => Res.ok (D.ref h1.length) h' | _ => .err) | none => .err) = _
  rw [hk]
  show ((callF P (N + 1) b k (.ref h1.length :: ds) (h1 ++ [HV.ins c []])).bind fun v h' => (match v with | .non => Res.ok (D.ref h1.length) h' | _ => .err)) = _
  rw [hc]
  rfl
/-- all ways -/
theorem seta_ev {C : Ctx} {f a c : Nat} {o e : E} {env : Env} {h h1 h2 : Heap} {fs : List (Nat × D)} {d : D} (he : (ev C e).v env h = .ok d h1) (ho : (ev C o).v env h1 = .ok (.ref a) h2) (ha : h2.at a = some (.ins c fs)) (hl : fs.length < 900) (hb : C.base ≤ a) :
    execS C (.seta o f e) env h = .nx env (h2.set a (.ins c (setF f d fs))) := by
  unfold execS evalE
  rw [he]
  show ofRes ((ev C o).v env h1) (fun x h => nxO env (setAttr C.base x f d h)) = _
  rw [ho]
  show nxO env (match h2.at a with | some (.ins c fs) => if fs.length < 900 then setO C.base h2 a (.ins c (setF f d fs)) else none | _ => none) = _
  rw [ha]
  show nxO env (if fs.length < 900 then setO C.base h2 a (.ins c (setF f d fs)) else none) = _
  rw [if_pos hl]
  unfold setO
  rw [if_pos hb]
  rfl
theorem unders_of {G : List D} (h : ∀ d ∈ G, pl 3 d = true) (m : Nat) : D.unders m G = true := by
  have key : ∀ (k : Nat) (d : D), pl k d = true → D.under m d = true := by
    intro k
    induction k with
    | zero => intro d hd; cases d <;> first | rfl | (unfold pl at hd; simp at hd; done) | (unfold pl at hd; cases hd)
    | succ k ih =>
      intro d hd
      cases d <;> first | rfl | (unfold pl at hd; cases hd; done) | skip
      rename_i ds
      unfold pl at hd
      simp only [Bool.and_eq_true, Nat.add_sub_cancel] at hd
      unfold D.under
      have h2 := hd.2
      clear hd
      induction ds with
      | nil => rfl
      | cons x xs ih2 =>
        unfold pls at h2
        obtain ⟨h3, h4⟩ := Bool.and_eq_true_iff.mp h2
        unfold D.unders
        rw [ih x h3, ih2 h4]
        rfl
  induction G with
  | nil => rfl
  | cons x xs ih =>
    unfold D.unders
    rw [key 3 x (h x List.mem_cons_self), ih fun d hd => h d (List.mem_cons_of_mem _ hd)]
    rfl
theorem min1_f {h : Heap} {x y : D} {ys : List D} (hx : items? h x = some (y :: ys)) (hc : cmpOk (y :: ys) = true) : biF .min1 [x] h = .ok (minBy y ys) h := by
  show (match items? h x with | some (y :: ys) => (if cmpOk (y :: ys) then Res.ok (minBy y ys) h else .err) | _ => .err) = _
  rw [hx]
  show (if cmpOk (y :: ys) = true then Res.ok (minBy y ys) h else .err) = _
  rw [if_pos hc]
theorem steps {C : Ctx} : ∀ {a b : List S} {env env1 : Env} {h h1 : Heap}, execSs C a env h = .nx env1 h1 → YRun C b env1 h1 → YRun C (a ++ b) env h
  | [], b, env, env1, h, h1, e, g => by
    have e : SRes.nx env h = .nx env1 h1 := e
    cases e
    exact g
  | s :: a, b, env, env1, h, h1, e, g => by
    rw [execSs_cons] at e
    cases q : execS C s env h with
    | nx env2 h2 =>
      rw [q] at e
      exact .step q (steps e g)
    | ret _ _ => rw [q] at e; cases e
    | brk _ _ => rw [q] at e; cases e
    | cnt _ _ => rw [q] at e; cases e
    | exc _ _ _ => rw [q] at e; cases e
    | err => rw [q] at e; cases e
theorem ife_t {C : Ctx} {t a b : E} {env : Env} {h h1 : Heap} (ht : (ev C t).t env h = .ok true h1) : (ev C (.ife t a b)).v env h = (ev C a).v env h1 := by
  show (Res.bind ((ev C t).t env h) fun c h => if c then (ev C a).v env h else (ev C b).v env h) = _
  rw [ht]
  rfl
theorem ife_f {C : Ctx} {t a b : E} {env : Env} {h h1 : Heap} (ht : (ev C t).t env h = .ok false h1) : (ev C (.ife t a b)).v env h = (ev C b).v env h1 := by
  show (Res.bind ((ev C t).t env h) fun c h => if c then (ev C a).v env h else (ev C b).v env h) = _
  rw [ht]
  rfl
theorem ss_app {C : Ctx} {a b : List S} {env env1 : Env} {h h1 : Heap} (e : execSs C a env h = .nx env1 h1) : execSs C (a ++ b) env h = execSs C b env1 h1 := by
  rw [execs_append, e]
theorem or_tt {C : Ctx} {e e2 : E} {env : Env} {h h1 : Heap} (ha : (ev C e).t env h = .ok true h1) : (ev C (.orv e e2)).t env h = .ok true h1 := by
  show (Res.bind ((ev C e).t env h) fun c h => if c then .ok true h else (ev C e2).t env h) = _
  rw [ha]
  rfl
theorem and_tt {C : Ctx} {e e2 : E} {env : Env} {h h1 h2 : Heap} {b : Bool} (ha : (ev C e).t env h = .ok true h1) (hb : (ev C e2).t env h1 = .ok b h2) : (ev C (.andv e e2)).t env h = .ok b h2 := by
  show (Res.bind ((ev C e).t env h) fun c h => if c then (ev C e2).t env h else .ok false h) = _
  rw [ha]
  exact hb
theorem and_tf {C : Ctx} {e e2 : E} {env : Env} {h h1 : Heap} (ha : (ev C e).t env h = .ok false h1) : (ev C (.andv e e2)).t env h = .ok false h1 := by
  show (Res.bind ((ev C e).t env h) fun c h => if c then (ev C e2).t env h else .ok false h) = _
  rw [ha]
  rfl
theorem or_v {C : Ctx} {e e2 : E} {env : Env} {h h1 h2 : Heap} {a : Bool} {d : D} (ha : (ev C e).v env h = .ok (.bl a) h1) (hb : a = false → (ev C e2).v env h1 = .ok d h2) (h3 : a = true → d = .bl true ∧ h2 = h1) : (ev C (.orv e e2)).v env h = .ok d h2 := by
  show (Res.bind ((ev C e).v env h) fun x h => match truth h x with | some true => .ok x h | some false => (ev C e2).v env h | none => .err) = _
  rw [ha]
  cases a with
  | true => obtain ⟨rfl, rfl⟩ := h3 rfl; rfl
  | false => exact hb rfl
/-- a loop that may return -/
theorem for_ret {C : Ctx} {tg : Tg} {it : E} {env : Env} {h h1 : Heap} {w : It} {n : Nat} {b : List S} (I : Nat → Env → Heap → Prop) (B : D → Heap → Prop) (hit : (ev C it).i env h = .ok w h1) (h0 : I 0 env h1)
    (hn : ∀ i e s, i < n → I i e s → ∃ d e1, w.next i s = .item d ∧ assign tg d s e = some e1 ∧ ((∃ e2 s2, execSs C b e1 s = .nx e2 s2 ∧ I (i + 1) e2 s2) ∨ ∃ r s2, execSs C b e1 s = .ret r s2 ∧ B r s2))
    (hs : ∀ e s, I n e s → w.next n s = .stop) (hf : n < C.P.fuel) : (∃ e2 s2, execS C (.for_ tg it b) env h = .nx e2 s2 ∧ I n e2 s2) ∨ ∃ r s2, execS C (.for_ tg it b) env h = .ret r s2 ∧ B r s2 := by
  have key := turns_rule (it := w) (heap := fun s : Env × Heap => s.2) (step := stepF tg (execSs C b)) (n := n) (B := fun r => ∃ d s2, r = .ret d s2 ∧ B d s2) (I := fun i s => I i s.1 s.2)
    (fun i s hI hi => by
      obtain ⟨d, e1, q1, q2, q3⟩ := hn i s.1 s.2 hi hI
      refine ⟨d, q1, ?_⟩
      rcases q3 with ⟨e2, s2, q3, q4⟩ | ⟨r, s2, q3, q4⟩
      · refine .inl ⟨(e2, s2), ?_, q4⟩
        unfold stepF
        rw [q2]
        dsimp only
        rw [q3]
      · refine .inr ⟨.ret r s2, ?_, r, s2, rfl, q4⟩
        unfold stepF
        rw [q2]
        dsimp only
        rw [q3])
    (fun s hI => hs s.1 s.2 hI) C.P.fuel 0 (env, h1) (by omega) (by omega) h0
  rcases key with ⟨s', e, hI⟩ | ⟨r, e, d, s2, rfl, hB⟩
  · refine .inl ⟨s'.1, s'.2, ?_, hI⟩
    unfold execS loopF evalI
    rw [hit]
    show finT (turns _ _ _ _ _ _) = _
    rw [e]
    rfl
  · refine .inr ⟨d, s2, ?_, hB⟩
    unfold execS loopF evalI
    rw [hit]
    show finT (turns _ _ _ _ _ _) = _
    rw [e]
    rfl
end Y
set_option Elab.async false
set_option linter.all false
set_option maxRecDepth 100000
set_option maxHeartbeats 4000000
namespace Y
theorem idx_last {h : Heap} {x : D} {xs : List D} {d : D} (e : items? h x = some xs) (h0 : 0 < xs.length) (hi : xs[xs.length - 1]? = some d) : idxF x (.int (-1)) h = .ok d h := by
  have hx : idxN xs.length (-1) = some (xs.length - 1) := by
    unfold idxN
    rw [if_neg (by omega), if_pos (by omega)]
    congr 1
    omega
  cases x <;> first | (cases e; done) | skip
  · cases e
    simp [idxF, hx, hi, optR]
  · have eo := items_ref e
    simp [idxF, eo, hx, hi, optR]
theorem aug_ev {C : Ctx} {i : Nat} {op : PySem.Operator} {e : E} {env : Env} {h h1 h2 : Heap} {x d r : D} (hi : env[i]? = some (some x)) (he : (ev C e).v env h = .ok d h1) (ho : augop op x d h1 = .ok r h2) : execS C (.aug i op e) env h = .nx (env.put i r) h2 := by
  unfold execS evalE
  rw [hi]
  dsimp only
  rw [he]
  show ofRes (augop op x d h1) _ = _
  rw [ho]
  rfl
/-- a while loop that ends behind r turns -/
theorem whl_rule {C : Ctx} {t : E} {b : List S} (I : Nat → Env → Heap → Prop) (hn : ∀ r e s, I (r + 1) e s → ∃ s1 e2 s2, (ev C t).t e s = .ok true s1 ∧ execSs C b e s1 = .nx e2 s2 ∧ I r e2 s2)
    (hs : ∀ e s, I 0 e s → (ev C t).t e s = .ok false s) {r : Nat} {e : Env} {s : Heap} (h : I r e s) (hf : r < C.P.fuel) : ∃ e2 s2, execS C (.whl t b) e s = .nx e2 s2 ∧ I 0 e2 s2 := by
  have key : ∀ (f r : Nat) (e : Env) (s : Heap), r < f → I r e s → ∃ e2 s2, loopW (evalT C t) (execSs C b) f e s = .nx e2 s2 ∧ I 0 e2 s2 := by
    intro f
    induction f with
    | zero => intro r e s hr; exact absurd hr (Nat.not_lt_zero _)
    | succ f ih =>
      intro r e s hr h
      cases r with
      | zero =>
        refine ⟨e, s, ?_, h⟩
        unfold loopW evalT
        rw [hs e s h]
      | succ r =>
        obtain ⟨s1, e2, s2, q1, q2, q3⟩ := hn r e s h
        obtain ⟨e3, s3, q4, q5⟩ := ih r e2 s2 (by omega) q3
        refine ⟨e3, s3, ?_, q5⟩
        unfold loopW
        rw [show evalT C t e s = .ok true s1 from q1]
        dsimp only
        rw [q2]
        exact q4
  obtain ⟨e2, s2, q, h2⟩ := key C.P.fuel r e s hf h
  exact ⟨e2, s2, by unfold execS; exact q, h2⟩
def iD (l : List Int) : List D := l.map .int
def nD (l : List Nat) : List D := l.map fun n : Nat => D.int (n : Int)
theorem iD_len {l : List Int} : (iD l).length = l.length := List.length_map _
theorem nD_len {l : List Nat} : (nD l).length = l.length := List.length_map _
theorem nD_app {l m : List Nat} : nD (l ++ m) = nD l ++ nD m := List.map_append
theorem nD_get {l : List Nat} {j : Nat} (h : j < l.length) : (nD l)[j]? = some (.int (l[j] : Int)) := by
  unfold nD
  rw [List.getElem?_map, List.getElem?_eq_getElem h]
  rfl
theorem nD_mem {l : List Nat} {d : D} : d ∈ nD l ↔ ∃ n ∈ l, d = .int (n : Int) := by
  unfold nD
  rw [List.mem_map]
  exact ⟨fun ⟨n, h1, h2⟩ => ⟨n, h1, h2.symm⟩, fun ⟨n, h1, h2⟩ => ⟨n, h1, h2.symm⟩⟩
theorem nD_all {p : D → Bool} (h : ∀ i, p (.int i) = true) : ∀ l, (nD l).all p = true
  | [] => rfl
  | x :: l => by show (p (.int x) && (nD l).all p) = true; rw [h, nD_all h l]; rfl
theorem nD_any {p : D → Bool} (h : ∀ i, p (.int i) = false) : ∀ l, (nD l).any p = false
  | [] => rfl
  | x :: l => by show (p (.int x) || (nD l).any p) = false; rw [h, nD_any h l]; rfl
theorem nD_dats (n : Nat) : ∀ l, dats n (nD l) = true
  | [] => rfl
  | x :: l => by show (dat n (.int x) && dats n (nD l)) = true; rw [nD_dats n l]; rfl
theorem nD_cmp (l : List Nat) : cmpOk (nD l) = true := by
  unfold cmpOk
  rw [nD_dats, nD_all (p := D.isI) fun i => rfl]
  rfl
theorem nD_under (m : Nat) : ∀ l, D.unders m (nD l) = true
  | [] => rfl
  | x :: l => by show (D.under m (.int (x : Int)) && D.unders m (nD l)) = true; rw [nD_under m l]; rfl
theorem nD_pl (m : Nat) : ∀ l, pls m (nD l) = true
  | [] => rfl
  | x :: l => by show (pl m (.int (x : Int)) && pls m (nD l)) = true; rw [nD_pl m l]; cases m <;> rfl
theorem isIn_nD (x : Nat) : ∀ l : List Nat, isIn (.int (x : Int)) (nD l) = some (decide (x ∈ l))
  | [] => rfl
  | y :: l => by
    show (match eqW (.int (y : Int)) (.int (x : Int)), isIn (.int (x : Int)) (nD l) with | some a, some b => some (a || b) | _, _ => none) = _
    rw [isIn_nD x l]
    show some (decide ((y : Int) = (x : Int)) || decide (x ∈ l)) = _
    congr 1
    rw [← Bool.decide_or]
    exact decide_eq_decide.mpr (by rw [List.mem_cons]; exact ⟨fun h => h.imp (fun e => by omega) id, fun h => h.imp (fun e => by omega) id⟩)
theorem inop_nD {h : Heap} {y : D} {l : List Nat} (hy : items? h y = some (nD l)) (x : Nat) : inop (.int (x : Int)) y h = some (decide (x ∈ l)) := by
  cases y <;> first | (cases hy; done) | skip
  · cases hy; exact isIn_nD x l
  · have e := items_ref hy
    show (match h.at _ with | some (.lst ds) => isIn (.int (x : Int)) ds | some (.dic kvs) => if (D.int (x : Int)).keyK then some (lookD (.int (x : Int)) kvs).isSome else none | _ => none) = _
    rw [e]
    exact isIn_nD x l
theorem notin_nD {h : Heap} {y : D} {l : List Nat} (hy : items? h y = some (nD l)) (x : Nat) : cmpF .NotIn (.int (x : Int)) y h = .ok (.bl (!decide (x ∈ l))) h := by
  show optR (((inop (.int (x : Int)) y h).map not).map D.bl) h = _
  rw [inop_nD hy]
  rfl
theorem in_nD {h : Heap} {y : D} {l : List Nat} (hy : items? h y = some (nD l)) (x : Nat) : cmpF .In (.int (x : Int)) y h = .ok (.bl (decide (x ∈ l))) h := by
  show optR ((inop (.int (x : Int)) y h).map D.bl) h = _
  rw [inop_nD hy]
  rfl
theorem minBy_nD : ∀ (xs : List Nat) (x : Nat), minBy (.int (x : Int)) (nD xs) = .int ((xs.foldl min x : Nat) : Int)
  | [], x => rfl
  | z :: zs, x => by
    show (nD zs).foldl (fun a y => if ltA y a then y else a) (if ltA (.int (z : Int)) (.int (x : Int)) then .int (z : Int) else .int (x : Int)) = _
    have e : (if ltA (.int (z : Int)) (.int (x : Int)) then D.int (z : Int) else .int (x : Int)) = .int ((min x z : Nat) : Int) := by
      show (if decide ((z : Int) < (x : Int)) = true then D.int (z : Int) else .int (x : Int)) = _
      by_cases h : (z : Int) < (x : Int)
      · rw [if_pos (decide_eq_true h), Nat.min_eq_right (by omega)]
      · rw [if_neg (by rw [decide_eq_false h]; exact Bool.false_ne_true), Nat.min_eq_left (by omega)]
    rw [e]
    exact minBy_nD zs (min x z)
theorem le_f {a c : Int} {hh : Heap} : cmpF .LtE (.int a) (.int c) hh = .ok (.bl (decide (a ≤ c))) hh := rfl
theorem ge_f {a c : Int} {hh : Heap} : cmpF .GtE (.int a) (.int c) hh = .ok (.bl (decide (c ≤ a))) hh := rfl
theorem gt_f {a c : Int} {hh : Heap} : cmpF .Gt (.int a) (.int c) hh = .ok (.bl (decide (c < a))) hh := rfl
theorem lt_f {a c : Int} {hh : Heap} : cmpF .Lt (.int a) (.int c) hh = .ok (.bl (decide (a < c))) hh := by
  unfold cmpF
  rw [lt_int]
  rfl
theorem ne_f {a c : Int} {hh : Heap} : cmpF .NotEq (.int a) (.int c) hh = .ok (.bl (!decide (a = c))) hh := by
  show optR (((cmpop .Eq (.int a) (.int c) hh).map not).map D.bl) hh = _
  rw [eq_int]
  rfl
section
variable {C : Ctx} {own : List Nat} {tg : Tg} {it elt c a lo hi e1 e2 : E} {env : Env} {h h1 h2 h3 : Heap} {w : It} {ds xs : List D} {f : D → D} {p : D → Bool} {E' : D → Env} {x y z : D}
theorem tuple_f (hx : items? h x = some ds) : biF .tuple [x] h = .ok (.tup ds) h := by
  show (match items? h x with | some xs => Res.ok (D.tup xs) h | none => .err) = _
  rw [hx]
theorem and_vf (ha : (ev C e1).v env h = .ok (.bl false) h1) : (ev C (.andv e1 e2)).v env h = .ok (.bl false) h1 := by
  show (Res.bind ((ev C e1).v env h) fun x h => match truth h x with | some true => (ev C e2).v env h | some false => .ok x h | none => .err) = _
  rw [ha]
  rfl
/-- a comprehension with a test -/
theorem lc_filt (hit : (ev C it).i env h = .ok w h1) (hw : Walks w h1 ds) (ha : ∀ d ∈ ds, ∀ t, assign tg d (h1 ++ t) (wipe env own) = some (E' d))
    (hc : ∀ d ∈ ds, ∀ t, (ev C c).t (E' d) (h1 ++ t) = .ok (p d) (h1 ++ t)) (he : ∀ d ∈ ds, p d = true → ∀ t, (ev C elt).v (E' d) (h1 ++ t) = .ok (f d) (h1 ++ t)) (hf : ds.length < C.P.fuel) (hz : ds.length ≤ sizeLine) :
    (ev C (.lc own tg it [c] elt)).v env h = .ok (.ref h1.length) (h1 ++ [.lst ((ds.filter p).map f)]) := by
  obtain ⟨acc, s, q1, ⟨q2, q3⟩, q4⟩ := lc_rule (C := C) (own := own) (tg := tg) (it := it) (elt := elt) (ifs := [c]) (n := ds.length) (M := fun i acc s => s = h1 ++ [.lst acc] ∧ acc = ((ds.take i).filter p).map f) hit ⟨rfl, rfl⟩
    (fun i acc s hi ⟨e1, e2⟩ _ => by
      subst e1
      have hm : ds[i] ∈ ds := List.getElem_mem hi
      have ht : cTests (evt C [c]) (E' ds[i]) (h1 ++ [.lst acc]) = .ok (p ds[i]) (h1 ++ [.lst acc]) := by
        show (Res.bind ((ev C c).t (E' ds[i]) (h1 ++ [.lst acc])) fun b h => if b then Res.ok true h else .ok false h) = _
        rw [hc _ hm]
        cases p ds[i] <;> rfl
      have etk : ds.take (i + 1) = ds.take i ++ [ds[i]] := List.take_succ_eq_append_getElem hi
      refine ⟨ds[i], E' ds[i], p ds[i], _, (hw _).1 i hi, ha _ hm _, ht, ?_⟩
      rw [etk, List.filter_append]
      cases hp : p ds[i] with
      | false => exact .inl ⟨rfl, at_mid, rfl, by rw [e2, List.filter_cons_of_neg (by rw [hp]; exact Bool.false_ne_true), List.filter_nil, List.append_nil]⟩
      | true => exact .inr ⟨rfl, f ds[i], _, he _ hm hp _, at_mid, set_mid, by rw [e2, List.filter_cons_of_pos hp, List.filter_nil, List.map_append]; rfl⟩)
    (fun acc s ⟨e1, _⟩ => by subst e1; exact (hw _).2) hf hz
  rw [q1, q2, q3, List.take_length]
/-- a comprehension of fresh lists -/
theorem lc_refs {T : Nat → List D} (hit : (ev C it).i env h = .ok w h1) (hw : Walks w h1 ds) (ha : ∀ d ∈ ds, ∀ t, assign tg d (h1 ++ t) (wipe env own) = some (E' d))
    (he : ∀ (i : Nat) (d : D), ds[i]? = some d → ∀ t, ∃ k t', (ev C elt).v (E' d) (h1 ++ t) = .ok (.ref k) (h1 ++ t ++ t') ∧ (h1 ++ t).length ≤ k ∧ Heap.at (h1 ++ t ++ t') k = some (.lst (T i))) (hf : ds.length < C.P.fuel) (hz : ds.length ≤ sizeLine) :
    ∃ acc t', (ev C (.lc own tg it [] elt)).v env h = .ok (.ref h1.length) (h1 ++ .lst acc :: t') ∧ acc.length = ds.length ∧ ∀ (i : Nat) (d : D), acc[i]? = some d → ∃ k, d = .ref k ∧ h1.length < k ∧ Heap.at (h1 ++ .lst acc :: t') k = some (.lst (T i)) := by
  obtain ⟨acc, s, q1, ⟨t', q2, q3, q4⟩, _⟩ := lc_rule (C := C) (own := own) (tg := tg) (it := it) (elt := elt) (ifs := []) (n := ds.length)
    (M := fun i acc s => ∃ t', s = h1 ++ .lst acc :: t' ∧ acc.length = i ∧ ∀ (j : Nat) (d : D), acc[j]? = some d → ∃ k, d = .ref k ∧ h1.length < k ∧ s.at k = some (.lst (T j))) hit ⟨[], rfl, rfl, fun j d hd => by cases hd⟩
    (fun i acc s hi ⟨t', e1, e2, e3⟩ _ => by
      subst e1
      have hm : ds[i] ∈ ds := List.getElem_mem hi
      obtain ⟨k, t2, f1, f2, f3⟩ := he i ds[i] (List.getElem?_eq_getElem hi) (.lst acc :: t')
      have f2' : h1.length < k := by rw [List.length_append, List.length_cons] at f2; omega
      have set_ : (h1 ++ .lst acc :: t' ++ t2).set h1.length (.lst (acc ++ [.ref k])) = h1 ++ .lst (acc ++ [.ref k]) :: (t' ++ t2) := by
        rw [List.append_assoc, List.cons_append, set_mid]
      refine ⟨ds[i], E' ds[i], true, _, (hw _).1 i hi, ha _ hm _, rfl, .inr ⟨rfl, .ref k, _, f1, at_app at_mid, t' ++ t2, set_, by rw [List.length_append, e2]; rfl, fun j d hd => ?_⟩⟩
      have keep : ∀ (q : Nat) (o : HV), h1.length < q → Heap.at (h1 ++ .lst acc :: t' ++ t2) q = some o → Heap.at ((h1 ++ .lst acc :: t' ++ t2).set h1.length (.lst (acc ++ [.ref k]))) q = some o := fun q o hq ho => by
        unfold Heap.at
        rw [List.getElem?_set_ne (by omega)]
        exact ho
      by_cases hj : j < acc.length
      · rw [List.getElem?_append_left hj] at hd
        obtain ⟨q, g1, g2, g3⟩ := e3 j d hd
        exact ⟨q, g1, g2, keep q _ g2 (at_app g3)⟩
      · rw [List.getElem?_append_right (by omega)] at hd
        have hj0 : j - acc.length = 0 := by
          have := (List.getElem?_eq_some_iff.mp hd).1
          simp at this
          omega
        rw [hj0] at hd
        cases hd
        have : j = i := by omega
        subst this
        exact ⟨k, rfl, f2', keep k _ f2' f3⟩)
    (fun acc s ⟨t', e1, _⟩ => by subst e1; exact (hw _).2) hf hz
  subst q2
  exact ⟨acc, t', q1, q3, q4⟩
theorem clip_nat {n i : Nat} : clip n (i : Int) = min i n := by
  unfold clip
  rw [if_pos (by omega)]
  split
  · rw [Nat.min_eq_left (by omega)]; simp
  · rw [Nat.min_eq_right (by omega)]
/-- what a slice of a sequence gives -/
theorem slcV_seq {l u : Option Int} (hx : items? h x = some xs) (hl : xs.length ≤ sizeLine) : ∃ y t, slcV x l u h = .ok y (h ++ t) ∧ items? (h ++ t) y = some (cut xs l u) := by
  have hc : (cut xs l u).length ≤ sizeLine := by
    unfold cut
    rw [List.length_drop, List.length_take]
    omega
  cases x <;> first | (cases hx; done) | skip
  · cases hx
    exact ⟨_, [], by rw [List.append_nil]; rfl, rfl⟩
  · rename_i a
    refine ⟨.ref h.length, [.lst (cut xs l u)], ?_, ref_items at_mid⟩
    show (match list? h (.ref a) with | some ds => mkLst (cut ds l u) h | none => .err) = _
    rw [list_at (items_ref hx)]
    show mkLst (cut xs l u) h = _
    unfold mkLst
    rw [if_pos hc]
/-- xs[i:] -/
theorem slc_from {i : Nat} (hx : (ev C a).v env h = .ok x h1) (hl : (ev C lo).v env h1 = .ok (.int (i : Int)) h2) (hw : lo.wr = true) (hit : items? h2 x = some xs) (hz : xs.length ≤ sizeLine) :
    ∃ y t, (ev C (.slc a lo .cnon)).v env h = .ok y (h2 ++ t) ∧ items? (h2 ++ t) y = some (xs.drop i) := by
  obtain ⟨y, t, e1, e2⟩ := slcV_seq (l := some (i : Int)) (u := none) hit hz
  refine ⟨y, t, ?_, ?_⟩
  · show (Res.bind ((ev C a).v env h) fun x h => (partF lo.wr (ev C lo).v env h).bind fun l h => (partF false (ev C .cnon).v env h).bind fun u h => slcV x l u h) = _
    rw [hx, hw]
    show ((Res.bind ((ev C lo).v env h1) fun d h => match bndF true d with | some o => Res.ok o h | none => .err).bind fun l h => (partF false (ev C .cnon).v env h).bind fun u h => slcV x l u h) = _
    rw [hl]
    exact e1
  · rw [e2]
    show some ((xs.take xs.length).drop (clip xs.length (i : Int))) = _
    rw [List.take_length, clip_nat]
    congr 1
    by_cases h : i ≤ xs.length
    · rw [Nat.min_eq_left h]
    · rw [Nat.min_eq_right (by omega), List.drop_length, List.drop_eq_nil_of_le (by omega)]
/-- xs[:i] -/
theorem slc_to {i : Nat} (hx : (ev C a).v env h = .ok x h1) (hh : (ev C hi).v env h1 = .ok (.int (i : Int)) h2) (hw : hi.wr = true) (hit : items? h2 x = some xs) (hz : xs.length ≤ sizeLine) :
    ∃ y t, (ev C (.slc a .cnon hi)).v env h = .ok y (h2 ++ t) ∧ items? (h2 ++ t) y = some (xs.take i) := by
  obtain ⟨y, t, e1, e2⟩ := slcV_seq (l := none) (u := some (i : Int)) hit hz
  refine ⟨y, t, ?_, ?_⟩
  · show (Res.bind ((ev C a).v env h) fun x h => (partF false (ev C .cnon).v env h).bind fun l h => (partF hi.wr (ev C hi).v env h).bind fun u h => slcV x l u h) = _
    rw [hx, hw]
    show ((Res.bind ((ev C hi).v env h1) fun d h => match bndF true d with | some o => Res.ok o h | none => .err).bind fun u h => slcV x none u h) = _
    rw [hh]
    exact e1
  · rw [e2]
    show some ((xs.take (clip xs.length (i : Int))).drop 0) = _
    rw [List.drop_zero, clip_nat]
    congr 1
    by_cases h : i ≤ xs.length
    · rw [Nat.min_eq_left h]
    · rw [Nat.min_eq_right (by omega), List.take_length, List.take_of_length_le (by omega)]
theorem slcT_from {i : Nat} (hx : (ev C a).v env h = .ok (.tup xs) h1) (hl : (ev C lo).v env h1 = .ok (.int (i : Int)) h2) (hw : lo.wr = true) : (ev C (.slc a lo .cnon)).v env h = .ok (.tup (xs.drop i)) h2 := by
  show (Res.bind ((ev C a).v env h) fun x h => (partF lo.wr (ev C lo).v env h).bind fun l h => (partF false (ev C .cnon).v env h).bind fun u h => slcV x l u h) = _
  rw [hx, hw]
  show ((Res.bind ((ev C lo).v env h1) fun d h => match bndF true d with | some o => Res.ok o h | none => .err).bind fun l h => (partF false (ev C .cnon).v env h).bind fun u h => slcV (.tup xs) l u h) = _
  rw [hl]
  show Res.ok (D.tup ((xs.take xs.length).drop (clip xs.length (i : Int)))) h2 = _
  rw [List.take_length, clip_nat]
  congr 2
  by_cases h : i ≤ xs.length
  · rw [Nat.min_eq_left h]
  · rw [Nat.min_eq_right (by omega), List.drop_length, List.drop_eq_nil_of_le (by omega)]
theorem slcT_to {i : Nat} (hx : (ev C a).v env h = .ok (.tup xs) h1) (hh : (ev C hi).v env h1 = .ok (.int (i : Int)) h2) (hw : hi.wr = true) : (ev C (.slc a .cnon hi)).v env h = .ok (.tup (xs.take i)) h2 := by
  show (Res.bind ((ev C a).v env h) fun x h => (partF false (ev C .cnon).v env h).bind fun l h => (partF hi.wr (ev C hi).v env h).bind fun u h => slcV x l u h) = _
  rw [hx, hw]
  show ((Res.bind ((ev C hi).v env h1) fun d h => match bndF true d with | some o => Res.ok o h | none => .err).bind fun u h => slcV (.tup xs) none u h) = _
  rw [hh]
  show Res.ok (D.tup ((xs.take (clip xs.length (i : Int))).drop 0)) h2 = _
  rw [List.drop_zero, clip_nat]
  congr 2
  by_cases h : i ≤ xs.length
  · rw [Nat.min_eq_left h]
  · rw [Nat.min_eq_right (by omega), List.take_length, List.take_of_length_le (by omega)]
theorem addT_f {as bs : List D} (hl : as.length + bs.length ≤ 1000) : binop .Add (.tup as) (.tup bs) h = .ok (.tup (as ++ bs)) h := by
  show mkTup (as ++ bs) h = _
  unfold mkTup
  rw [if_pos (by rw [List.length_append]; unfold sizeLine; omega)]
theorem mind_ev (ha : (ev C a).v env h = .ok x h1) (hb : (ev C c).v env h1 = .ok z h2) : (ev C (.mind a c)).v env h = biF .minD [x, z] h2 := by
  show (Res.bind (cArgs (evs C [a, c]) env h) fun ds h => biF .minD ds h) = _
  rw [args_cons ha (args1 hb)]
  rfl
theorem minD_nil (hx : items? h x = some []) : biF .minD [x, z] h = .ok z h := by
  show (match items? h x with | some (y :: ys) => (if cmpOk (y :: ys) then Res.ok (minBy y ys) h else .err) | some [] => .ok z h | none => .err) = _
  rw [hx]
theorem minD_cons {ys : List D} (hx : items? h x = some (y :: ys)) (hc : cmpOk (y :: ys) = true) : biF .minD [x, z] h = .ok (minBy y ys) h := by
  show (match items? h x with | some (y :: ys) => (if cmpOk (y :: ys) then Res.ok (minBy y ys) h else .err) | some [] => .ok z h | none => .err) = _
  rw [hx]
  show (if cmpOk (y :: ys) = true then Res.ok (minBy y ys) h else .err) = _
  rw [if_pos hc]
/-- xs.append(y), the list made behind h -/
theorem app_f {b q : Nat} {g : Heap} (hb : b ≤ h.length) (hq : q = h.length) (hl : xs.length < 100000) : bmF b .append (.ref q) [x] (h ++ .lst xs :: g) = .ok .non (h ++ .lst (xs ++ [x]) :: g) := by
  subst hq
  unfold bmF
  dsimp only
  rw [at_mid]
  dsimp only
  rw [if_pos (by unfold sizeLine; omega)]
  unfold setO
  rw [if_pos hb, set_mid]
  rfl
/-- xs.append(y) as a statement -/
theorem app_ev {q : Nat} {g : Heap} {o : E} (ho : (ev C o).v env h = .ok (.ref q) (h1 ++ .lst xs :: g)) (hq : q = h1.length) (hb : C.base ≤ h1.length) (he : ∃ g', (ev C c).v env (h1 ++ .lst xs :: g) = .ok x (h1 ++ .lst xs :: g')) (hl : xs.length < 100000) :
    ∃ g', execS C (.expr (.bm .append o [c])) env h = .nx env (h1 ++ .lst (xs ++ [x]) :: g') := by
  obtain ⟨g', he⟩ := he
  refine ⟨g', expr_ev ((bm_ev (m := .append) ho ?_ (args1 he)).trans (app_f hb hq hl))⟩
  subst hq
  show (match (h1 ++ HV.lst xs :: g).at h1.length with | some (.lst _) => true | _ => false) = true
  rw [at_mid]
theorem app_ev0 {q : Nat} {o : E} (ho : (ev C o).v env h = .ok (.ref q) (h1 ++ [.lst xs])) (hq : q = h1.length) (hb : C.base ≤ h1.length) (he : (ev C c).v env (h1 ++ [.lst xs]) = .ok x (h1 ++ [.lst xs])) (hl : xs.length < 100000) :
    execS C (.expr (.bm .append o [c])) env h = .nx env (h1 ++ [.lst (xs ++ [x])]) := by
  refine expr_ev ((bm_ev (m := .append) ho ?_ (args1 he)).trans (app_f hb hq hl))
  subst hq
  show (match (h1 ++ [HV.lst xs]).at h1.length with | some (.lst _) => true | _ => false) = true
  rw [at_mid]
end
end Y
set_option Elab.async false
set_option linter.all false
set_option maxRecDepth 100000
set_option maxHeartbeats 4000000
namespace Y
open PySem PySem.Spec PyProof.Rows
open L2 (V Hp)
def obsZ (n : Nat) (fa : List He.Fa) (fn : List He.DefD) (ts : List He.Tab) (tf : List He.Defn) (ex : PySem.W.Frag → Bool) (g : Addr → Option Obj) : He.AlX :=
  (He.obsT fa fn ts (He.frT g (He5.asA g n)), ex (He.frT g (He5.asA g n)) && He.tabsB g tf (He.frT g (He5.asA g n)))
theorem saysZ_of {n : Nat} {fa : List He.Fa} {fn : List He.DefD} {ts : List He.Tab} {tf : List He.Defn} {ex : PySem.W.Frag → Bool} {w : World} {h : PySem.Heap} (e : obsZ n fa fn ts tf ex h.get? = He.valX fn ts w) : He.SaysX fa fn ts tf ex w h (He.frT h.get? (He5.asA h.get? n)) := by
  have e1 : He.obsT fa fn ts (He.frT h.get? (He5.asA h.get? n)) = He.valT fn ts w := congrArg (fun z : He.AlX => z.1) e
  have e2 : (ex (He.frT h.get? (He5.asA h.get? n)) && He.tabsB h.get? tf (He.frT h.get? (He5.asA h.get? n))) = true := congrArg (fun z : He.AlX => z.2) e
  obtain ⟨h1, h2⟩ := He.ba e2
  have key : ∀ p ∈ tf, PySem.W.codeHdIn (He.frT h.get? (He5.asA h.get? n)) (He.cT (He.frT h.get? (He5.asA h.get? n)) p).1 (He.cT (He.frT h.get? (He5.asA h.get? n)) p).2 = true ∧ ∃ o, h.get? (He.cT (He.frT h.get? (He5.asA h.get? n)) p).2 = some o ∧ He.emptyTab o = true := fun p hp => by
    obtain ⟨h3, h4⟩ := He.ba (List.all_eq_true.mp h2 p hp)
    refine ⟨h3, ?_⟩
    cases q : h.get? (He.cT (He.frT h.get? (He5.asA h.get? n)) p).2 with
    | none =>
      rw [q] at h4
      cases h4
    | some o =>
      rw [q] at h4
      exact ⟨o, rfl, h4⟩
  exact ⟨e1, h1, fun p hp => (key p hp).1, fun p hp => by
    obtain ⟨_, o, q, z⟩ := key p hp
    exact He.frT_none q z, fun p hp => by
    obtain ⟨_, o, q, z⟩ := key p hp
    rw [q, He.emptyTab_eq z]⟩
def hookZ (n : Nat) (fa : List He.Fa) (fn : List He.DefD) (ts : List He.Tab) (tf : List He.Defn) (ex : PySem.W.Frag → Bool) : PySem.W.Hook where
  α := He.AlX
  obs := fun s => obsZ n fa fn ts tf ex s.heap.get?
  val := fun w => He.valX fn ts w
  says := fun w h => ∃ K : PySem.W.Frag, K.In h ∧ He.SaysX fa fn ts tf ex w h K
  of := fun _ _ e => ⟨_, He.frT_in, saysZ_of e⟩
  keeps := fun _ _ _ ⟨K, hK, c⟩ k => ⟨K, PySem.W.Frag.In.keeps hK k, ⟨c.t, c.more, c.hd, c.out, fun p hp => k _ _ (c.empty p hp)⟩⟩
theorem obsZ_eq {n : Nat} {fa : List He.Fa} {fn : List He.DefD} {ts : List He.Tab} {tf : List He.Defn} {ex : PySem.W.Frag → Bool} {g : Addr → Option Obj} {s : Shared} (h : ∀ a, g a = s.heap.get? a) : obsZ n fa fn ts tf ex g = (hookZ n fa fn ts tf ex).obs s := by
  have e : g = s.heap.get? := funext h
  rw [e] <;> rfl
end Y
set_option Elab.async false
set_option linter.all false
set_option maxRecDepth 100000
set_option maxHeartbeats 0
namespace K25
open Y PySem PyProof.Rows
/-- 0: demand; slots 0:flags 1:at 2:flag -/
def b0 : List S := [.for_ (.tp [.nm 1, .nm 2]) (.enm (.var 0)) [.ite (.notv (.var 2)) [.raise 0 (.var 1)] []]]
/-- 1: demand_at; slots 0:flag 1:at -/
def b1 : List S := [.ite (.notv (.var 0)) [.raise 0 (.var 1)] []]
/-- 2: is_text; slots 0:x 1:fewest 2:most -/
def b2 : List S := [.ret (.andv (.isi (.var 0) [.str]) (.chain .LtE .LtE (.var 1) (.bi .len [.var 0]) (.var 2)))]
/-- 3: is_digit; slots 0:sign -/
def b3 : List S := [.ret (.chain .LtE .LtE (.cstr [48]) (.var 0) (.cstr [57]))]
/-- 4: digits; slots 0:x 1:fewest 2:most 3:sign -/
def b4 : List S := [.ret (.andv (.call 2 [.var 0, .var 1, .var 2]) (.bi .all [.lc [3] (.nm 3) (.var 0) [] (.call 3 [.var 3])]))]
/-- 5: value_of; slots 0:sign -/
def b5 : List S := [.ite (.cmp .Eq (.var 0) (.glb 1)) [.ret (.bi .len [.glb 0])] [], .ret (.bi .int [.var 0])]
/-- 6: Scheme.__init__; slots 0:self -/
def b6 : List S := [.seta (.var 0) 0 (.glb 3), .seta (.var 0) 1 (.glb 0)]
/-- 7: Scheme.factor; slots 0:self 1:at -/
def b7 : List S := [.ret (.cint 1)]
/-- 8: Scheme.worth; slots 0:self 1:at 2:sign -/
def b8 : List S := [.ret (.bin .Mult (.mth 0 (.var 0) [.var 1]) (.call 5 [.var 2]))]
/-- 9: Scheme.signs_at; slots 0:self 1:at -/
def b9 : List S := [.ite (.cmp .Eq (.var 1) (.cint 0)) [.ret (.attr (.var 0) 1)] [], .ret (.glb 0)]
/-- 10: Scheme.rest_of; slots 0:self 1:number 2:total 3:at 4:sign -/
def b10 : List S := [.set 2 (.cint 0), .for_ (.tp [.nm 3, .nm 4]) (.enmr (.var 1)) [.aug 2 .Add (.mth 1 (.var 0) [.var 3, .var 4])], .ret (.bin .Mod (.var 2) (.attr (.var 0) 0))]
/-- 11: Scheme.is_right; slots 0:self 1:number -/
def b11 : List S := [.ret (.cmp .Eq (.mth 2 (.var 0) [.var 1]) (.cint 0))]
/-- 12: Scheme.check_sign; slots 0:self 1:text 2:shifted 3:sign -/
def b12 : List S := [.set 2 (.mth 2 (.var 0) [.bin .Add (.var 1) (.idx (.glb 0) (.cint 0))]), .for_ (.nm 3) (.attr (.var 0) 1) [.ite (.cmp .Eq (.bin .Mod (.bin .Add (.var 2) (.mth 1 (.var 0) [.cint 0, .var 3])) (.attr (.var 0) 0)) (.cint 0)) [.ret (.var 3)] []], .ret .cnon]
/-- 13: ThreeScheme.factor; slots 0:self 1:at -/
def b13 : List S := [.ite (.cmp .Eq (.bin .Mod (.var 1) (.cint 2)) (.cint 1)) [.ret (.cint 3)] [], .ret (.cint 1)]
/-- 14: LuhnScheme.factor; slots 0:self 1:at -/
def b14 : List S := [.ite (.cmp .Eq (.bin .Mod (.var 1) (.cint 2)) (.cint 1)) [.ret (.cint 2)] [], .ret (.cint 1)]
/-- 15: LuhnScheme.worth; slots 0:self 1:at 2:sign 3:product -/
def b15 : List S := [.set 3 (.bin .Mult (.mth 0 (.var 0) [.var 1]) (.call 5 [.var 2])), .ite (.cmp .Gt (.var 3) (.glb 4)) [.ret (.bin .Sub (.var 3) (.glb 4))] [], .ret (.var 3)]
/-- 16: ElevenScheme.__init__; slots 0:self -/
def b16 : List S := [.expr (.call 6 [.var 0]), .seta (.var 0) 0 (.glb 2), .seta (.var 0) 1 (.bin .Add (.glb 0) (.glb 1))]
/-- 17: ElevenScheme.factor; slots 0:self 1:at -/
def b17 : List S := [.ret (.bin .Add (.var 1) (.cint 1))]
/-- 18: scheme_of; slots 0:name -/
def b18 : List S := [.ite (.cmp .Eq (.var 0) (.cstr [116, 104, 114, 101, 101])) [.ret (.new 10 [])] [], .ite (.cmp .Eq (.var 0) (.cstr [108, 117, 104, 110])) [.ret (.new 11 [])] [], .ite (.cmp .Eq (.var 0) (.cstr [101, 108, 101, 118, 101, 110])) [.ret (.new 12 [])] [], .ret (.new 9 [])]
/-- 19: is_scheme; slots 0:x -/
def b19 : List S := [.ret (.andv (.isi (.var 0) [.str]) (.cmp .In (.var 0) (.glb 5)))]
/-- 20: is_bare_number; slots 0:x -/
def b20 : List S := [.ret (.call 4 [.var 0, .bin .Sub (.glb 7) (.cint 1), .bin .Sub (.glb 8) (.cint 1)])]
/-- 21: is_number; slots 0:x 1:scheme -/
def b21 : List S := [.ite (.andv (.isi (.var 0) [.str]) (.andv (.cmp .Eq (.var 1) (.glb 6)) (.bm .endswith (.var 0) [.glb 1]))) [.ret (.call 20 [.slc (.var 0) .cnon (.neg (.cint 1))])] [], .ret (.call 4 [.var 0, .glb 7, .glb 8])]
/-- 22: sign_in; slots 0:number 1:at -/
def b22 : List S := [.ret (.idx (.var 0) (.bin .Sub (.bin .Sub (.bi .len [.var 0]) (.cint 1)) (.var 1)))]
/-- 23: with_sign; slots 0:number 1:at 2:sign 3:place -/
def b23 : List S := [.set 3 (.bin .Sub (.bin .Sub (.bi .len [.var 0]) (.cint 1)) (.var 1)), .ret (.bin .Add (.bin .Add (.slc (.var 0) .cnon (.var 3)) (.var 2)) (.slc (.var 0) (.bin .Add (.var 3) (.cint 1)) .cnon))]
/-- 24: change_unseen; slots 0:scheme 1:at 2:sign 3:other -/
def b24 : List S := [.ite (.cmp .Eq (.var 2) (.var 3)) [.ret (.cbl false)] [], .ret (.cmp .Eq (.bin .Mod (.bin .Sub (.mth 1 (.var 0) [.var 1, .var 2]) (.mth 1 (.var 0) [.var 1, .var 3])) (.attr (.var 0) 0)) (.cint 0))]
/-- 25: pair_worth; slots 0:scheme 1:at 2:sign 3:ahead -/
def b25 : List S := [.ret (.bin .Add (.mth 1 (.var 0) [.var 1, .var 2]) (.mth 1 (.var 0) [.bin .Add (.var 1) (.cint 1), .var 3]))]
/-- 26: may_exchange; slots 0:scheme 1:at 2:sign 3:ahead -/
def b26 : List S := [.ite (.cmp .Eq (.var 2) (.var 3)) [.ret (.cbl false)] [], .ret (.andv (.cmp .In (.var 2) (.mth 3 (.var 0) [.bin .Add (.var 1) (.cint 1)])) (.cmp .In (.var 3) (.mth 3 (.var 0) [.var 1])))]
/-- 27: exchange_unseen; slots 0:scheme 1:at 2:sign 3:ahead 4:left -/
def b27 : List S := [.ite (.notv (.call 26 [.var 0, .var 1, .var 2, .var 3])) [.ret (.cbl false)] [], .set 4 (.call 25 [.var 0, .var 1, .var 2, .var 3]), .ret (.cmp .Eq (.bin .Mod (.bin .Sub (.var 4) (.call 25 [.var 0, .var 1, .var 3, .var 2])) (.attr (.var 0) 0)) (.cint 0))]
/-- 28: changed_unseen; slots 0:scheme 1:number 2:found 3:at 4:sign 5:other -/
def b28 : List S := [.set 2 (.lst []), .for_ (.nm 3) (.rng1 (.bi .len [.var 1])) [.set 4 (.call 22 [.var 1, .var 3]), .for_ (.nm 5) (.mth 3 (.var 0) [.var 3]) [.ite (.call 24 [.var 0, .var 3, .var 4, .var 5]) [.expr (.bm .append (.var 2) [.call 23 [.var 1, .var 3, .var 5]])] []]], .ret (.var 2)]
/-- 29: exchanged_unseen; slots 0:scheme 1:number 2:found 3:at 4:sign 5:ahead -/
def b29 : List S := [.set 2 (.lst []), .for_ (.nm 3) (.rng1 (.bin .Sub (.bi .len [.var 1]) (.cint 1))) [.set 4 (.call 22 [.var 1, .var 3]), .set 5 (.call 22 [.var 1, .bin .Add (.var 3) (.cint 1)]), .ite (.call 27 [.var 0, .var 3, .var 4, .var 5]) [.expr (.bm .append (.var 2) [.call 23 [.call 23 [.var 1, .var 3, .var 5], .bin .Add (.var 3) (.cint 1), .var 4]])] []], .ret (.var 2)]
/-- 30: numbers_missed; slots 0:scheme 1:number -/
def b30 : List S := [.ret (.bi .tuple [.bi .sorted [.bin .Add (.call 28 [.var 0, .var 1]) (.call 29 [.var 0, .var 1])]])]
/-- 31: digit_ok; slots 0:scheme 1:number -/
def b31 : List S := [.expr (.call 0 [.lst [.call 19 [.var 0], .call 21 [.var 1, .var 0]]]), .ret (.mth 4 (.call 18 [.var 0]) [.var 1])]
/-- 32: with_digit; slots 0:scheme 1:text -/
def b32 : List S := [.expr (.call 0 [.lst [.call 19 [.var 0], .call 20 [.var 1]]]), .ret (.bin .Add (.var 1) (.mth 5 (.call 18 [.var 0]) [.var 1]))]
/-- 33: missed; slots 0:scheme 1:number 2:weighing -/
def b33 : List S := [.expr (.call 0 [.lst [.call 19 [.var 0], .call 21 [.var 1, .var 0]]]), .set 2 (.call 18 [.var 0]), .expr (.call 1 [.mth 4 (.var 2) [.var 1], .cint 1]), .ret (.call 30 [.var 2, .var 1])]
/-- 34: _law_so; slots 0:found 1:meant 2:k -/
def b34 : List S := [.ite (.cmp .Is (.var 1) .cnon) [.ret (.cmp .Is (.var 0) .cnon)] [], .ite (.isi (.var 1) [.tuple]) [.ite (.orv (.notv (.isi (.var 0) [.tuple])) (.cmp .NotEq (.bi .len [.var 0]) (.bi .len [.var 1]))) [.ret (.cbl false)] [], .for_ (.nm 2) (.rng1 (.bi .len [.var 1])) [.ite (.notv (.call 34 [.idx (.var 0) (.var 2), .idx (.var 1) (.var 2)])) [.ret (.cbl false)] []], .ret (.cbl true)] [], .ite (.orv (.isi (.var 1) [.bool]) (.isi (.var 0) [.bool])) [.ret (.andv (.isi (.var 1) [.bool]) (.andv (.isi (.var 0) [.bool]) (.cmp .Eq (.var 0) (.var 1))))] [], .ite (.isi (.var 1) [.int]) [.ret (.andv (.isi (.var 0) [.int]) (.cmp .Eq (.var 0) (.var 1)))] [], .ret (.andv (.isi (.var 1) [.str]) (.andv (.isi (.var 0) [.str]) (.cmp .Eq (.var 0) (.var 1))))]
/-- 35: _law_numbers; slots 0:script 1:row 2:single 3:left 4:k 5:mixed -/
def b35 : List S := [.set 1 (.lst []), .for_ (.nm 2) (.slc (.var 0) .cnon (.cint 63)) [.ite (.cmp .GtE (.var 2) (.bin .Pow (.cint 10) (.cint 18))) [.set 3 (.var 2), .for_ (.nm 4) (.rng1 (.cint 60)) [.ite (.cmp .Eq (.var 3) (.cint 0)) [.brk] [], .expr (.bm .append (.var 1) [.bin .Mod (.bi .int [.var 3]) (.cint 997)]), .set 3 (.bin .FloorDiv (.var 3) (.cint 997))]] [.for_ (.nm 4) (.rng1 (.cint 4)) [.set 5 (.bin .Mod (.bi .int [.bin .Add (.bin .Add (.bin .Mult (.var 2) (.cint 48271)) (.bin .Mult (.var 4) (.cint 69621))) (.cint 11)]) (.cint 2147483647)), .expr (.bm .append (.var 1) [.bin .Mod (.bi .int [.bin .Add (.bin .Mult (.var 5) (.cint 16807)) (.var 4)]) (.cint 2147483629)])]]], .ite (.cmp .Eq (.bi .len [.var 1]) (.cint 0)) [.expr (.bm .append (.var 1) [.cint 0])] [], .ret (.var 1)]
/-- 36: _law_draw; slots 0:row 1:at 2:limit 3:mixed -/
def b36 : List S := [.ite (.cmp .Lt (.var 1) (.bi .len [.var 0])) [.ret (.bin .Mod (.bi .int [.idx (.var 0) (.var 1)]) (.var 2))] [], .set 3 (.bin .Mod (.bi .int [.bin .Add (.bin .Add (.bin .Mult (.idx (.var 0) (.bin .Mod (.bi .int [.var 1]) (.bi .len [.var 0]))) (.cint 40692)) (.bin .Mult (.var 1) (.cint 7919))) (.cint 3)]) (.cint 2147483399)), .ret (.bin .Mod (.bi .int [.bin .Mod (.bi .int [.bin .Add (.bin .Mult (.var 3) (.cint 48271)) (.var 1)]) (.cint 2147483647)]) (.var 2))]
/-- 37: _law_take; slots 0:row 1:spot 2:limit -/
def b37 : List S := [.seti (.var 1) (.cint 0) (.bin .Add (.idx (.var 1) (.cint 0)) (.cint 1)), .ret (.call 36 [.var 0, .bin .Sub (.idx (.var 1) (.cint 0)) (.cint 1), .var 2])]
/-- 38: _law_pick; slots 0:row 1:spot 2:things -/
def b38 : List S := [.ret (.idx (.var 2) (.call 37 [.var 0, .var 1, .bi .len [.var 2]]))]
/-- 39: _law_told; slots 0:deed 1:why -/
def b39 : List S := [.brk]
/-- 40: _law_digits; slots 0:row 1:spot 2:many 3:made 4:k -/
def b40 : List S := [.set 3 (.cstr []), .for_ (.nm 4) (.rng1 (.var 2)) [.set 3 (.bin .Add (.var 3) (.idx (.cstr [48, 49, 50, 51, 52, 53, 54, 55, 56, 57]) (.call 37 [.var 0, .var 1, .cint 10])))], .ret (.var 3)]
/-- 41: _law_sign; slots 0:sign -/
def b41 : List S := [.ret (.ife (.cmp .Eq (.var 0) (.cstr [120])) (.cint 10) (.bi .int [.var 0]))]
/-- 42: _law_scheme_sum; slots 0:scheme 1:number 2:total 3:k 4:sign 5:part -/
def b42 : List S := [.set 2 (.cint 0), .for_ (.nm 3) (.rng1 (.bi .len [.var 1])) [.set 4 (.call 41 [.idx (.var 1) (.bin .Sub (.bin .Sub (.bi .len [.var 1]) (.cint 1)) (.var 3))]), .ite (.cmp .Eq (.var 0) (.cstr [115, 117, 109])) [.set 2 (.bin .Add (.var 2) (.var 4))] [.ite (.cmp .Eq (.var 0) (.cstr [116, 104, 114, 101, 101])) [.set 2 (.bin .Add (.var 2) (.bin .Mult (.var 4) (.idx (.lst [.cint 1, .cint 3]) (.bin .Mod (.bi .int [.var 3]) (.cint 2)))))] [.ite (.cmp .Eq (.var 0) (.cstr [108, 117, 104, 110])) [.set 5 (.bin .Mult (.var 4) (.idx (.lst [.cint 1, .cint 2]) (.bin .Mod (.bi .int [.var 3]) (.cint 2)))), .set 2 (.bin .Add (.var 2) (.ife (.cmp .Gt (.var 5) (.cint 9)) (.bin .Sub (.var 5) (.cint 9)) (.var 5)))] [.set 2 (.bin .Add (.var 2) (.bin .Mult (.var 4) (.bin .Add (.var 3) (.cint 1))))]]]], .ret (.var 2)]
/-- 43: _law_digit_ok; slots 0:scheme 1:number -/
def b43 : List S := [.ret (.cmp .Eq (.bin .Mod (.bi .int [.call 42 [.var 0, .var 1]]) (.ife (.cmp .Eq (.var 0) (.cstr [101, 108, 101, 118, 101, 110])) (.cint 11) (.cint 10))) (.cint 0))]
/-- 44: _law_slips; slots 0:scheme 1:number 2:made 3:last 4:k 5:sign -/
def b44 : List S := [.set 2 (.lst []), .set 3 (.bin .Sub (.bi .len [.var 1]) (.cint 1)), .for_ (.nm 4) (.rng1 (.bi .len [.var 1])) [.for_ (.nm 5) (.bin .Add (.cstr [48, 49, 50, 51, 52, 53, 54, 55, 56, 57]) (.ife (.andv (.cmp .Eq (.var 0) (.cstr [101, 108, 101, 118, 101, 110])) (.cmp .Eq (.var 4) (.var 3))) (.cstr [120]) (.cstr []))) [.expr (.bm .append (.var 2) [.bin .Add (.bin .Add (.slc (.var 1) .cnon (.var 4)) (.var 5)) (.slc (.var 1) (.bin .Add (.var 4) (.cint 1)) .cnon)])]], .for_ (.nm 4) (.rng1 (.var 3)) [.ite (.orv (.cmp .Lt (.bin .Add (.var 4) (.cint 1)) (.var 3)) (.cmp .NotEq (.idx (.var 1) (.var 3)) (.cstr [120]))) [.expr (.bm .append (.var 2) [.bin .Add (.bin .Add (.bin .Add (.slc (.var 1) .cnon (.var 4)) (.idx (.var 1) (.bin .Add (.var 4) (.cint 1)))) (.idx (.var 1) (.var 4))) (.slc (.var 1) (.bin .Add (.var 4) (.cint 2)) .cnon)])] []], .ret (.var 2)]
/-- 45: _law_missed; slots 0:scheme 1:number 2:made 3:one -/
def b45 : List S := [.set 2 (.lst []), .for_ (.nm 3) (.call 44 [.var 0, .var 1]) [.ite (.andv (.cmp .NotEq (.var 3) (.var 1)) (.andv (.call 43 [.var 0, .var 3]) (.cmp .NotIn (.var 3) (.var 2)))) [.expr (.bm .append (.var 2) [.var 3])] []], .ret (.bi .tuple [.bi .sorted [.var 2]])]
/-- 46: law; slots 0:script 1:row 2:spot 3:scheme 4:text 5:signs 6:good 7:found 8:number 9:sign -/
def b46 : List S := [.set 1 (.call 35 [.var 0]), .set 2 (.lst [.cint 0]), .for_ (.nm 3) (.lst [.cstr [115, 117, 109], .cstr [116, 104, 114, 101, 101], .cstr [108, 117, 104, 110], .cstr [101, 108, 101, 118, 101, 110]]) [.set 4 (.call 40 [.var 1, .var 2, .bin .Add (.cint 1) (.call 37 [.var 1, .var 2, .cint 11])]), .set 5 (.ife (.cmp .Eq (.var 3) (.cstr [101, 108, 101, 118, 101, 110])) (.cstr [48, 49, 50, 51, 52, 53, 54, 55, 56, 57, 120]) (.cstr [48, 49, 50, 51, 52, 53, 54, 55, 56, 57])), .set 6 (.lc [9] (.nm 9) (.var 5) [.call 43 [.var 3, .bin .Add (.var 4) (.var 9)]] (.var 9)), .set 7 (.call 32 [.var 3, .var 4]), .ite (.orv (.cmp .NotEq (.bi .len [.var 6]) (.cint 1)) (.orv (.notv (.call 34 [.var 7, .bin .Add (.var 4) (.idx (.var 6) (.cint 0))])) (.notv (.call 34 [.call 31 [.var 3, .var 7], .cbl true])))) [.ret (.cbl false)] [], .set 8 (.bin .Add (.var 4) (.call 38 [.var 1, .var 2, .lc [9] (.nm 9) (.var 5) [] (.var 9)])), .ite (.notv (.call 34 [.call 31 [.var 3, .var 8], .call 43 [.var 3, .var 8]])) [.ret (.cbl false)] [], .ite (.notv (.call 34 [.call 33 [.var 3, .var 7], .call 45 [.var 3, .var 7]])) [.ret (.cbl false)] [], .ite (.andv (.notv (.call 43 [.var 3, .var 8])) (.cmp .NotEq (.told (.call 33 [.var 3, .var 8])) (.tup [.cstr [66, 97, 100, 86, 97, 108, 117, 101], .cint 1]))) [.ret (.cbl false)] []], .ret (.cbl true)]
def fns : List Fn := [⟨1, 3, b0, true, false⟩, ⟨2, 2, b1, true, false⟩, ⟨3, 3, b2, true, false⟩, ⟨1, 1, b3, true, false⟩, ⟨3, 4, b4, true, false⟩, ⟨1, 1, b5, true, false⟩, ⟨1, 1, b6, false, false⟩, ⟨2, 2, b7, true, false⟩, ⟨3, 3, b8, true, false⟩, ⟨2, 2, b9, true, false⟩, ⟨2, 5, b10, true, false⟩, ⟨2, 2, b11, true, false⟩, ⟨2, 4, b12, true, false⟩, ⟨2, 2, b13, true, false⟩, ⟨2, 2, b14, true, false⟩, ⟨3, 4, b15, true, false⟩, ⟨1, 1, b16, false, false⟩, ⟨2, 2, b17, true, false⟩, ⟨1, 1, b18, true, false⟩, ⟨1, 1, b19, true, false⟩, ⟨1, 1, b20, true, false⟩, ⟨2, 2, b21, true, false⟩, ⟨2, 2, b22, true, false⟩, ⟨3, 4, b23, true, false⟩, ⟨4, 4, b24, true, false⟩, ⟨4, 4, b25, true, false⟩, ⟨4, 4, b26, true, false⟩, ⟨4, 5, b27, true, false⟩, ⟨2, 6, b28, true, false⟩, ⟨2, 6, b29, true, false⟩, ⟨2, 2, b30, true, false⟩, ⟨2, 2, b31, true, false⟩, ⟨2, 2, b32, true, false⟩, ⟨2, 3, b33, true, false⟩, ⟨2, 3, b34, true, false⟩, ⟨1, 6, b35, true, false⟩, ⟨3, 4, b36, true, false⟩, ⟨3, 3, b37, false, false⟩, ⟨3, 3, b38, false, false⟩, ⟨1, 1, b39, true, false⟩, ⟨3, 5, b40, false, false⟩, ⟨1, 1, b41, true, false⟩, ⟨2, 6, b42, true, false⟩, ⟨2, 2, b43, true, false⟩, ⟨2, 6, b44, true, false⟩, ⟨2, 4, b45, true, false⟩, ⟨1, 10, b46, true, true⟩]
def consts : List D := [.str [48, 49, 50, 51, 52, 53, 54, 55, 56, 57], .str [120], .int 11, .int 10, .int 9, .tup [.str [115, 117, 109], .str [116, 104, 114, 101, 101], .str [108, 117, 104, 110], .str [101, 108, 101, 118, 101, 110]], .str [101, 108, 101, 118, 101, 110], .int 2, .int 12]
def cis : List CI := [⟨"Scheme", 6, [(0, 7), (1, 8), (2, 10), (3, 9), (4, 11), (5, 12)]⟩, ⟨"ThreeScheme", 6, [(0, 13), (1, 8), (2, 10), (3, 9), (4, 11), (5, 12)]⟩, ⟨"LuhnScheme", 6, [(0, 14), (1, 15), (2, 10), (3, 9), (4, 11), (5, 12)]⟩, ⟨"ElevenScheme", 16, [(0, 17), (1, 8), (2, 10), (3, 9), (4, 11), (5, 12)]⟩]
def oc (c : Nat) : Option CI := if c < 9 then none else cis[c - 9]?
def nms : List (Option (List Nat)) := [some [66, 97, 100, 86, 97, 108, 117, 101], some [66, 97, 100, 84, 101, 120, 116], some [65, 112, 97, 114, 116], some [82, 105, 110, 103], some [78, 111, 87, 97, 121], some [85, 110, 107, 110, 111, 119, 110], some [78, 111, 80, 97, 114, 99, 101, 108], some [78, 111, 116, 84, 104, 101, 114, 101], some [78, 111, 82, 101, 118, 105, 115, 105, 111, 110]]
def xtup : Nat → Bool
  | 3 => true
  | _ => false
def prog : Prog := { fns := fns, consts := consts, meth := fun c m => (oc c).bind fun d => d.mts.lookup m, init := fun c => (oc c).map (·.ini), told := fun c => (nms[c]?).getD none, xtup := xtup, fuel := 1000000 }
def top (i : Nat) : Stmt := PySem.Challenge.pw_poststead_k25_whole_check_digits.main.body.getD i (.Pass ⟨0, 0, 0, 0⟩)
def ini (i : Nat) : Stmt := match top i with
  | .ClassDef (body := b) .. => (b.find? fun s => match s with | .FunctionDef .. => true | _ => false).getD (.Pass ⟨0, 0, 0, 0⟩)
  | _ => .Pass ⟨0, 0, 0, 0⟩
def mtd (i : Nat) (x : Str) : Stmt := match top i with
  | .ClassDef (body := b) .. => (b.find? fun s => match s with | .FunctionDef (name := y) .. => decide (y = x) | _ => false).getD (.Pass ⟨0, 0, 0, 0⟩)
  | _ => .Pass ⟨0, 0, 0, 0⟩
def dis0 : List DI := [⟨"demand", top 12, ["flags", "at", "flag"], ["flags"], false, none⟩, ⟨"demand_at", top 13, ["flag", "at"], ["flag", "at"], false, none⟩, ⟨"is_text", top 14, ["x", "fewest", "most"], ["x", "fewest", "most"], false, none⟩, ⟨"is_digit", top 15, ["sign"], ["sign"], false, none⟩, ⟨"digits", top 16, ["x", "fewest", "most", "sign"], ["x", "fewest", "most"], false, none⟩, ⟨"value_of", top 23, ["sign"], ["sign"], false, none⟩, ⟨"__init__", mtd 24 "__init__", ["self"], ["self"], false, some "Scheme"⟩, ⟨"factor", mtd 24 "factor", ["self", "at"], ["self", "at"], false, some "Scheme"⟩, ⟨"worth", mtd 24 "worth", ["self", "at", "sign"], ["self", "at", "sign"], false, some "Scheme"⟩, ⟨"signs_at", mtd 24 "signs_at", ["self", "at"], ["self", "at"], false, some "Scheme"⟩, ⟨"rest_of", mtd 24 "rest_of", ["self", "number", "total", "at", "sign"], ["self", "number"], false, some "Scheme"⟩, ⟨"is_right", mtd 24 "is_right", ["self", "number"], ["self", "number"], false, some "Scheme"⟩, ⟨"check_sign", mtd 24 "check_sign", ["self", "text", "shifted", "sign"], ["self", "text"], false, some "Scheme"⟩, ⟨"factor", mtd 25 "factor", ["self", "at"], ["self", "at"], false, some "ThreeScheme"⟩, ⟨"factor", mtd 26 "factor", ["self", "at"], ["self", "at"], false, some "LuhnScheme"⟩, ⟨"worth", mtd 26 "worth", ["self", "at", "sign", "product"], ["self", "at", "sign"], false, some "LuhnScheme"⟩, ⟨"__init__", mtd 27 "__init__", ["self"], ["self"], false, some "ElevenScheme"⟩, ⟨"factor", mtd 27 "factor", ["self", "at"], ["self", "at"], false, some "ElevenScheme"⟩, ⟨"scheme_of", top 28, ["name"], ["name"], false, none⟩, ⟨"is_scheme", top 34, ["x"], ["x"], false, none⟩, ⟨"is_bare_number", top 35, ["x"], ["x"], false, none⟩, ⟨"is_number", top 36, ["x", "scheme"], ["x", "scheme"], false, none⟩, ⟨"sign_in", top 38, ["number", "at"], ["number", "at"], false, none⟩, ⟨"with_sign", top 39, ["number", "at", "sign", "place"], ["number", "at", "sign"], false, none⟩, ⟨"change_unseen", top 40, ["scheme", "at", "sign", "other"], ["scheme", "at", "sign", "other"], false, none⟩]
def dis1 : List DI := [⟨"pair_worth", top 41, ["scheme", "at", "sign", "ahead"], ["scheme", "at", "sign", "ahead"], false, none⟩, ⟨"may_exchange", top 42, ["scheme", "at", "sign", "ahead"], ["scheme", "at", "sign", "ahead"], false, none⟩, ⟨"exchange_unseen", top 43, ["scheme", "at", "sign", "ahead", "left"], ["scheme", "at", "sign", "ahead"], false, none⟩, ⟨"changed_unseen", top 44, ["scheme", "number", "found", "at", "sign", "other"], ["scheme", "number"], false, none⟩, ⟨"exchanged_unseen", top 45, ["scheme", "number", "found", "at", "sign", "ahead"], ["scheme", "number"], false, none⟩, ⟨"numbers_missed", top 46, ["scheme", "number"], ["scheme", "number"], false, none⟩, ⟨"digit_ok", top 48, ["scheme", "number"], ["scheme", "number"], false, none⟩, ⟨"with_digit", top 49, ["scheme", "text"], ["scheme", "text"], false, none⟩, ⟨"missed", top 50, ["scheme", "number", "weighing"], ["scheme", "number"], false, none⟩, ⟨"_law_so", top 52, ["found", "meant", "k"], ["found", "meant"], false, none⟩, ⟨"_law_numbers", top 53, ["script", "row", "single", "left", "k", "mixed"], ["script"], false, none⟩, ⟨"_law_draw", top 54, ["row", "at", "limit", "mixed"], ["row", "at", "limit"], false, none⟩, ⟨"_law_take", top 55, ["row", "spot", "limit"], ["row", "spot", "limit"], false, none⟩, ⟨"_law_pick", top 56, ["row", "spot", "things"], ["row", "spot", "things"], false, none⟩, ⟨"_law_told", top 57, ["deed", "why"], ["deed"], false, none⟩, ⟨"_law_digits", top 58, ["row", "spot", "many", "made", "k"], ["row", "spot", "many"], false, none⟩, ⟨"_law_sign", top 59, ["sign"], ["sign"], false, none⟩, ⟨"_law_scheme_sum", top 60, ["scheme", "number", "total", "k", "sign", "part"], ["scheme", "number"], false, none⟩, ⟨"_law_digit_ok", top 61, ["scheme", "number"], ["scheme", "number"], false, none⟩, ⟨"_law_slips", top 62, ["scheme", "number", "made", "last", "k", "sign"], ["scheme", "number"], false, none⟩, ⟨"_law_missed", top 63, ["scheme", "number", "made", "one"], ["scheme", "number"], false, none⟩, ⟨"law", top 64, ["script", "row", "spot", "scheme", "text", "signs", "good", "found", "number", "sign"], ["script"], true, none⟩]
def dis : List DI := dis0 ++ dis1
def xis : List XI := [⟨"BadValue", "at", ini 2, "self", "at"⟩, ⟨"BadText", "at", ini 3, "self", "at"⟩, ⟨"Apart", "number", ini 4, "self", "number"⟩, ⟨"Ring", "names", ini 5, "self", "names"⟩, ⟨"NoWay", "number", ini 6, "self", "number"⟩, ⟨"Unknown", "name", ini 7, "self", "name"⟩, ⟨"NoParcel", "number", ini 8, "self", "number"⟩, ⟨"NotThere", "name", ini 9, "self", "name"⟩, ⟨"NoRevision", "number", ini 10, "self", "number"⟩]
def tcs : List Tcl := [⟨"BadValue", "BadValue", "at"⟩, ⟨"BadText", "BadText", "at"⟩, ⟨"Apart", "Apart", "number"⟩, ⟨"Ring", "Ring", "names"⟩, ⟨"NoWay", "NoWay", "number"⟩, ⟨"Unknown", "Unknown", "name"⟩, ⟨"NoParcel", "NoParcel", "number"⟩, ⟨"NotThere", "NotThere", "name"⟩, ⟨"NoRevision", "NoRevision", "number"⟩]
def tab : LawD := { P := prog, fns := dis, cns := ["NUMERALS", "TEN", "LONG_BASE", "SHORT_BASE", "LARGEST_DIGIT", "SCHEME_NAMES", "LONG_SCHEME", "SHORTEST_NUMBER", "LONGEST_NUMBER"], xls := xis, tcs := tcs, nms := nms, cls := cis, mns := ["factor", "worth", "rest_of", "signs_at", "is_right", "check_sign"], ans := ["base", "last_signs"], cks := [("Scheme", "__init__", 6)] }
/-- the other names of the top -/
def loose : List PySem.Str := (["PostError", "BadValue", "BadText", "Apart", "Ring", "NoWay", "Unknown", "NoParcel", "NotThere", "NoRevision", "demand", "demand_at", "is_text", "is_digit", "digits", "NUMERALS", "TEN", "LONG_BASE", "SHORT_BASE", "LARGEST_DIGIT", "value_of", "Scheme", "ThreeScheme", "LuhnScheme", "ElevenScheme", "scheme_of", "SCHEME_NAMES", "LONG_SCHEME", "SHORTEST_NUMBER", "LONGEST_NUMBER"] : List PySem.Str) ++ (["is_scheme", "is_bare_number", "is_number", "sign_in", "with_sign", "change_unseen", "pair_worth", "may_exchange", "exchange_unseen", "changed_unseen", "exchanged_unseen", "numbers_missed", "digit_ok", "with_digit", "missed", "_law_so", "_law_numbers", "_law_draw", "_law_take", "_law_pick", "_law_told", "_law_digits", "_law_sign", "_law_scheme_sum", "_law_digit_ok", "_law_slips", "_law_missed"] : List PySem.Str)
def lawAt : Nat := 64
def lawK : Nat := 46
def lawD : DI := (tab.fns[lawK]?).getD ⟨"", top 0, [], [], false, none⟩
end K25
namespace K25
open Y PySem PyProof.Rows
theorem txt : textB tab = true := by kernel_rfl
abbrev R : PySem.W.OpenRow := PySem.W.OpenLaw.row PySem.Challenge.rw_poststead_k25_whole_check_digits
abbrev hk : PySem.W.Hook := Y.hookZ 4 [] tab.defs [] tab.tf (heapB tab)
def ob (s : PySem.W.SharedT) : He.AlX := Y.obsZ 4 [] tab.defs [] tab.tf (heapB tab) (HandSHeadRun.getT s)
theorem ob_eq (s : PySem.W.SharedT) : ob s = hk.obs s.abs := Y.obsZ_eq (HandSHeadRun.getT_eq s)
open PySem.W PySem.Calls in
theorem q1 (w : World) (os : OsState) : (HandSHeadRun.endF (HandSHeadRun.stepQ (HandSHeadRun.denQ HandSHeadRun.tabQ) R.prog w) 20000 R.prog w os).map (fun s => (HandSHeadRun.looksF R.prog (boot_heap w.params) s.abs, HandSHeadRun.seenQ (view R.prog [lawAt]) loose (importedModules R.prog.main.body) (fun s => xlAt (view R.prog [lawAt]) [] s && recOk R.toRowW.records s) s.abs)) = some (true, openGood (view R.prog [lawAt]) loose) := by kernel_rfl
theorem q2 (w : World) (os : OsState) : (HandSHeadRun.endF (HandSHeadRun.stepQ (HandSHeadRun.denQ HandSHeadRun.tabQ) R.prog w) 20000 R.prog w os).map (fun s => (ob s).1) = some (He.valX tab.defs [] w).1 := by kernel_rfl
theorem q3 (w : World) (os : OsState) : (HandSHeadRun.endF (HandSHeadRun.stepQ (HandSHeadRun.denQ HandSHeadRun.tabQ) R.prog w) 20000 R.prog w os).map (fun s => (ob s).2) = some (He.valX tab.defs [] w).2 := by kernel_rfl
theorem run (w : World) : HandSHeadRun.RunEq R (PySem.W.view R.prog [lawAt]) hk ob 20000 loose w := fun os => comb (q1 w os) (q2 w os) (q3 w os)
end K25
namespace K25
open Y
set_option maxHeartbeats 1000000
abbrev P := prog
theorem hf : 4000 ≤ prog.fuel := by decide
def iv (n : Nat) : Option D := some (.int (n : Int))
theorem addN_ev {C : Ctx} {k c : Nat} {e1 e : E} {env : Env} {h h1 h2 : Heap} (he1 : (ev C e1).v env h = .ok (.int (k : Int)) h1) (he : (ev C e).v env h1 = .ok (.int (c : Int)) h2) : (ev C (.bin .Add e1 e)).v env h = .ok (.int ((k + c : Nat) : Int)) h2 := by
  rw [bin_ev he1 he, show ((k + c : Nat) : Int) = (k : Int) + (c : Int) by omega]
  rfl
theorem subN_ev {C : Ctx} {k c : Nat} {e1 e : E} {env : Env} {h h1 h2 : Heap} (hc : c ≤ k) (he1 : (ev C e1).v env h = .ok (.int (k : Int)) h1) (he : (ev C e).v env h1 = .ok (.int (c : Int)) h2) : (ev C (.bin .Sub e1 e)).v env h = .ok (.int ((k - c : Nat) : Int)) h2 := by
  rw [bin_ev he1 he, show ((k - c : Nat) : Int) = (k : Int) - (c : Int) by omega]
  rfl
theorem one_ev {C : Ctx} {env : Env} {h : Heap} : (ev C (.cint 1)).v env h = .ok (.int ((1 : Nat) : Int)) h := rfl
theorem eqS_f {a b : List Nat} {h : Heap} : cmpF .Eq (.str a) (.str b) h = .ok (.bl (eqL a b)) h := by
  show optR ((cmpop .Eq (.str a) (.str b) h).map D.bl) h = _
  rw [eq_str]
  rfl
theorem neS_f {a b : List Nat} {h : Heap} : cmpF .NotEq (.str a) (.str b) h = .ok (.bl (!eqL a b)) h := by
  show optR (((cmpop .Eq (.str a) (.str b) h).map not).map D.bl) h = _
  rw [eq_str]
  rfl
theorem eqL_one (a b : Nat) : eqL [a] [b] = decide (a = b) := by
  show (if a = b then true else false) = _
  by_cases h : a = b
  · rw [if_pos h, decide_eq_true h]
  · rw [if_neg h, decide_eq_false h]
theorem lenS_ev {C : Ctx} {e : E} {env : Env} {h h1 : Heap} {s : List Nat} (he : (ev C e).v env h = .ok (.str s) h1) : (ev C (.bi .len [e])).v env h = .ok (.int (s.length : Int)) h1 := (bi_ev he).trans rfl
/-- a place and a sign -/
theorem slcS_to {C : Ctx} {a hi : E} {env : Env} {h h1 h2 : Heap} {s : List Nat} {j : Nat} (ha : (ev C a).v env h = .ok (.str s) h1) (hh : (ev C hi).v env h1 = .ok (.int (j : Int)) h2) (hw : hi.wr = true) (hj : j ≤ s.length) : (ev C (.slc a .cnon hi)).v env h = .ok (.str (s.take j)) h2 := by
  show (Res.bind ((ev C a).v env h) fun x h => (partF false (ev C .cnon).v env h).bind fun l h => (partF hi.wr (ev C hi).v env h).bind fun u h => slcV x l u h) = _
  rw [ha, hw]
  show ((Res.bind ((ev C hi).v env h1) fun d h => match bndF true d with | some o => Res.ok o h | none => .err).bind fun u h => slcV (.str s) none u h) = _
  rw [hh]
  show Res.ok (D.str ((s.take (clip s.length (j : Int))).drop 0)) h2 = _
  rw [List.drop_zero, clip_nat, Nat.min_eq_left hj]
theorem slcS_from {C : Ctx} {a lo : E} {env : Env} {h h1 h2 : Heap} {s : List Nat} {j : Nat} (ha : (ev C a).v env h = .ok (.str s) h1) (hh : (ev C lo).v env h1 = .ok (.int (j : Int)) h2) (hw : lo.wr = true) (hj : j ≤ s.length) : (ev C (.slc a lo .cnon)).v env h = .ok (.str (s.drop j)) h2 := by
  show (Res.bind ((ev C a).v env h) fun x h => (partF lo.wr (ev C lo).v env h).bind fun l h => (partF false (ev C .cnon).v env h).bind fun u h => slcV x l u h) = _
  rw [ha, hw]
  show ((Res.bind ((ev C lo).v env h1) fun d h => match bndF true d with | some o => Res.ok o h | none => .err).bind fun l h => slcV (.str s) l none h) = _
  rw [hh]
  show Res.ok (D.str ((s.take s.length).drop (clip s.length (j : Int)))) h2 = _
  rw [List.take_length, clip_nat, Nat.min_eq_left hj]
theorem idxS_f {s : List Nat} {i : Nat} {h : Heap} (hi : i < s.length) : idxF (.str s) (.int (i : Int)) h = .ok (.str [s[i]]) h := by
  show (match idxN s.length (i : Int) with | some k => (match s[k]? with | some c => Res.ok (Y.D.str [c]) h | none => .err) | none => .err) = _
  have : idxN s.length (i : Int) = some i := by unfold idxN; rw [if_pos (by omega), if_pos (by omega), Int.toNat_natCast]
  rw [this]
  dsimp only
  rw [List.getElem?_eq_getElem hi]
def sD (ws : List (List Nat)) : List D := ws.map D.str
theorem sD_len {ws : List (List Nat)} : (sD ws).length = ws.length := List.length_map _
theorem sD_under (m : Nat) : ∀ ws, D.unders m (sD ws) = true
  | [] => rfl
  | w :: ws => by
    show (true && D.unders m (sD ws)) = true
    rw [sD_under m ws]
    rfl
theorem readD {d : Nat} (hd : d < 10) : readInt [48 + d] = some (d : Int) := by
  have : ∀ d, d < 10 → readInt [48 + d] = some (d : Int) := by decide
  exact this d hd
theorem int_f {d : Nat} {h : Heap} (hd : d < 10) : biF .int [.str [48 + d]] h = .ok (.int (d : Int)) h := by
  show (if [48 + d].length ≤ 640 then optR ((readInt [48 + d]).map .int) h else .err) = _
  rw [if_pos (by show 1 ≤ 640; omega), readD hd]
  rfl
theorem small_n {n : Nat} (h : n < 1000) : small64 (n : Int) = true := by
  have : ∀ n : Nat, n < 1000 → small64 (n : Int) = true := by
    intro n h
    unfold small64
    simp only [Bool.and_eq_true, decide_eq_true_eq]
    omega
  exact this n h
theorem pure_obj {P : Prog} {n b k a c : Nat} {f : Fn} {ds : List D} {h h' : Heap} {fs : List (Nat × D)} (hk : P.fns[k]? = some f) (hp : f.pure = true) (hl : ds.length = f.np)
    (hx : execSs (pC P n h f.lam) f.body (ds.map some ++ List.replicate (f.ns - f.np) none) h = .ret (.ref a) h') (ha : h'.at a = some (.ins c fs)) (hle : h.length ≤ a) :
    callF P (n + 2) b k ds h = .ok (.ref a) h' := by
  show bodyF P (callF P (n + 1)) (callF P n) true b k ds h = _
  unfold bodyF
  rw [hk]
  dsimp only
  rw [if_pos hl, hp, if_pos rfl]
  have := hx
  unfold pC at this
  rw [Bool.true_and, this]
  dsimp only
  unfold fin compact
  rw [if_pos rfl, if_neg (by unfold D.under; simpa using hle)]
  dsimp only
  rw [ha]
def insT (x : List Nat) : List (List Nat) → List (List Nat)
  | [] => [x]
  | y :: ys => if ltL x y then x :: y :: ys else y :: insT x ys
def srt (ws : List (List Nat)) : List (List Nat) := ws.foldl (fun acc x => insT x acc) []
theorem insD_sD (x : List Nat) : ∀ ws, insD (.str x) (sD ws) = sD (insT x ws)
  | [] => rfl
  | y :: ws => by
    show (if ltL x y = true then D.str x :: D.str y :: sD ws else D.str y :: insD (.str x) (sD ws)) = sD (if ltL x y = true then x :: y :: ws else y :: insT x ws)
    rw [insD_sD x ws]
    split <;> rfl
theorem sortD_sD (ws : List (List Nat)) : sortD (sD ws) = sD (srt ws) := by
  have : ∀ (ws acc : List (List Nat)), (sD ws).foldl (fun acc x => insD x acc) (sD acc) = sD (ws.foldl (fun acc x => insT x acc) acc) := by
    intro ws
    induction ws with
    | nil => intro acc; rfl
    | cons w ws ih =>
      intro acc
      show (sD ws).foldl (fun acc x => insD x acc) (insD (.str w) (sD acc)) = sD (ws.foldl (fun acc x => insT x acc) (insT w acc))
      rw [insD_sD, ih]
  exact this ws []
theorem sD_all {p : D → Bool} (h : ∀ s, p (.str s) = true) : ∀ ws, (sD ws).all p = true
  | [] => rfl
  | w :: ws => by
    show (p (.str w) && (sD ws).all p) = true
    rw [h, sD_all h ws]
    rfl
theorem sD_any {p : D → Bool} (h : ∀ s, p (.str s) = false) : ∀ ws, (sD ws).any p = false
  | [] => rfl
  | w :: ws => by
    show (p (.str w) || (sD ws).any p) = false
    rw [h, sD_any h ws]
    rfl
theorem sD_dats (n : Nat) : ∀ ws, dats n (sD ws) = true
  | [] => by cases n <;> rfl
  | w :: ws => by
    have ih := sD_dats n ws
    cases n <;> exact ih
theorem sD_srt (ws : List (List Nat)) : srtOk (sD ws) = true := by
  unfold srtOk cmpOk
  rw [sD_dats, sD_all (p := D.isS) fun s => rfl, sD_any (p := D.isTt) fun s => rfl]
  simp
theorem sorted_sD {h : Heap} {x : D} {ws : List (List Nat)} (hx : items? h x = some (sD ws)) (hl : ws.length ≤ 1000) : biF .sorted [x] h = .ok (.ref h.length) (h ++ [.lst (sD (srt ws))]) := by
  show (match items? h x with | some xs => (if srtOk xs then mkLst (sortD xs) h else .err) | none => (match keysS? h x with | some ss => mkLst ((sortS ss).map .str) h | none => .err)) = _
  rw [hx]
  show (if srtOk (sD ws) = true then mkLst (sortD (sD ws)) h else .err) = _
  rw [sD_srt, if_pos rfl, sortD_sD]
  have hil : ∀ (x : List Nat) (ws : List (List Nat)), (insT x ws).length = ws.length + 1 := by
    intro x ws
    induction ws with
    | nil => rfl
    | cons y ws ih =>
      unfold insT
      split
      · rfl
      · rw [List.length_cons, ih, List.length_cons]
  have hsl : ∀ (ws acc : List (List Nat)), (ws.foldl (fun acc x => insT x acc) acc).length = acc.length + ws.length := by
    intro ws
    induction ws with
    | nil => intro acc; rfl
    | cons w ws ih =>
      intro acc
      rw [List.foldl_cons, ih, hil, List.length_cons]
      omega
  unfold mkLst
  rw [if_pos (by
    rw [sD_len]
    unfold srt
    rw [hsl]
    unfold sizeLine
    have : ([] : List (List Nat)).length = 0 := rfl
    omega)]
theorem ltL_irrefl : ∀ a : List Nat, ltL a a = false
  | [] => rfl
  | x :: a => by
    show (if x < x then true else if x < x then false else ltL a a) = false
    rw [if_neg (Nat.lt_irrefl _), if_neg (Nat.lt_irrefl _), ltL_irrefl a]
theorem ltL_trans : ∀ {a b c : List Nat}, ltL a b = true → ltL b c = true → ltL a c = true
  | [], [], c, h, _ => by cases h
  | [], _ :: _, [], _, h => by cases h
  | [], _ :: _, _ :: _, _, _ => rfl
  | _ :: _, [], _, h, _ => by cases h
  | _ :: _, _ :: _, [], _, h => by cases h
  | x :: a, y :: b, z :: c, h1, h2 => by
    have h1' : (if x < y then true else if y < x then false else ltL a b) = true := h1
    have h2' : (if y < z then true else if z < y then false else ltL b c) = true := h2
    show (if x < z then true else if z < x then false else ltL a c) = true
    by_cases hxy : x < y
    · by_cases hyz : y < z
      · rw [if_pos (by omega)]
      · rw [if_neg hyz] at h2'
        by_cases hzy : z < y
        · rw [if_pos hzy] at h2'; cases h2'
        · rw [if_pos (by omega)]
    · rw [if_neg hxy] at h1'
      by_cases hyx : y < x
      · rw [if_pos hyx] at h1'; cases h1'
      · rw [if_neg hyx] at h1'
        by_cases hyz : y < z
        · rw [if_pos (by omega)]
        · rw [if_neg hyz] at h2'
          by_cases hzy : z < y
          · rw [if_pos hzy] at h2'; cases h2'
          · rw [if_neg hzy] at h2'
            rw [if_neg (by omega), if_neg (by omega), ltL_trans h1' h2']
theorem ltL_tri : ∀ (a b : List Nat), ltL a b = true ∨ a = b ∨ ltL b a = true
  | [], [] => .inr (.inl rfl)
  | [], _ :: _ => .inl rfl
  | _ :: _, [] => .inr (.inr rfl)
  | x :: a, y :: b => by
    have e1 : ltL (x :: a) (y :: b) = if x < y then true else if y < x then false else ltL a b := rfl
    have e2 : ltL (y :: b) (x :: a) = if y < x then true else if x < y then false else ltL b a := rfl
    rw [e1, e2]
    by_cases hxy : x < y
    · left; rw [if_pos hxy]
    · by_cases hyx : y < x
      · right; right; rw [if_pos hyx]
      · have : x = y := by omega
        subst this
        rw [if_neg hxy, if_neg hxy]
        rcases ltL_tri a b with h | h | h
        · exact .inl h
        · exact .inr (.inl (by rw [h]))
        · right; right; rw [if_neg hxy, if_neg hxy, h]
def Srt (l : List (List Nat)) : Prop := l.Pairwise fun a b => ltL a b = true
theorem insT_mem {x y : List Nat} : ∀ {l : List (List Nat)}, y ∈ insT x l ↔ y = x ∨ y ∈ l
  | [] => by
    show y ∈ [x] ↔ _
    simp
  | z :: l => by
    unfold insT
    split
    · simp
    · rw [List.mem_cons, insT_mem, List.mem_cons]
      constructor
      · rintro (h | h | h)
        · exact .inr (.inl h)
        · exact .inl h
        · exact .inr (.inr h)
      · rintro (h | h | h)
        · exact .inr (.inl h)
        · exact .inl h
        · exact .inr (.inr h)
theorem insT_srt {x : List Nat} : ∀ {l : List (List Nat)}, Srt l → x ∉ l → Srt (insT x l)
  | [], _, _ => List.pairwise_singleton _ _
  | z :: l, s, hx => by
    have s' := List.pairwise_cons.mp s
    unfold insT
    split
    · rename_i hlt
      refine List.pairwise_cons.mpr ⟨fun y hy => ?_, s⟩
      rcases List.mem_cons.mp hy with rfl | hy
      · exact hlt
      · exact ltL_trans hlt (s'.1 y hy)
    · rename_i hlt
      refine List.pairwise_cons.mpr ⟨fun y hy => ?_, insT_srt s'.2 fun h => hx (List.mem_cons_of_mem _ h)⟩
      rcases insT_mem.mp hy with rfl | hy
      · rcases ltL_tri y z with h | h | h
        · exact absurd h hlt
        · exact absurd (h ▸ List.mem_cons_self) hx
        · exact h
      · exact s'.1 y hy
theorem srt_go : ∀ (ws acc : List (List Nat)), Srt acc → ws.Nodup → (∀ w ∈ ws, w ∉ acc) → Srt (ws.foldl (fun acc x => insT x acc) acc) ∧ ∀ y, y ∈ ws.foldl (fun acc x => insT x acc) acc ↔ y ∈ acc ∨ y ∈ ws
  | [], acc, s, _, _ => ⟨s, fun y => by simp⟩
  | w :: ws, acc, s, hn, hd => by
    have hn' := List.nodup_cons.mp hn
    obtain ⟨g1, g2⟩ := srt_go ws (insT w acc) (insT_srt s (hd w List.mem_cons_self)) hn'.2 (fun x hx hm => by
      rcases insT_mem.mp hm with rfl | hm
      · exact hn'.1 hx
      · exact hd x (List.mem_cons_of_mem _ hx) hm)
    refine ⟨g1, fun y => ?_⟩
    rw [List.foldl_cons, g2, insT_mem, List.mem_cons]
    constructor
    · rintro ((h | h) | h)
      · exact .inr (.inl h)
      · exact .inl h
      · exact .inr (.inr h)
    · rintro (h | h | h)
      · exact .inl (.inr h)
      · exact .inl (.inl h)
      · exact .inr h
theorem srt_srt {ws : List (List Nat)} (hn : ws.Nodup) : Srt (srt ws) := (srt_go ws [] List.Pairwise.nil hn fun _ _ h => by cases h).1
theorem srt_mem {ws : List (List Nat)} (hn : ws.Nodup) {y : List Nat} : y ∈ srt ws ↔ y ∈ ws := by
  have := (srt_go ws [] List.Pairwise.nil hn fun _ _ h => by cases h).2 y
  unfold srt
  rw [this]
  simp
theorem Srt.nodup {l : List (List Nat)} (s : Srt l) : l.Nodup := List.Pairwise.imp (fun {a b} h e => by rw [e, ltL_irrefl] at h; cases h) s
theorem srt_uniq : ∀ {a b : List (List Nat)}, Srt a → Srt b → (∀ x, x ∈ a ↔ x ∈ b) → a = b
  | [], [], _, _, _ => rfl
  | [], y :: b, _, _, h => absurd ((h y).mpr List.mem_cons_self) (by simp)
  | x :: a, [], _, _, h => absurd ((h x).mp List.mem_cons_self) (by simp)
  | x :: a, y :: b, sa, sb, h => by
    have sa' := List.pairwise_cons.mp sa
    have sb' := List.pairwise_cons.mp sb
    have hxy : x = y := by
      rcases List.mem_cons.mp ((h x).mp List.mem_cons_self) with e | hx
      · exact e
      · rcases List.mem_cons.mp ((h y).mpr List.mem_cons_self) with e | hy
        · exact e.symm
        · have := ltL_trans (sa'.1 y hy) (sb'.1 x hx)
          rw [ltL_irrefl] at this
          cases this
    subst hxy
    have : a = b := srt_uniq sa'.2 sb'.2 fun z => by
      constructor
      · intro hz
        rcases List.mem_cons.mp ((h z).mp (List.mem_cons_of_mem _ hz)) with e | hz'
        · have := sa'.1 z hz
          rw [e, ltL_irrefl] at this
          cases this
        · exact hz'
      · intro hz
        rcases List.mem_cons.mp ((h z).mpr (List.mem_cons_of_mem _ hz)) with e | hz'
        · have := sb'.1 z hz
          rw [e, ltL_irrefl] at this
          cases this
        · exact hz'
    rw [this]
theorem srt_idem {l : List (List Nat)} (s : Srt l) : srt l = l := srt_uniq (srt_srt s.nodup) s fun x => srt_mem s.nodup
def fct (s k : Nat) : Nat := if s = 1 then (if k % 2 = 1 then 3 else 1) else if s = 2 then (if k % 2 = 1 then 2 else 1) else if s = 3 then k + 1 else 1
def wor (s k d : Nat) : Nat := if s = 2 ∧ 9 < fct s k * d then fct s k * d - 9 else fct s k * d
def bs (s : Nat) : Nat := if s = 3 then 11 else 10
def sg (s k : Nat) : Nat := if k = 0 then bs s else 10
def wsum (s : Nat) : Nat → List Nat → Nat
  | _, [] => 0
  | k, d :: l => wor s k d + wsum s (k + 1) l
def Rt (s : Nat) (r : List Nat) : Prop := wsum s 0 r % bs s = 0
instance {s : Nat} {r : List Nat} : Decidable (Rt s r) := inferInstanceAs (Decidable (_ = _))
def gd (r : List Nat) (i : Nat) : Nat := r.getD i 0
def Ok (s : Nat) (r : List Nat) : Prop := ∀ i, i < r.length → gd r i < sg s i
theorem bs_or (s : Nat) : bs s = 10 ∨ bs s = 11 := by unfold bs; split <;> omega
theorem sg_le (s k : Nat) : 10 ≤ sg s k ∧ sg s k ≤ 11 := by
  unfold sg
  rcases bs_or s with h | h <;> rw [h] <;> split <;> omega
theorem g_get {r : List Nat} {i : Nat} (hi : i < r.length) : gd r i = r[i] := by
  unfold gd
  rw [List.getD_eq_getElem?_getD, List.getElem?_eq_getElem hi]
  rfl
theorem g_set {r : List Nat} {i j o : Nat} (hi : i < r.length) : gd (r.set i o) j = if j = i then o else gd r j := by
  unfold gd
  rw [List.getD_eq_getElem?_getD, List.getD_eq_getElem?_getD, List.getElem?_set]
  by_cases h : j = i
  · subst h
    rw [if_pos rfl, if_pos rfl, if_pos hi]
    rfl
  · rw [if_neg (fun e => h e.symm), if_neg h]
theorem ext_g {r y : List Nat} (hl : r.length = y.length) (h : ∀ i, i < r.length → gd r i = gd y i) : r = y := by
  refine List.ext_getElem hl fun i h1 h2 => ?_
  have := h i h1
  rw [g_get h1, g_get h2] at this
  exact this
theorem wsum_set {s o : Nat} : ∀ (r : List Nat) (k i : Nat), i < r.length → wsum s k (r.set i o) + wor s (k + i) (gd r i) = wsum s k r + wor s (k + i) o
  | [], _, _, h => absurd h (Nat.not_lt_zero _)
  | d :: r, k, 0, _ => by
    show wor s k o + wsum s (k + 1) r + wor s k d = wor s k d + wsum s (k + 1) r + wor s k o
    omega
  | d :: r, k, i + 1, h => by
    have := wsum_set (s := s) (o := o) r (k + 1) i (Nat.lt_of_succ_lt_succ h)
    rw [show k + 1 + i = k + (i + 1) by omega] at this
    show wor s k d + wsum s (k + 1) (r.set i o) + wor s (k + (i + 1)) (gd r i) = wor s k d + wsum s (k + 1) r + wor s (k + (i + 1)) o
    omega
theorem wsum_app {s : Nat} : ∀ (l : List Nat) (k d : Nat), wsum s k (l ++ [d]) = wsum s k l + wor s (k + l.length) d
  | [], k, d => by
    show wor s k d + 0 = 0 + wor s k d
    omega
  | x :: l, k, d => by
    have := wsum_app (s := s) l (k + 1) d
    show wor s k x + wsum s (k + 1) (l ++ [d]) = wor s k x + wsum s (k + 1) l + wor s (k + (l.length + 1)) d
    rw [this, show k + 1 + l.length = k + (l.length + 1) by omega, Nat.add_assoc]
def cun (s i d o : Nat) : Bool := decide (d ≠ o) && decide (((wor s i d : Int) - (wor s i o : Int)) % (bs s : Int) = 0)
def mayx (s i d a : Nat) : Bool := decide (d ≠ a) && (decide (d < sg s (i + 1)) && decide (a < sg s i))
def pw (s i d a : Nat) : Nat := wor s i d + wor s (i + 1) a
def xun (s i d a : Nat) : Bool := mayx s i d a && decide (((pw s i d a : Int) - (pw s i a d : Int)) % (bs s : Int) = 0)
def chgF (s : Nat) (r : List Nat) (i : Nat) : List (List Nat) := ((List.range (sg s i)).filter (cun s i (gd r i))).map fun o => r.set i o
def chg (s : Nat) (r : List Nat) : List (List Nat) := (List.range r.length).flatMap (chgF s r)
def swp (r : List Nat) (i : Nat) : List Nat := (r.set i (gd r (i + 1))).set (i + 1) (gd r i)
def exg (s : Nat) (r : List Nat) : List (List Nat) := ((List.range (r.length - 1)).filter fun i => xun s i (gd r i) (gd r (i + 1))).map (swp r)
def mss (s : Nat) (r : List Nat) : List (List Nat) := chg s r ++ exg s r
theorem mem_chg {s : Nat} {r y : List Nat} : y ∈ chg s r ↔ ∃ i o, i < r.length ∧ o < sg s i ∧ cun s i (gd r i) o = true ∧ y = r.set i o := by
  unfold chg chgF
  simp only [List.mem_flatMap, List.mem_range, List.mem_map, List.mem_filter]
  constructor
  · rintro ⟨i, hi, o, ⟨h1, h2⟩, rfl⟩
    exact ⟨i, o, hi, h1, h2, rfl⟩
  · rintro ⟨i, o, hi, h1, h2, rfl⟩
    exact ⟨i, hi, o, ⟨h1, h2⟩, rfl⟩
theorem mem_exg {s : Nat} {r y : List Nat} : y ∈ exg s r ↔ ∃ i, i + 1 < r.length ∧ xun s i (gd r i) (gd r (i + 1)) = true ∧ y = swp r i := by
  unfold exg
  simp only [List.mem_map, List.mem_filter, List.mem_range]
  constructor
  · rintro ⟨i, ⟨hi, h1⟩, rfl⟩
    exact ⟨i, by omega, h1, rfl⟩
  · rintro ⟨i, hi, h1, rfl⟩
    exact ⟨i, ⟨by omega, h1⟩, rfl⟩
theorem swp_g {r : List Nat} {i j : Nat} (hi : i + 1 < r.length) : gd (swp r i) j = if j = i + 1 then gd r i else if j = i then gd r (i + 1) else gd r j := by
  unfold swp
  rw [g_set (by rw [List.length_set]; exact hi), g_set (by omega)]
theorem swp_len {r : List Nat} {i : Nat} : (swp r i).length = r.length := by unfold swp; rw [List.length_set, List.length_set]
theorem mss_nodup {s : Nat} {r : List Nat} : (mss s r).Nodup := by
  unfold mss
  refine List.nodup_append.mpr ⟨?_, ?_, ?_⟩
  · unfold chg
    refine List.pairwise_flatMap.mpr ⟨fun i hi => ?_, ?_⟩
    · have hi := List.mem_range.mp hi
      unfold chgF
      refine List.pairwise_map.mpr (List.Pairwise.imp (fun {a b} hab e => hab ?_) ((List.nodup_range (n := sg s i)).filter (cun s i (gd r i))))
      have := congrArg (fun l => gd l i) e
      try dsimp only at this
      rw [g_set hi, g_set hi, if_pos rfl, if_pos rfl] at this
      exact this
    · refine List.Pairwise.imp_of_mem (fun {a b} ha hb hab => ?_) (List.nodup_range (n := r.length))
      have ha := List.mem_range.mp ha
      have hb := List.mem_range.mp hb
      intro x hx y hy e
      unfold chgF at hx hy
      obtain ⟨o, ho, rfl⟩ := List.mem_map.mp hx
      obtain ⟨o2, ho2, rfl⟩ := List.mem_map.mp hy
      have h1 := (List.mem_filter.mp ho).2
      have := congrArg (fun l => gd l a) e
      try dsimp only at this
      rw [g_set ha, g_set hb, if_pos rfl, if_neg hab] at this
      unfold cun at h1
      rw [this] at h1
      simp at h1
  · unfold exg
    refine List.pairwise_map.mpr (List.Pairwise.imp_of_mem (fun {a b} ha hb hab e => ?_) ((List.nodup_range (n := r.length - 1)).filter _))
    obtain ⟨ha1, ha2⟩ := List.mem_filter.mp ha
    obtain ⟨hb1, hb2⟩ := List.mem_filter.mp hb
    have ha1 := List.mem_range.mp ha1
    have hb1 := List.mem_range.mp hb1
    have ne : ∀ i, xun s i (gd r i) (gd r (i + 1)) = true → gd r i ≠ gd r (i + 1) := fun i h e => by
      unfold xun mayx at h
      rw [e] at h
      simp at h
    have n1 := ne a ha2
    have n2 := ne b hb2
    have e1 := congrArg (fun l => gd l a) e
    have e2 := congrArg (fun l => gd l (a + 1)) e
    have e3 := congrArg (fun l => gd l b) e
    try dsimp only at e1 e2 e3
    rw [swp_g (by omega), swp_g (by omega)] at e1 e2 e3
    have hab : a ≠ b := hab
    rw [if_neg (by omega), if_pos rfl] at e1
    rw [if_pos rfl] at e2
    rw [if_neg (show ¬ b = b + 1 by omega), if_pos (show b = b from rfl)] at e3
    by_cases c1 : a = b + 1
    · have c2 : ¬ b = a + 1 := by omega
      rw [if_neg c2, if_neg (Ne.symm hab)] at e3
      exact n2 e3
    · rw [if_neg c1, if_neg hab] at e1
      exact n1 e1.symm
  · intro x hx y hy e
    subst e
    obtain ⟨i, o, hi, ho, hc, rfl⟩ := mem_chg.mp hx
    obtain ⟨j, hj, hx, e⟩ := mem_exg.mp hy
    have ne : gd r j ≠ gd r (j + 1) := fun e => by
      unfold xun mayx at hx
      rw [e] at hx
      simp at hx
    have e1 := congrArg (fun l => gd l j) e
    have e2 := congrArg (fun l => gd l (j + 1)) e
    try dsimp only at e1 e2
    rw [g_set hi, swp_g hj] at e1 e2
    rw [if_neg (show ¬ j = j + 1 by omega), if_pos (show j = j from rfl)] at e1
    rw [if_pos (show j + 1 = j + 1 from rfl)] at e2
    by_cases c : j = i
    · rw [if_neg (by omega)] at e2
      exact ne e2.symm
    · rw [if_neg c] at e1
      exact ne e1
def lsg (s n k : Nat) : Nat := if s = 3 ∧ k + 1 = n then 11 else 10
def slp (s : Nat) (r : List Nat) : List (List Nat) := ((List.range r.length).flatMap fun k => (List.range (lsg s r.length k)).map fun o => r.set (r.length - 1 - k) o) ++
  ((List.range (r.length - 1)).filter fun k => decide (k + 1 < r.length - 1) || decide (gd r 0 ≠ 10)).map fun k => swp r (r.length - 2 - k)
def ded : List (List Nat) → List (List Nat) → List (List Nat)
  | acc, [] => acc
  | acc, x :: l => ded (if x ∈ acc then acc else acc ++ [x]) l
def fnd (s : Nat) (r : List Nat) (y : List Nat) : Bool := decide (y ≠ r) && decide (Rt s y)
def mde (s : Nat) (r : List Nat) : List (List Nat) := ded [] ((slp s r).filter (fnd s r))
theorem ded_spec : ∀ (l acc : List (List Nat)), acc.Nodup → (ded acc l).Nodup ∧ ∀ y, y ∈ ded acc l ↔ y ∈ acc ∨ y ∈ l
  | [], acc, h => ⟨h, fun y => by show y ∈ acc ↔ _; simp⟩
  | x :: l, acc, h => by
    unfold ded
    split
    · rename_i hx
      obtain ⟨h1, h2⟩ := ded_spec l acc h
      refine ⟨h1, fun y => ?_⟩
      rw [h2, List.mem_cons]
      constructor
      · rintro (h | h)
        · exact .inl h
        · exact .inr (.inr h)
      · rintro (h | rfl | h)
        · exact .inl h
        · exact .inl hx
        · exact .inr h
    · rename_i hx
      obtain ⟨h1, h2⟩ := ded_spec l (acc ++ [x]) (List.nodup_append.mpr ⟨h, (by simp), fun a ha b hb e => hx (by
        rw [List.mem_singleton] at hb
        rw [← hb, ← e]
        exact ha)⟩)
      refine ⟨h1, fun y => ?_⟩
      rw [h2, List.mem_append, List.mem_singleton, List.mem_cons]
      constructor
      · rintro ((h | h) | h)
        · exact .inl h
        · exact .inr (.inl h)
        · exact .inr (.inr h)
      · rintro (h | h | h)
        · exact .inl (.inl h)
        · exact .inl (.inr h)
        · exact .inr h
theorem rt_set {s i o : Nat} {r : List Nat} (hr : Rt s r) (hi : i < r.length) : Rt s (r.set i o) ↔ ((wor s i (gd r i) : Int) - (wor s i o : Int)) % (bs s : Int) = 0 := by
  have h := wsum_set (s := s) (o := o) r 0 i hi
  rw [Nat.zero_add] at h
  unfold Rt at hr ⊢
  generalize wsum s 0 (r.set i o) = a at *
  generalize wsum s 0 r = b at *
  rcases bs_or s with e | e <;> rw [e] at hr ⊢ <;> omega
theorem rt_swp {s i : Nat} {r : List Nat} (hr : Rt s r) (hi : i + 1 < r.length) : Rt s (swp r i) ↔ ((pw s i (gd r i) (gd r (i + 1)) : Int) - (pw s i (gd r (i + 1)) (gd r i) : Int)) % (bs s : Int) = 0 := by
  have h := wsum_set (s := s) (o := gd r (i + 1)) r 0 i (by omega)
  have h2 := wsum_set (s := s) (o := gd r i) (r.set i (gd r (i + 1))) 0 (i + 1) (by rw [List.length_set]; exact hi)
  rw [g_set (by omega), if_neg (by omega)] at h2
  rw [Nat.zero_add] at h h2
  unfold Rt at hr ⊢
  unfold swp pw
  generalize wsum s 0 ((r.set i (gd r (i + 1))).set (i + 1) (gd r i)) = a at *
  generalize wsum s 0 (r.set i (gd r (i + 1))) = c at *
  generalize wsum s 0 r = b at *
  rcases bs_or s with e | e <;> rw [e] at hr ⊢ <;> omega
theorem set_ne {r : List Nat} {i o : Nat} (hi : i < r.length) : r.set i o ≠ r ↔ gd r i ≠ o := by
  constructor
  · intro h e
    refine h (ext_g (by rw [List.length_set]) fun j hj => ?_)
    rw [g_set hi]
    split
    · rename_i e2; rw [e2, e]
    · rfl
  · intro h e
    have := congrArg (fun l => gd l i) e
    try dsimp only at this
    rw [g_set hi, if_pos rfl] at this
    exact h this.symm
theorem swp_ne {r : List Nat} {i : Nat} (hi : i + 1 < r.length) : swp r i ≠ r ↔ gd r i ≠ gd r (i + 1) := by
  constructor
  · intro h e
    refine h (ext_g swp_len fun j hj => ?_)
    rw [swp_g hi]
    split
    · rename_i e2; rw [e2, e]
    · split
      · rename_i e2; rw [e2, e]
      · rfl
  · intro h e
    have := congrArg (fun l => gd l i) e
    try dsimp only at this
    rw [swp_g hi, if_neg (by omega), if_pos rfl] at this
    exact h this.symm
theorem mss_mde {s : Nat} {r : List Nat} (hs : s < 4) (hk : Ok s r) (hr : Rt s r) (y : List Nat) : y ∈ mss s r ↔ y ∈ mde s r := by
  unfold mde mss
  rw [(ded_spec _ [] List.nodup_nil).2, List.mem_append, mem_chg, mem_exg, List.mem_filter]
  have hlsg : ∀ k, k < r.length → lsg s r.length k = sg s (r.length - 1 - k) := fun k hk => by
    unfold lsg sg bs
    by_cases h1 : s = 3
    · by_cases h2 : k + 1 = r.length
      · rw [if_pos ⟨h1, h2⟩, if_pos (by omega), if_pos h1]
      · rw [if_neg (fun h => h2 h.2), if_neg (by omega)]
    · rw [if_neg (fun h => h1 h.1), if_neg h1]
      split <;> rfl
  have hslp : y ∈ slp s r ↔ (∃ i o, i < r.length ∧ o < sg s i ∧ y = r.set i o) ∨ (∃ i, i + 1 < r.length ∧ gd r i < 10 ∧ y = swp r i) := by
    unfold slp
    rw [List.mem_append]
    simp only [List.mem_flatMap, List.mem_range, List.mem_map, List.mem_filter, Bool.or_eq_true, decide_eq_true_eq]
    constructor
    · rintro (⟨k, hk1, o, ho, rfl⟩ | ⟨k, ⟨hk1, hk2⟩, rfl⟩)
      · rw [hlsg k hk1] at ho
        exact .inl ⟨r.length - 1 - k, o, by omega, ho, rfl⟩
      · refine .inr ⟨r.length - 2 - k, by omega, ?_, rfl⟩
        have h := hk (r.length - 2 - k) (by omega)
        unfold sg at h
        split at h
        · rename_i e
          rw [e] at h ⊢
          have hb : bs s ≤ 11 := by rcases bs_or s with e | e <;> omega
          omega
        · exact h
    · rintro (⟨i, o, hi, ho, rfl⟩ | ⟨i, hi, h10, rfl⟩)
      · refine .inl ⟨r.length - 1 - i, by omega, o, ?_, by rw [show r.length - 1 - (r.length - 1 - i) = i by omega]⟩
        rw [hlsg _ (by omega), show r.length - 1 - (r.length - 1 - i) = i by omega]
        exact ho
      · refine .inr ⟨r.length - 2 - i, ⟨by omega, ?_⟩, by rw [show r.length - 2 - (r.length - 2 - i) = i by omega]⟩
        by_cases h0 : i = 0
        · right; rw [h0] at h10; omega
        · left; omega
  rw [hslp]
  unfold fnd
  rw [Bool.and_eq_true, decide_eq_true_eq, decide_eq_true_eq]
  constructor
  · rintro (⟨i, o, hi, ho, hc, rfl⟩ | ⟨i, hi, hx, rfl⟩)
    · unfold cun at hc
      simp only [Bool.and_eq_true, decide_eq_true_eq] at hc
      exact .inr ⟨.inl ⟨i, o, hi, ho, rfl⟩, (set_ne hi).mpr hc.1, (rt_set hr hi).mpr hc.2⟩
    · unfold xun mayx at hx
      simp only [Bool.and_eq_true, decide_eq_true_eq] at hx
      obtain ⟨⟨h1, h2, h3⟩, h4⟩ := hx
      refine .inr ⟨.inr ⟨i, hi, ?_, rfl⟩, (swp_ne hi).mpr h1, (rt_swp hr hi).mpr h4⟩
      unfold sg at h2
      rw [if_neg (by omega)] at h2
      exact h2
  · rintro (h | ⟨⟨i, o, hi, ho, rfl⟩ | ⟨i, hi, h10, rfl⟩, h1, h2⟩)
    · cases h
    · refine .inl ⟨i, o, hi, ho, ?_, rfl⟩
      unfold cun
      rw [decide_eq_true ((set_ne hi).mp h1), decide_eq_true ((rt_set hr hi).mp h2)]
      rfl
    · refine .inr ⟨i, hi, ?_, rfl⟩
      unfold xun mayx
      have h3 := sg_le s (i + 1)
      have h4 := hk (i + 1) hi
      have h5 : sg s (i + 1) = 10 := by unfold sg; rw [if_neg (by omega)]
      have h6 := sg_le s i
      rw [decide_eq_true ((swp_ne hi).mp h1), decide_eq_true ((rt_swp hr hi).mp h2), decide_eq_true (show gd r i < sg s (i + 1) by omega), decide_eq_true (show gd r (i + 1) < sg s i by omega)]
      rfl
def cd (d : Nat) : Nat := if d = 10 then 120 else 48 + d
def txr (r : List Nat) : List Nat := (r.map cd).reverse
def Dg (r : List Nat) : Prop := ∀ d ∈ r, d ≤ 10
def NS (n : Nat) : List Nat := (List.range n).map cd
def ckd (s : Nat) (r : List Nat) : Nat := (bs s - wsum s 1 r % bs s) % bs s
theorem txr_len {r : List Nat} : (txr r).length = r.length := by unfold txr; rw [List.length_reverse, List.length_map]
theorem cd_inj {a b : Nat} (ha : a ≤ 10) (hb : b ≤ 10) (h : cd a = cd b) : a = b := by
  unfold cd at h
  split at h <;> split at h <;> omega
theorem txr_inj : ∀ {r y : List Nat}, Dg r → Dg y → txr r = txr y → r = y := by
  have key : ∀ {r y : List Nat}, Dg r → Dg y → r.map cd = y.map cd → r = y := by
    intro r
    induction r with
    | nil => intro y _ _ h; cases y with | nil => rfl | cons => cases h
    | cons d r ih =>
      intro y hr hy h
      cases y with
      | nil => cases h
      | cons e y =>
        rw [List.map_cons, List.map_cons, List.cons.injEq] at h
        rw [cd_inj (hr d List.mem_cons_self) (hy e List.mem_cons_self) h.1, ih (fun x hx => hr x (List.mem_cons_of_mem _ hx)) (fun x hx => hy x (List.mem_cons_of_mem _ hx)) h.2]
  intro r y hr hy h
  exact key hr hy (List.reverse_inj.mp h)
theorem Ok.dg {s : Nat} {r : List Nat} (h : Ok s r) : Dg r := fun d hd => by
  obtain ⟨i, hi, rfl⟩ := List.getElem_of_mem hd
  have := h i hi
  rw [g_get hi] at this
  have := (sg_le s i).2
  omega
theorem Dg.set {r : List Nat} {i o : Nat} (h : Dg r) (ho : o ≤ 10) : Dg (r.set i o) := fun d hd => by
  rcases List.mem_or_eq_of_mem_set hd with hd | rfl
  · exact h d hd
  · exact ho
theorem Dg.gd {r : List Nat} {i : Nat} (h : Dg r) : gd r i ≤ 10 := by
  by_cases hi : i < r.length
  · rw [g_get hi]; exact h _ (List.getElem_mem hi)
  · unfold K25.gd
    rw [List.getD_eq_getElem?_getD, List.getElem?_eq_none (by omega)]
    show 0 ≤ 10
    omega
theorem wor0 {s d : Nat} (h : d < bs s) : wor s 0 d = d := by
  unfold wor fct
  unfold bs at h
  by_cases h3 : s = 3
  · subst h3
    simp
  · rw [if_neg h3] at h
    have hf : (if s = 1 then if 0 % 2 = 1 then 3 else 1 else if s = 2 then if 0 % 2 = 1 then 2 else 1 else if s = 3 then 0 + 1 else 1) = 1 := by
      rw [if_neg h3]
      split
      · rfl
      · split <;> rfl
    rw [hf, Nat.one_mul, if_neg (by omega)]
theorem ckd_lt (s : Nat) (r : List Nat) : ckd s r < bs s := by
  unfold ckd
  rcases bs_or s with e | e <;> rw [e] <;> omega
theorem ckd_iff {s d : Nat} {r : List Nat} (h : d < bs s) : (wsum s 1 r % bs s + d) % bs s = 0 ↔ d = ckd s r := by
  unfold ckd
  rcases bs_or s with e | e <;> rw [e] at h ⊢ <;> omega
theorem rt_ckd {s d : Nat} {r : List Nat} (h : d < bs s) : Rt s (d :: r) ↔ d = ckd s r := by
  rw [← ckd_iff h]
  unfold Rt
  show (wor s 0 d + wsum s 1 r) % bs s = 0 ↔ _
  rw [wor0 h]
  rcases bs_or s with e | e <;> rw [e] <;> omega
theorem mss_missed {s : Nat} {r : List Nat} (hs : s < 4) (hk : Ok s r) (hr : Rt s r) : srt ((mss s r).map txr) = srt ((mde s r).map txr) := by
  have dg := hk.dg
  have dm : ∀ y ∈ mss s r, Dg y := fun y hy => by
    unfold mss at hy
    rcases List.mem_append.mp hy with hy | hy
    · obtain ⟨i, o, hi, ho, _, rfl⟩ := mem_chg.mp hy
      have := (sg_le s i).2
      exact dg.set (by omega)
    · obtain ⟨i, hi, _, rfl⟩ := mem_exg.mp hy
      exact (dg.set dg.gd).set dg.gd
  have nd : ∀ {l : List (List Nat)}, l.Nodup → (∀ y ∈ l, Dg y) → (l.map txr).Nodup := fun {l} h1 h2 =>
    List.pairwise_map.mpr (List.Pairwise.imp_of_mem (fun {a b} ha hb hab e => hab (txr_inj (h2 a ha) (h2 b hb) e)) h1)
  have n1 := nd (mss_nodup (s := s) (r := r)) dm
  have n2 := nd (l := mde s r) (ded_spec _ [] List.nodup_nil).1 (fun y hy => dm y ((mss_mde hs hk hr y).mpr hy))
  refine srt_uniq (srt_srt n1) (srt_srt n2) fun x => ?_
  rw [srt_mem n1, srt_mem n2, List.mem_map, List.mem_map]
  constructor
  · rintro ⟨y, hy, rfl⟩
    exact ⟨y, (mss_mde hs hk hr y).mp hy, rfl⟩
  · rintro ⟨y, hy, rfl⟩
    exact ⟨y, (mss_mde hs hk hr y).mpr hy, rfl⟩
def schF (s : Nat) : List (Nat × D) := [(0, .int (bs s : Int)), (1, .str (NS (bs s)))]
def Sch (s : Nat) (h : Heap) (a : Nat) : Prop := h.at a = some (.ins (9 + s) (schF s))
theorem Sch.app {s : Nat} {h t : Heap} {a : Nat} (q : Sch s h a) : Sch s (h ++ t) a := at_app q
def facI (s : Nat) : Nat := if s = 1 then 13 else if s = 2 then 14 else if s = 3 then 17 else 7
def worI (s : Nat) : Nat := if s = 2 then 15 else 8
theorem four {Q : Nat → Prop} (h0 : Q 0) (h1 : Q 1) (h2 : Q 2) (h3 : Q 3) : ∀ s, s < 4 → Q s
  | 0, _ => h0
  | 1, _ => h1
  | 2, _ => h2
  | 3, _ => h3
  | n + 4, h => absurd h (by omega)
theorem mt0 : ∀ s, s < 4 → P.meth (9 + s) 0 = some (facI s) := four rfl rfl rfl rfl
theorem mt1 : ∀ s, s < 4 → P.meth (9 + s) 1 = some (worI s) := four rfl rfl rfl rfl
theorem mt2 : ∀ s, s < 4 → P.meth (9 + s) 2 = some 10 := four rfl rfl rfl rfl
theorem mt3 : ∀ s, s < 4 → P.meth (9 + s) 3 = some 9 := four rfl rfl rfl rfl
theorem mt4 : ∀ s, s < 4 → P.meth (9 + s) 4 = some 11 := four rfl rfl rfl rfl
theorem mt5 : ∀ s, s < 4 → P.meth (9 + s) 5 = some 12 := four rfl rfl rfl rfl
theorem bs_pos (s : Nat) : (0 : Int) < (bs s : Int) := by rcases bs_or s with e | e <;> rw [e] <;> decide
theorem fct_lt {s k : Nat} (hk : k ≤ 900) : fct s k < 1000 := by
  unfold fct
  split
  · split <;> omega
  · split
    · split <;> omega
    · split <;> omega
theorem NS_len (n : Nat) : (NS n).length = n := by unfold NS; rw [List.length_map, List.length_range]
theorem NS_get {n i : Nat} (hi : i < ((NS n).map fun c => D.str [c]).length) : ((NS n).map fun c => D.str [c])[i] = .str [cd i] := by
  rw [List.getElem_map]
  unfold NS
  rw [List.getElem_map, List.getElem_range]
theorem txr_cons (d : Nat) (r : List Nat) : txr (d :: r) = txr r ++ [cd d] := by unfold txr; rw [List.map_cons, List.reverse_cons]
section
variable {n b s : Nat} {h : Heap} {a : Nat}
theorem fac_call (hs : s < 4) {x : D} {k : Nat} : callF P (n + 2) b (facI s) [x, .int (k : Int)] h = .ok (.int (fct s k : Int)) h := by
  have c1 : (ev (pC P n h false) (.cmp .Eq (.bin .Mod (.var 1) (.cint 2)) (.cint 1))).t [some x, iv k] h = .ok (decide ((k : Int) % 2 = 1)) h :=
    tru_v ((cmp_ev (C := pC P n h false) (op := .Eq) (e2 := .cint 1) (y := .int 1) (env := [some x, iv k]) (h := h) (h1 := h) (h2 := h) ((bin_ev (op := .Mod) (e := .var 1) (e2 := .cint 2) (x := .int (k : Int)) (y := .int 2) (h1 := h) (h2 := h) rfl rfl).trans (mod_f (by decide))) rfl).trans (eqF_int _ _ _)) rfl
  revert s
  refine @(four ?_ ?_ ?_ ?_)
  · exact pure_ret (f := ⟨2, 2, b7, true, false⟩) (n := n) (h' := h) rfl rfl rfl (ss_ret (ret_ev rfl)) rfl
  · show callF P (n + 2) b 13 [x, .int (k : Int)] h = .ok (.int ((if k % 2 = 1 then 3 else 1 : Nat) : Int)) h
    by_cases h0 : k % 2 = 1
    · rw [decide_eq_true (by omega)] at c1
      rw [if_pos h0]
      exact pure_ret (f := ⟨2, 2, b13, true, false⟩) (n := n) (h' := h) rfl rfl rfl (ss_ret ((ite_t c1).trans (ss_ret (ret_ev rfl)))) rfl
    · rw [decide_eq_false (by omega)] at c1
      rw [if_neg h0]
      exact pure_ret (f := ⟨2, 2, b13, true, false⟩) (n := n) (h' := h) rfl rfl rfl ((ss_nx ((ite_f c1).trans rfl)).trans (ss_ret (ret_ev rfl))) rfl
  · show callF P (n + 2) b 14 [x, .int (k : Int)] h = .ok (.int ((if k % 2 = 1 then 2 else 1 : Nat) : Int)) h
    by_cases h0 : k % 2 = 1
    · rw [decide_eq_true (by omega)] at c1
      rw [if_pos h0]
      exact pure_ret (f := ⟨2, 2, b14, true, false⟩) (n := n) (h' := h) rfl rfl rfl (ss_ret ((ite_t c1).trans (ss_ret (ret_ev rfl)))) rfl
    · rw [decide_eq_false (by omega)] at c1
      rw [if_neg h0]
      exact pure_ret (f := ⟨2, 2, b14, true, false⟩) (n := n) (h' := h) rfl rfl rfl ((ss_nx ((ite_f c1).trans rfl)).trans (ss_ret (ret_ev rfl))) rfl
  · exact pure_ret (f := ⟨2, 2, b17, true, false⟩) (n := n) (h' := h) (d := .int ((k + 1 : Nat) : Int)) rfl rfl rfl (ss_ret (ret_ev (addN_ev (e1 := .var 1) (h1 := h) rfl one_ev))) rfl
theorem val_call {d : Nat} (hd : d ≤ 10) : callF P (n + 2) b 5 [.str [cd d]] h = .ok (.int (d : Int)) h := by
  have c1 := tru_v ((cmp_ev (C := pC P n h false) (op := .Eq) (e := .var 0) (e2 := .glb 1) (x := .str [cd d]) (y := .str [120]) (env := [some (.str [cd d])]) (h := h) (h1 := h) (h2 := h) rfl rfl).trans eqS_f) rfl
  by_cases h0 : d = 10
  · subst h0
    exact pure_ret (f := ⟨1, 1, b5, true, false⟩) (n := n) (h' := h) rfl rfl rfl (ss_ret ((ite_t c1).trans (ss_ret (ret_ev rfl)))) rfl
  · have hc : cd d = 48 + d := by unfold cd; rw [if_neg h0]
    rw [hc] at c1 ⊢
    rw [eqL_one, decide_eq_false (by omega)] at c1
    have e1 := (bi_ev (C := pC P n h false) (b := .int) (e := .var 0) (d := .str [48 + d]) (env := [some (.str [48 + d])]) (h := h) (h1 := h) rfl).trans (int_f (by omega))
    exact pure_ret (f := ⟨1, 1, b5, true, false⟩) (n := n) (h' := h) rfl rfl rfl ((ss_nx ((ite_f c1).trans rfl)).trans (ss_ret (ret_ev e1))) rfl
theorem wor_call {k d : Nat} (hs : s < 4) (q : Sch s h a) (hk : k ≤ 900) (hd : d ≤ 10) : callF P (n + 4) b (worI s) [.ref a, .int (k : Int), .str [cd d]] h = .ok (.int ((wor s k d : Nat) : Int)) h := by
  have hfl := fct_lt (s := s) hk
  by_cases h2 : s = 2
  · have k1 : (ev (pC P (n + 2) h false) (.mth 0 (.var 0) [.var 1])).v [some (.ref a), iv k, some (.str [cd d]), none] h = .ok (.int (fct s k : Int)) h := mth_ev (P := P) (N := n + 2) (b := h.length) (k := facI s) rfl q (mt0 s hs) (args1 (d := .int (k : Int)) (h1 := h) rfl) (fac_call (n := n + 1) hs)
    have k2 := callP (P := P) (n := n + 2) (h0 := h) (tl := false) (k := 5) (es := [.var 2]) (env := [some (.ref a), iv k, some (.str [cd d]), none]) (h := h) (args1 (d := .str [cd d]) (h1 := h) rfl) (val_call (n := n + 1) hd)
    have k3 := (bin_ev (op := .Mult) k1 k2).trans (mul_f (small_n hfl))
    rw [show (fct s k : Int) * (d : Int) = ((fct s k * d : Nat) : Int) by rw [Int.natCast_mul]] at k3
    have hw : worI s = 15 := by unfold worI; rw [if_pos h2]
    have hv : wor s k d = if 9 < fct s k * d then fct s k * d - 9 else fct s k * d := by
      unfold wor
      by_cases h9 : 9 < fct s k * d
      · rw [if_pos ⟨h2, h9⟩, if_pos h9]
      · rw [if_neg (fun e => h9 e.2), if_neg h9]
    rw [hw, hv]
    generalize fct s k * d = p at *
    have s1 : execS (pC P (n + 2) h false) (.set 3 (.bin .Mult (.mth 0 (.var 0) [.var 1]) (.call 5 [.var 2]))) [some (.ref a), iv k, some (.str [cd d]), none] h = .nx [some (.ref a), iv k, some (.str [cd d]), iv p] h := set_ev k3
    have c1 : (ev (pC P (n + 2) h false) (.cmp .Gt (.var 3) (.glb 4))).t [some (.ref a), iv k, some (.str [cd d]), iv p] h = .ok (decide ((9 : Int) < (p : Int))) h :=
      tru_v ((cmp_ev (x := .int (p : Int)) (y := .int 9) (h1 := h) (h2 := h) rfl rfl).trans gt_f) rfl
    by_cases h9 : 9 < p
    · rw [decide_eq_true (by omega)] at c1
      rw [if_pos h9]
      have e1 : (ev (pC P (n + 2) h false) (.bin .Sub (.var 3) (.glb 4))).v [some (.ref a), iv k, some (.str [cd d]), iv p] h = .ok (.int ((p - 9 : Nat) : Int)) h := subN_ev (k := p) (c := 9) (h1 := h) (h2 := h) (by omega) rfl rfl
      exact pure_ret (f := ⟨3, 4, b15, true, false⟩) (n := n + 2) (h' := h) rfl rfl rfl ((ss_nx s1).trans (ss_ret ((ite_t c1).trans (ss_ret (ret_ev e1))))) rfl
    · rw [decide_eq_false (by omega)] at c1
      rw [if_neg h9]
      exact pure_ret (f := ⟨3, 4, b15, true, false⟩) (n := n + 2) (h' := h) rfl rfl rfl ((ss_nx s1).trans ((ss_nx ((ite_f c1).trans rfl)).trans (ss_ret (ret_ev rfl)))) rfl
  · have k1 : (ev (pC P (n + 2) h false) (.mth 0 (.var 0) [.var 1])).v [some (.ref a), iv k, some (.str [cd d])] h = .ok (.int (fct s k : Int)) h := mth_ev (P := P) (N := n + 2) (b := h.length) (k := facI s) rfl q (mt0 s hs) (args1 (d := .int (k : Int)) (h1 := h) rfl) (fac_call (n := n + 1) hs)
    have k2 := callP (P := P) (n := n + 2) (h0 := h) (tl := false) (k := 5) (es := [.var 2]) (env := [some (.ref a), iv k, some (.str [cd d])]) (h := h) (args1 (d := .str [cd d]) (h1 := h) rfl) (val_call (n := n + 1) hd)
    have k3 := (bin_ev (op := .Mult) k1 k2).trans (mul_f (small_n hfl))
    rw [show (fct s k : Int) * (d : Int) = ((fct s k * d : Nat) : Int) by rw [Int.natCast_mul]] at k3
    have hw : worI s = 8 := by unfold worI; rw [if_neg h2]
    have hv : wor s k d = fct s k * d := by
      unfold wor
      rw [if_neg (fun e => h2 e.1)]
    rw [hw, hv]
    exact pure_ret (f := ⟨3, 3, b8, true, false⟩) (n := n + 2) (h' := h) rfl rfl rfl (ss_ret (ret_ev k3)) rfl
theorem base_ev {C : Ctx} {o : E} {env : Env} {h h1 : Heap} (ho : (ev C o).v env h = .ok (.ref a) h1) (q : Sch s h1 a) : (ev C (.attr o 0)).v env h = .ok (.int (bs s : Int)) h1 := attr_ev ho q rfl
theorem sgs_call {k : Nat} (q : Sch s h a) : callF P (n + 2) b 9 [.ref a, .int (k : Int)] h = .ok (.str (NS (sg s k))) h := by
  have c1 : (ev (pC P n h false) (.cmp .Eq (.var 1) (.cint 0))).t [some (.ref a), iv k] h = .ok (decide ((k : Int) = 0)) h :=
    tru_v ((cmp_ev (x := .int (k : Int)) (y := .int 0) (h1 := h) (h2 := h) rfl rfl).trans (eqF_int _ _ _)) rfl
  unfold sg
  by_cases h0 : k = 0
  · rw [decide_eq_true (by omega)] at c1
    rw [if_pos h0]
    exact pure_ret (f := ⟨2, 2, b9, true, false⟩) (n := n) (h' := h) rfl rfl rfl (ss_ret ((ite_t c1).trans (ss_ret (ret_ev (attr_ev (o := .var 0) (h1 := h) rfl q rfl))))) rfl
  · rw [decide_eq_false (by omega)] at c1
    rw [if_neg h0]
    exact pure_ret (f := ⟨2, 2, b9, true, false⟩) (n := n) (h' := h) rfl rfl rfl ((ss_nx ((ite_f c1).trans rfl)).trans (ss_ret (ret_ev rfl))) rfl
theorem rest_call {r : List Nat} (hs : s < 4) (q : Sch s h a) (hd : Dg r) (hl : r.length ≤ 900) : callF P (n + 6) b 10 [.ref a, .str (txr r)] h = .ok (.int ((wsum s 0 r % bs s : Nat) : Int)) h := by
  have hfu : 4000 ≤ P.fuel := hf
  have s1 : execS (pC P (n + 4) h false) (.set 2 (.cint 0)) [some (.ref a), some (.str (txr r)), none, none, none] h = .nx [some (.ref a), some (.str (txr r)), iv 0, none, none] h := set_ev rfl
  have hml : ((r.map cd).map fun x => D.str [x]).length = r.length := by rw [List.length_map, List.length_map]
  have hW := walks_str (h := h) (s := r.map cd)
  obtain ⟨e2, s3, q1, x3, x4, rfl, rfl⟩ := for_rule (C := pC P (n + 4) h false) (tg := .tp [.nm 3, .nm 4]) (it := .enmr (.var 1)) (n := r.length) (w := .enm (.str (r.map cd))) (b := [.aug 2 .Add (.mth 1 (.var 0) [.var 3, .var 4])]) (env := [some (.ref a), some (.str (txr r)), iv 0, none, none]) (h := h) (h1 := h)
    (I := fun i e t => ∃ x3 x4, e = [some (.ref a), some (.str (txr r)), iv (wsum s 0 (r.take i)), x3, x4] ∧ t = h)
    (by
      show Res.ok (It.enm (.str (txr r).reverse)) h = _
      unfold txr
      rw [List.reverse_reverse]) ⟨none, none, rfl, rfl⟩
    (fun i e s' hi ⟨x3, x4, e1, e2⟩ => by
      subst e1 e2
      have n1 := (hW []).1 i (by rw [hml]; exact hi)
      rw [List.append_nil] at n1
      have hgv : ((r.map cd).map fun x => D.str [x])[i]'(by rw [hml]; exact hi) = .str [cd r[i]] := by
        rw [List.getElem_map, List.getElem_map]
      rw [hgv] at n1
      have htk := List.take_succ_eq_append_getElem hi
      have hmem : r[i] ≤ 10 := hd _ (List.getElem_mem hi)
      have hlt : (r.take i).length = i := by rw [List.length_take]; omega
      have hw := wsum_app (s := s) (r.take i) 0 r[i]
      rw [hlt, Nat.zero_add, ← htk] at hw
      rw [hw]
      generalize r[i] = d at *
      generalize wsum s 0 (r.take i) = t at *
      have k1 : (ev (pC P (n + 4) s' false) (.mth 1 (.var 0) [.var 3, .var 4])).v [some (.ref a), some (.str (txr r)), iv t, iv i, some (.str [cd d])] s' = .ok (.int ((wor s i d : Nat) : Int)) s' :=
        mth_ev (P := P) (N := n + 4) (b := s'.length) (k := worI s) rfl q (mt1 s hs) (args_cons (d := .int (i : Int)) (h1 := s') rfl (args1 (d := .str [cd d]) (h1 := s') rfl)) (wor_call (n := n + 1) hs q (by omega) hmem)
      have k2 : execS (pC P (n + 4) s' false) (.aug 2 .Add (.mth 1 (.var 0) [.var 3, .var 4])) [some (.ref a), some (.str (txr r)), iv t, iv i, some (.str [cd d])] s' = .nx [some (.ref a), some (.str (txr r)), iv (t + wor s i d), iv i, some (.str [cd d])] s' :=
        aug_ev (x := .int (t : Int)) rfl k1 (r := .int ((t + wor s i d : Nat) : Int)) rfl
      refine ⟨.tup [.int (i : Int), .str [cd d]], _, _, _, ?_, rfl, (ss_nx k2).trans rfl, iv i, some (.str [cd d]), rfl, rfl⟩
      show (match (It.str (r.map cd)).next i s' with | .item d => Nxt.item (.tup [.int i, d]) | .stop => .stop | .err => .err) = _
      rw [n1])
    (fun e s' ⟨x3, x4, e1, e2⟩ => by
      subst e2
      have := (hW []).2
      rw [List.append_nil, hml] at this
      show (match (It.str (r.map cd)).next r.length s' with | .item d => Nxt.item (.tup [.int r.length, d]) | .stop => .stop | .err => .err) = _
      rw [this]) (by show r.length < P.fuel; omega)
  rw [List.take_length] at q1
  have k3 := (bin_ev (C := pC P (n + 4) s3 false) (op := .Mod) (e := .var 2) (e2 := .attr (.var 0) 0) (x := .int (wsum s 0 r : Int)) (y := .int (bs s : Int)) (env := [some (.ref a), some (.str (txr r)), iv (wsum s 0 r), x3, x4]) (h := s3) (h1 := s3) (h2 := s3) rfl (base_ev rfl q)).trans (mod_f (bs_pos s))
  rw [show (wsum s 0 r : Int) % (bs s : Int) = ((wsum s 0 r % bs s : Nat) : Int) by omega] at k3
  exact pure_ret (f := ⟨2, 5, b10, true, false⟩) (n := n + 4) (h' := s3) rfl rfl rfl ((ss_nx s1).trans ((ss_nx q1).trans (ss_ret (ret_ev k3)))) rfl
theorem right_call {r : List Nat} (hs : s < 4) (q : Sch s h a) (hd : Dg r) (hl : r.length ≤ 900) : callF P (n + 8) b 11 [.ref a, .str (txr r)] h = .ok (.bl (decide (Rt s r))) h := by
  have k1 : (ev (pC P (n + 6) h false) (.mth 2 (.var 0) [.var 1])).v [some (.ref a), some (.str (txr r))] h = .ok (.int ((wsum s 0 r % bs s : Nat) : Int)) h :=
    mth_ev (P := P) (N := n + 6) (b := h.length) (k := 10) rfl q (mt2 s hs) (args1 (d := .str (txr r)) (h1 := h) rfl) (rest_call (n := n + 1) hs q hd hl)
  have k2 := (cmp_ev (op := .Eq) (e2 := .cint 0) (y := .int 0) k1 rfl).trans (eqF_int _ _ _)
  rw [show decide (((wsum s 0 r % bs s : Nat) : Int) = 0) = decide (Rt s r) from decide_eq_decide.mpr (by unfold Rt; omega)] at k2
  exact pure_ret (f := ⟨2, 2, b11, true, false⟩) (n := n + 6) (h' := h) rfl rfl rfl (ss_ret (ret_ev k2)) rfl
theorem sign_call {r : List Nat} (hs : s < 4) (q : Sch s h a) (hd : Dg r) (hl : r.length ≤ 800) : callF P (n + 8) b 12 [.ref a, .str (txr r)] h = .ok (.str [cd (ckd s r)]) h := by
  have hfu : 4000 ≤ P.fuel := hf
  have hd0 : Dg (0 :: r) := fun x hx => by
    rcases List.mem_cons.mp hx with rfl | hx
    · omega
    · exact hd x hx
  have hbp : 0 < bs s := by rcases bs_or s with e | e <;> omega
  have a1 : (ev (pC P (n + 6) h false) (.bin .Add (.var 1) (.idx (.glb 0) (.cint 0)))).v [some (.ref a), some (.str (txr r)), none, none] h = .ok (.str (txr (0 :: r))) h := by
    have := (bin_ev (C := pC P (n + 6) h false) (op := .Add) (e := .var 1) (e2 := .idx (.glb 0) (.cint 0)) (x := .str (txr r)) (y := .str [48]) (env := [some (.ref a), some (.str (txr r)), none, none]) (h := h) (h1 := h) (h2 := h) rfl rfl).trans (cat_f (by rw [txr_len]; show r.length + 1 ≤ _; omega))
    rw [txr_cons]
    exact this
  have k1 : (ev (pC P (n + 6) h false) (.mth 2 (.var 0) [.bin .Add (.var 1) (.idx (.glb 0) (.cint 0))])).v [some (.ref a), some (.str (txr r)), none, none] h = .ok (.int ((wsum s 0 (0 :: r) % bs s : Nat) : Int)) h :=
    mth_ev (P := P) (N := n + 6) (b := h.length) (k := 10) rfl q (mt2 s hs) (args1 a1) (rest_call (n := n + 1) hs q hd0 (by rw [List.length_cons]; omega))
  have hw0 : wsum s 0 (0 :: r) = wsum s 1 r := by
    show wor s 0 0 + wsum s 1 r = _
    rw [wor0 hbp, Nat.zero_add]
  rw [hw0] at k1
  have hck : ∀ d, d < bs s → ((wsum s 1 r % bs s + d) % bs s = 0 ↔ d = ckd s r) := fun d hd => ckd_iff hd
  generalize wsum s 1 r % bs s = t at *
  have s1 : execS (pC P (n + 6) h false) (.set 2 (.mth 2 (.var 0) [.bin .Add (.var 1) (.idx (.glb 0) (.cint 0))])) [some (.ref a), some (.str (txr r)), none, none] h = .nx [some (.ref a), some (.str (txr r)), iv t, none] h := set_ev k1
  have hW := walks_str (h := h) (s := NS (bs s))
  have hml : ((NS (bs s)).map fun c => D.str [c]).length = bs s := by rw [List.length_map, NS_len]
  have itv : (ev (pC P (n + 6) h false) (.attr (.var 0) 1)).v [some (.ref a), some (.str (txr r)), iv t, none] h = .ok (.str (NS (bs s))) h := attr_ev (C := pC P (n + 6) h false) (o := .var 0) (h1 := h) rfl q rfl
  have q9 := for_ret (C := pC P (n + 6) h false) (tg := .nm 3) (it := .attr (.var 0) 1) (w := .str (NS (bs s))) (n := bs s) (b := [.ite (.cmp .Eq (.bin .Mod (.bin .Add (.var 2) (.mth 1 (.var 0) [.cint 0, .var 3])) (.attr (.var 0) 0)) (.cint 0)) [.ret (.var 3)] []]) (env := [some (.ref a), some (.str (txr r)), iv t, none]) (h := h) (h1 := h)
    (fun i e s' => ∃ x3, e = [some (.ref a), some (.str (txr r)), iv t, x3] ∧ s' = h ∧ ∀ j, j < i → j ≠ ckd s r) (fun d s' => d = .str [cd (ckd s r)] ∧ s' = h)
    (iter_v itv rfl rfl) ⟨none, rfl, rfl, fun j hj => absurd hj (Nat.not_lt_zero _)⟩
    (fun i e s' hi ⟨x3, e1, e2, hj⟩ => by
      subst e1 e2
      have n1 := (hW []).1 i (by rw [hml]; exact hi)
      rw [List.append_nil, NS_get] at n1
      have hi10 : i ≤ 10 := by rcases bs_or s with e | e <;> omega
      have k2 : (ev (pC P (n + 6) s' false) (.mth 1 (.var 0) [.cint 0, .var 3])).v [some (.ref a), some (.str (txr r)), iv t, some (.str [cd i])] s' = .ok (.int ((wor s 0 i : Nat) : Int)) s' :=
        mth_ev (P := P) (N := n + 6) (b := s'.length) (k := worI s) rfl q (mt1 s hs) (args_cons (d := .int ((0 : Nat) : Int)) (h1 := s') rfl (args1 (d := .str [cd i]) (h1 := s') rfl)) (wor_call (n := n + 3) hs q (by omega) hi10)
      rw [wor0 hi] at k2
      have k3 := addN_ev (e1 := .var 2) (k := t) (h1 := s') rfl k2
      have k4 := (bin_ev (op := .Mod) (e2 := .attr (.var 0) 0) (y := .int (bs s : Int)) k3 (base_ev rfl q)).trans (mod_f (bs_pos s))
      have c1 := tru_v ((cmp_ev (op := .Eq) (e2 := .cint 0) (y := .int 0) k4 rfl).trans (eqF_int _ _ _)) rfl
      refine ⟨_, [some (.ref a), some (.str (txr r)), iv t, some (.str [cd i])], n1, rfl, ?_⟩
      have hk := hck i hi
      by_cases hz : i = ckd s r
      · rw [decide_eq_true (by have := hk.mpr hz; omega)] at c1
        refine .inr ⟨.str [cd i], s', ss_ret ((ite_t c1).trans (ss_ret (ret_ev rfl))), ?_, rfl⟩
        rw [hz]
      · rw [decide_eq_false (by
          intro e
          exact hz (hk.mp (by omega)))] at c1
        refine .inl ⟨_, _, (ss_nx ((ite_f c1).trans rfl)).trans rfl, some (.str [cd i]), rfl, rfl, fun j hj' => ?_⟩
        by_cases e : j = i
        · rw [e]; exact hz
        · exact hj j (by omega))
    (fun e s' ⟨x3, e1, e2, _⟩ => by
      subst e2
      have := (hW []).2
      rw [List.append_nil, hml] at this
      exact this) (by show bs s < P.fuel; rcases bs_or s with e | e <;> omega)
  rcases q9 with ⟨e2, s2, q1, x3, rfl, rfl, hj⟩ | ⟨rr, s2, q1, rfl, rfl⟩
  · exfalso
    exact hj (ckd s r) (ckd_lt s r) rfl
  · exact pure_ret (f := ⟨2, 4, b12, true, false⟩) (n := n + 6) (h' := s2) rfl rfl rfl ((ss_nx s1).trans (ss_ret q1)) rfl
theorem init6 {N c : Nat} (hb : b ≤ h.length) : callF P (N + 2) b 6 [.ref h.length] (h ++ [.ins c []]) = .ok .non (h ++ [.ins c [(0, .int 10), (1, .str (NS 10))]]) := by
  have e1 := seta_ev (C := qC P N b) (f := 0) (a := h.length) (c := c) (fs := []) (o := .var 0) (e := .glb 3) (env := [some (.ref h.length)]) (h := h ++ [.ins c []]) (h1 := h ++ [.ins c []]) (h2 := h ++ [.ins c []]) (d := .int 10) rfl rfl at_mid (by decide) hb
  rw [set_mid] at e1
  have e2 := seta_ev (C := qC P N b) (f := 1) (a := h.length) (c := c) (fs := setF 0 (.int 10) []) (o := .var 0) (e := .glb 0) (env := [some (.ref h.length)]) (h := h ++ [.ins c (setF 0 (.int 10) [])]) (h1 := h ++ [.ins c (setF 0 (.int 10) [])]) (h2 := h ++ [.ins c (setF 0 (.int 10) [])]) (d := .str (NS 10)) rfl rfl at_mid (by decide) hb
  rw [set_mid] at e2
  exact call_run (f := ⟨1, 1, b6, false, false⟩) rfl rfl rfl rfl (.inr ⟨rfl, _, (ss_nx e1).trans ((ss_nx e2).trans rfl)⟩)
theorem init16 {N c : Nat} (hb : b ≤ h.length) : callF P (N + 3) b 16 [.ref h.length] (h ++ [.ins c []]) = .ok .non (h ++ [.ins c [(0, .int 11), (1, .str (NS 11))]]) := by
  have e0 : execS (qC P (N + 1) b) (.expr (.call 6 [.var 0])) [some (.ref h.length)] (h ++ [.ins c []]) = .nx [some (.ref h.length)] (h ++ [.ins c [(0, .int 10), (1, .str (NS 10))]]) :=
    expr_ev (d := .non) ((call_ev (C := qC P (N + 1) b) (args1 (d := .ref h.length) rfl)).trans (init6 (N := N) hb))
  have e1 := seta_ev (C := qC P (N + 1) b) (f := 0) (a := h.length) (c := c) (fs := [(0, .int 10), (1, .str (NS 10))]) (o := .var 0) (e := .glb 2) (env := [some (.ref h.length)]) (h := h ++ [.ins c [(0, .int 10), (1, .str (NS 10))]]) (h1 := h ++ [.ins c [(0, .int 10), (1, .str (NS 10))]]) (h2 := h ++ [.ins c [(0, .int 10), (1, .str (NS 10))]]) (d := .int 11) rfl rfl at_mid (by show 2 < 900; omega) hb
  rw [set_mid] at e1
  have e2 := seta_ev (C := qC P (N + 1) b) (f := 1) (a := h.length) (c := c) (fs := [(0, .int 11), (1, .str (NS 10))]) (o := .var 0) (e := .bin .Add (.glb 0) (.glb 1)) (env := [some (.ref h.length)]) (h := h ++ [.ins c [(0, .int 11), (1, .str (NS 10))]]) (h1 := h ++ [.ins c [(0, .int 11), (1, .str (NS 10))]]) (h2 := h ++ [.ins c [(0, .int 11), (1, .str (NS 10))]]) (d := .str (NS 11)) rfl rfl at_mid (by show 2 < 900; omega) hb
  rw [set_mid] at e2
  exact call_run (f := ⟨1, 1, b16, false, false⟩) rfl rfl rfl rfl (.inr ⟨rfl, _, (ss_nx e0).trans ((ss_nx e1).trans ((ss_nx e2).trans rfl))⟩)
def nmS (s : Nat) : List Nat := if s = 1 then [116, 104, 114, 101, 101] else if s = 2 then [108, 117, 104, 110] else if s = 3 then [101, 108, 101, 118, 101, 110] else [115, 117, 109]
theorem scheme_call (hs : s < 4) : callF P (n + 6) b 18 [.str (nmS s)] h = .ok (.ref h.length) (h ++ [.ins (9 + s) (schF s)]) := by
  revert s
  refine @(four ?_ ?_ ?_ ?_)
  · have k1 : (ev (pC P (n + 4) h false) (.new 9 [])).v [some (.str (nmS 0))] h = .ok (.ref h.length) (h ++ [.ins (9 + 0) (schF 0)]) :=
      new_ev (P := P) (N := n + 4) (b := h.length) (k := 6) rfl args_nil (init6 (N := n + 3) (Nat.le_refl _))
    exact pure_obj (f := ⟨1, 1, b18, true, false⟩) (n := n + 4) rfl rfl rfl ((ss_nx ((ite_f (h1 := h) rfl).trans rfl)).trans ((ss_nx ((ite_f (h1 := h) rfl).trans rfl)).trans ((ss_nx ((ite_f (h1 := h) rfl).trans rfl)).trans (ss_ret (ret_ev k1))))) at_mid (Nat.le_refl _)
  · have k1 : (ev (pC P (n + 4) h false) (.new 10 [])).v [some (.str (nmS 1))] h = .ok (.ref h.length) (h ++ [.ins (9 + 1) (schF 1)]) :=
      new_ev (P := P) (N := n + 4) (b := h.length) (k := 6) rfl args_nil (init6 (N := n + 3) (Nat.le_refl _))
    exact pure_obj (f := ⟨1, 1, b18, true, false⟩) (n := n + 4) rfl rfl rfl (ss_ret ((ite_t (h1 := h) rfl).trans (ss_ret (ret_ev k1)))) at_mid (Nat.le_refl _)
  · have k1 : (ev (pC P (n + 4) h false) (.new 11 [])).v [some (.str (nmS 2))] h = .ok (.ref h.length) (h ++ [.ins (9 + 2) (schF 2)]) :=
      new_ev (P := P) (N := n + 4) (b := h.length) (k := 6) rfl args_nil (init6 (N := n + 3) (Nat.le_refl _))
    exact pure_obj (f := ⟨1, 1, b18, true, false⟩) (n := n + 4) rfl rfl rfl ((ss_nx ((ite_f (h1 := h) rfl).trans rfl)).trans (ss_ret ((ite_t (h1 := h) rfl).trans (ss_ret (ret_ev k1))))) at_mid (Nat.le_refl _)
  · have k1 : (ev (pC P (n + 4) h false) (.new 12 [])).v [some (.str (nmS 3))] h = .ok (.ref h.length) (h ++ [.ins (9 + 3) (schF 3)]) :=
      new_ev (P := P) (N := n + 4) (b := h.length) (k := 16) rfl args_nil (init16 (N := n + 2) (Nat.le_refl _))
    exact pure_obj (f := ⟨1, 1, b18, true, false⟩) (n := n + 4) rfl rfl rfl ((ss_nx ((ite_f (h1 := h) rfl).trans rfl)).trans ((ss_nx ((ite_f (h1 := h) rfl).trans rfl)).trans (ss_ret ((ite_t (h1 := h) rfl).trans (ss_ret (ret_ev k1)))))) at_mid (Nat.le_refl _)
end
theorem txr_mem {r : List Nat} {c : Nat} (h : c ∈ txr r) : ∃ d ∈ r, c = cd d := by
  unfold txr at h
  obtain ⟨d, hd, rfl⟩ := List.mem_map.mp (List.mem_reverse.mp h)
  exact ⟨d, hd, rfl⟩
def Bare (r : List Nat) : Prop := ∀ d ∈ r, d < 10
theorem Bare.dg {r : List Nat} (h : Bare r) : Dg r := fun d hd => by have := h d hd; omega
theorem ok_cons {s d : Nat} {r : List Nat} (h : Ok s (d :: r)) : d < bs s ∧ Bare r := by
  refine ⟨h 0 (by simp), fun x hx => ?_⟩
  obtain ⟨i, hi, rfl⟩ := List.getElem_of_mem hx
  have := h (i + 1) (by simpa using hi)
  rw [g_get (by simpa using hi)] at this
  unfold sg at this
  rw [if_neg (by omega)] at this
  exact this
theorem cons_ok {s d : Nat} {r : List Nat} (h : d < bs s) (hb : Bare r) : Ok s (d :: r) := fun i hi => by
  cases i with
  | zero => exact h
  | succ i =>
    have hi' : i < r.length := by simpa using hi
    rw [g_get hi]
    unfold sg
    rw [if_neg (by omega)]
    exact hb _ (List.getElem_mem hi')
section
variable {n b s : Nat} {h : Heap} {a : Nat}
theorem dgc_call {c : Nat} (hc : 48 ≤ c ∧ c ≤ 57) : callF P (n + 2) b 3 [.str [c]] h = .ok (.bl true) h := by
  have e1 : cmpop .LtE (.str [48]) (.str [c]) h = some true := by
    show some (!(if c < 48 then true else if 48 < c then false else ltL [] [])) = _
    rw [if_neg (by omega)]
    split <;> rfl
  have e2 : cmpF .LtE (.str [c]) (.str [57]) h = .ok (.bl true) h := by
    show optR ((some (!(if 57 < c then true else if c < 57 then false else ltL [] []))).map D.bl) h = _
    rw [if_neg (by omega)]
    split <;> rfl
  exact pure_ret (f := ⟨1, 1, b3, true, false⟩) rfl rfl rfl (ss_ret (ret_ev ((chain_ev (x := .str [48]) (y := .str [c]) (z := .str [57]) rfl rfl e1 rfl).trans e2))) rfl
theorem digs_call {r : List Nat} {lo hi : Int} (h0 : lo ≤ r.length) (hh : (r.length : Int) ≤ hi) (hl : r.length < 900) (hd : Bare r) : callF P (n + 3) b 4 [.str (txr r), .int lo, .int hi] h = .ok (.bl true) h := by
  have hfu : 4000 ≤ P.fuel := hf
  obtain ⟨h2, e⟩ := all_ev (C := pC P (n + 1) h false) (own := [3]) (tg := .nm 3) (it := .var 0) (elt := .call 3 [.var 3]) (env := [some (.str (txr r)), some (.int lo), some (.int hi), none]) (E' := fun d => [some (.str (txr r)), some (.int lo), some (.int hi), some d]) (ds := (txr r).map fun c => .str [c])
    (iter_ev (x := .str (txr r)) (h1 := h) rfl rfl rfl) walks_str (fun d _ t => rfl) (fun d hd' t => by
      obtain ⟨c, hc, rfl⟩ := List.mem_map.mp hd'
      obtain ⟨d, hd2, rfl⟩ := txr_mem hc
      have := hd d hd2
      have hcd : cd d = 48 + d := by unfold cd; rw [if_neg (by omega)]
      exact (call_ev (args1 rfl)).trans (dgc_call (n := n) (by omega))) (by rw [List.length_map, txr_len]; show r.length < P.fuel; omega) (by rw [List.length_map, txr_len]; unfold sizeLine; omega)
  exact pure_ret (f := ⟨3, 4, b4, true, false⟩) (n := n + 1) rfl rfl rfl (ss_ret (ret_ev (and_v (callP (k := 2) (es := [.var 0, .var 1, .var 2]) (args_cons (d := .str (txr r)) (h1 := h) rfl (args_cons (d := .int lo) (h1 := h) rfl (args1 (d := .int hi) (h1 := h) rfl))) (isText_call (P := P) (k := 2) (n := n) (s := txr r) (lo := lo) (hi := hi) rfl (by rw [txr_len]; exact h0) (by rw [txr_len]; exact hh))) e))) rfl
theorem isS_call (hs : s < 4) : callF P (n + 2) b 19 [.str (nmS s)] h = .ok (.bl true) h := by
  revert s
  refine @(four ?_ ?_ ?_ ?_) <;> exact pure_ret (f := ⟨1, 1, b19, true, false⟩) (n := n) (h' := h) rfl rfl rfl (ss_ret (ret_ev (and_v (h1 := h) (h2 := h) rfl rfl))) rfl
theorem bare_call {r : List Nat} (hb : Bare r) (h1 : 1 ≤ r.length) (h2 : r.length ≤ 11) : callF P (n + 5) b 20 [.str (txr r)] h = .ok (.bl true) h := by
  have k1 := callP (P := P) (n := n + 3) (h0 := h) (tl := false) (k := 4) (es := [.var 0, .bin .Sub (.glb 7) (.cint 1), .bin .Sub (.glb 8) (.cint 1)]) (env := [some (.str (txr r))]) (h := h) (args_cons (d := .str (txr r)) (h1 := h) rfl (args_cons (d := .int 1) (h1 := h) rfl (args1 (d := .int 11) (h1 := h) rfl))) (digs_call (n := n + 1) (lo := 1) (hi := 11) (by omega) (by omega) (by omega) hb)
  exact pure_ret (f := ⟨1, 1, b20, true, false⟩) (n := n + 3) rfl rfl rfl (ss_ret (ret_ev k1)) rfl
theorem cut1 {t : List Nat} {c : Nat} {C : Ctx} {e : E} {env : Env} {h h1 : Heap} (he : (ev C e).v env h = .ok (.str (t ++ [c])) h1) : (ev C (.slc e .cnon (.neg (.cint 1)))).v env h = .ok (.str t) h1 := by
  show (Res.bind ((ev C e).v env h) fun x h => (partF false (ev C .cnon).v env h).bind fun l h => (partF true (ev C (.neg (.cint 1))).v env h).bind fun u h => slcV x l u h) = _
  rw [he]
  show Res.ok (D.str (((t ++ [c]).take (clip (t ++ [c]).length (-1))).drop 0)) h1 = _
  have hc : clip (t ++ [c]).length (-1) = t.length := by
    unfold clip
    rw [List.length_append, List.length_singleton, if_neg (by omega), if_pos (by omega)]
    omega
  rw [hc, List.drop_zero, List.take_left']
  rfl
theorem num_call {r : List Nat} {d : Nat} (hs : s < 4) (ok : Ok s (d :: r)) (h1 : 1 ≤ r.length) (h2 : r.length ≤ 11) : callF P (n + 7) b 21 [.str (txr (d :: r)), .str (nmS s)] h = .ok (.bl true) h := by
  obtain ⟨o1, o2⟩ := ok_cons ok
  have ce : ∀ s, s < 4 → cmpF .Eq (.str (nmS s)) (.str [101, 108, 101, 118, 101, 110]) h = .ok (.bl (decide (s = 3))) h := four (eqS_f.trans rfl) (eqS_f.trans rfl) (eqS_f.trans rfl) (eqS_f.trans rfl)
  have ce := ce s hs
  have k2 : ∀ (x : Bare (d :: r)), (ev (pC P (n + 5) h false) (.call 4 [.var 0, .glb 7, .glb 8])).v [some (.str (txr (d :: r))), some (.str (nmS s))] h = .ok (.bl true) h := fun x =>
    callP (P := P) (n := n + 5) (h0 := h) (tl := false) (k := 4) (args_cons (d := .str (txr (d :: r))) (h1 := h) rfl (args_cons (d := .int 2) (h1 := h) rfl (args1 (d := .int 12) (h1 := h) rfl))) (digs_call (n := n + 3) (lo := 2) (hi := 12) (by rw [List.length_cons]; omega) (by rw [List.length_cons]; omega) (by rw [List.length_cons]; omega) x)
  have t1 : (ev (pC P (n + 5) h false) (.isi (.var 0) [.str])).t [some (.str (txr (d :: r))), some (.str (nmS s))] h = .ok true h := rfl
  have t2 : (ev (pC P (n + 5) h false) (.cmp .Eq (.var 1) (.glb 6))).t [some (.str (txr (d :: r))), some (.str (nmS s))] h = .ok (decide (s = 3)) h :=
    tru_v ((cmp_ev (x := .str (nmS s)) (y := .str [101, 108, 101, 118, 101, 110]) (h1 := h) (h2 := h) rfl rfl).trans ce) rfl
  have t3 : (ev (pC P (n + 5) h false) (.bm .endswith (.var 0) [.glb 1])).t [some (.str (txr (d :: r))), some (.str (nmS s))] h = .ok (decide (d = 10)) h := by
    have e1 : (ev (pC P (n + 5) h false) (.bm .endswith (.var 0) [.glb 1])).v [some (.str (txr (d :: r))), some (.str (nmS s))] h = .ok (.bl (decide (d = 10))) h := by
      refine (bm_ev (x := .str (txr (d :: r))) (h1 := h) rfl rfl (args1 (d := .str [120]) (h1 := h) rfl)).trans ?_
      show Res.ok (D.bl (isPre [120] (txr (d :: r)).reverse)) h = _
      rw [txr_cons, List.reverse_append]
      show Res.ok (D.bl (if 120 = cd d then isPre [] _ else false)) h = _
      by_cases h0 : d = 10
      · subst h0; rfl
      · rw [decide_eq_false h0, if_neg (by unfold cd; rw [if_neg h0]; have := (bs_or s); omega)]
    exact tru_v e1 rfl
  by_cases h3 : s = 3
  · by_cases h0 : d = 10
    · rw [decide_eq_true h3] at t2
      rw [decide_eq_true h0] at t3
      have e1 : (ev (pC P (n + 5) h false) (.slc (.var 0) .cnon (.neg (.cint 1)))).v [some (.str (txr (d :: r))), some (.str (nmS s))] h = .ok (.str (txr r)) h :=
        cut1 (c := cd d) (by rw [← txr_cons]; rfl)
      have k1 := callP (P := P) (n := n + 5) (h0 := h) (tl := false) (k := 20) (args1 e1) (bare_call (n := n + 1) o2 h1 h2)
      exact pure_ret (f := ⟨2, 2, b21, true, false⟩) (n := n + 5) rfl rfl rfl (ss_ret ((ite_t (and_tt t1 (and_tt t2 t3))).trans (ss_ret (ret_ev k1)))) rfl
    · rw [decide_eq_true h3] at t2
      rw [decide_eq_false h0] at t3
      have hbs : bs s = 11 := by unfold bs; rw [if_pos h3]
      exact pure_ret (f := ⟨2, 2, b21, true, false⟩) (n := n + 5) rfl rfl rfl ((ss_nx ((ite_f (and_tt t1 (and_tt t2 t3))).trans rfl)).trans (ss_ret (ret_ev (k2 fun x hx => by
        rcases List.mem_cons.mp hx with rfl | hx
        · omega
        · exact o2 x hx)))) rfl
  · rw [decide_eq_false h3] at t2
    have hbs : bs s = 10 := by unfold bs; rw [if_neg h3]
    exact pure_ret (f := ⟨2, 2, b21, true, false⟩) (n := n + 5) rfl rfl rfl ((ss_nx ((ite_f (and_tt t1 (and_tf t2))).trans rfl)).trans (ss_ret (ret_ev (k2 fun x hx => by
      rcases List.mem_cons.mp hx with rfl | hx
      · omega
      · exact o2 x hx)))) rfl
/-- a demand of two things -/
theorem dem2_ev {e1 e2 : E} {env : Env} {h0 : Heap} (k0 : (ev (pC P (n + 1) h0 false) e1).v env h = .ok (.bl true) h) (k1 : (ev (pC P (n + 1) h0 false) e2).v env h = .ok (.bl true) h) :
    execS (pC P (n + 1) h0 false) (.expr (.call 0 [.lst [e1, e2]])) env h = .nx env (h ++ [.lst [.bl true, .bl true]]) := by
  have l1 := lst_ev (args_cons k0 (args1 k1)) (by show 2 ≤ 1000; omega)
  exact expr_ev (callP (P := P) (n := n + 1) (h0 := h0) (tl := false) (k := 0) (args1 l1) (demand_call (P := P) (k := 0) (n := n) (xs := [.bl true, .bl true]) rfl hf (ref_items at_mid) (fun d hd => by
      rcases List.mem_cons.mp hd with rfl | hd
      · rfl
      · exact List.mem_singleton.mp hd) (by show 2 < 4000; omega)))
end
theorem txr_at {r : List Nat} {i : Nat} (hi : i < r.length) (hj : r.length - 1 - i < (txr r).length) : (txr r)[r.length - 1 - i] = cd (gd r i) := by
  have e : (txr r)[r.length - 1 - i]? = some (cd (gd r i)) := by
    unfold txr
    rw [List.getElem?_reverse (by rw [List.length_map]; omega), List.length_map, show r.length - 1 - (r.length - 1 - i) = i by omega, List.getElem?_map, List.getElem?_eq_getElem hi, g_get hi]
    rfl
  rw [List.getElem?_eq_getElem hj] at e
  exact Option.some.inj e
theorem txr_set {r : List Nat} {i o : Nat} (hi : i < r.length) : (txr r).take (r.length - 1 - i) ++ [cd o] ++ (txr r).drop (r.length - 1 - i + 1) = txr (r.set i o) := by
  unfold txr
  rw [List.take_reverse, List.drop_reverse, List.length_map, List.set_eq_take_append_cons_drop, if_pos hi, List.map_append, List.map_cons, List.reverse_append, List.reverse_cons, ← List.map_drop, ← List.map_take,
    show r.length - (r.length - 1 - i) = i + 1 by omega, show r.length - (r.length - 1 - i + 1) = i by omega]
theorem in_NS {m d : Nat} {h : Heap} (hm : m = 10 ∨ m = 11) (hd : d ≤ 10) : cmpF .In (.str [cd d]) (.str (NS m)) h = .ok (.bl (decide (d < m))) h := by
  show optR ((some ((NS m).any (· == cd d))).map D.bl) h = _
  have : (NS m).any (· == cd d) = decide (d < m) := by
    have key : ∀ d, d < 11 → (NS 10).any (· == cd d) = decide (d < 10) ∧ (NS 11).any (· == cd d) = decide (d < 11) := by decide
    rcases hm with rfl | rfl
    · exact (key d (by omega)).1
    · exact (key d (by omega)).2
  rw [this]
  rfl
theorem sg_or (s k : Nat) : sg s k = 10 ∨ sg s k = 11 := by have := sg_le s k; omega
theorem eqL_cd {d o : Nat} (hd : d ≤ 10) (ho : o ≤ 10) : eqL [cd d] [cd o] = decide (d = o) := by
  rw [eqL_one]
  exact decide_eq_decide.mpr ⟨cd_inj hd ho, fun e => by rw [e]⟩
section
variable {n b s : Nat} {h : Heap} {a : Nat}
theorem signIn_call {r : List Nat} {i : Nat} (hi : i < r.length) : callF P (n + 2) b 22 [.str (txr r), .int (i : Int)] h = .ok (.str [cd (gd r i)]) h := by
  have k1 : (ev (pC P n h false) (.bi .len [.var 0])).v [some (.str (txr r)), iv i] h = .ok (.int (r.length : Int)) h := by
    rw [← txr_len]
    exact lenS_ev rfl
  have k2 := subN_ev (c := 1) (by omega) k1 one_ev
  have k3 := subN_ev (c := i) (e := .var 1) (h2 := h) (by omega) k2 rfl
  have k4 := (idx_ev (e := .var 0) (x := .str (txr r)) (h1 := h) rfl k3).trans (idxS_f (by rw [txr_len]; omega))
  rw [txr_at hi] at k4
  exact pure_ret (f := ⟨2, 2, b22, true, false⟩) (n := n) rfl rfl rfl (ss_ret (ret_ev k4)) rfl
theorem with_call {r : List Nat} {i o : Nat} (hi : i < r.length) (hl : r.length ≤ 900) : callF P (n + 2) b 23 [.str (txr r), .int (i : Int), .str [cd o]] h = .ok (.str (txr (r.set i o))) h := by
  have k1 : (ev (pC P n h false) (.bi .len [.var 0])).v [some (.str (txr r)), iv i, some (.str [cd o]), none] h = .ok (.int (r.length : Int)) h := by
    rw [← txr_len]
    exact lenS_ev rfl
  have k2 := subN_ev (c := 1) (by omega) k1 one_ev
  have k3 := subN_ev (c := i) (e := .var 1) (h2 := h) (by omega) k2 rfl
  have s1 : execS (pC P n h false) (.set 3 (.bin .Sub (.bin .Sub (.bi .len [.var 0]) (.cint 1)) (.var 1))) [some (.str (txr r)), iv i, some (.str [cd o]), none] h = .nx [some (.str (txr r)), iv i, some (.str [cd o]), iv (r.length - 1 - i)] h := set_ev k3
  have hset := txr_set (o := o) hi
  have hlt : r.length - 1 - i + 1 ≤ (txr r).length := by rw [txr_len]; omega
  generalize r.length - 1 - i = j at *
  have e1 : (ev (pC P n h false) (.slc (.var 0) .cnon (.var 3))).v [some (.str (txr r)), iv i, some (.str [cd o]), iv j] h = .ok (.str ((txr r).take j)) h := slcS_to (h1 := h) rfl rfl rfl (by omega)
  have e2 : (ev (pC P n h false) (.bin .Add (.var 3) (.cint 1))).v [some (.str (txr r)), iv i, some (.str [cd o]), iv j] h = .ok (.int ((j + 1 : Nat) : Int)) h := addN_ev (h1 := h) rfl one_ev
  have e3 : (ev (pC P n h false) (.slc (.var 0) (.bin .Add (.var 3) (.cint 1)) .cnon)).v [some (.str (txr r)), iv i, some (.str [cd o]), iv j] h = .ok (.str ((txr r).drop (j + 1))) h := slcS_from (h1 := h) rfl e2 rfl hlt
  have hl2 : (txr r).length ≤ 900 := by rw [txr_len]; exact hl
  have e4 : (ev (pC P n h false) (.bin .Add (.slc (.var 0) .cnon (.var 3)) (.var 2))).v [some (.str (txr r)), iv i, some (.str [cd o]), iv j] h = .ok (.str ((txr r).take j ++ [cd o])) h := (bin_ev (y := .str [cd o]) (h2 := h) e1 rfl).trans (cat_f (by rw [List.length_take, List.length_singleton]; omega))
  have e5 := (bin_ev (op := .Add) e4 e3).trans (cat_f (by rw [List.length_append, List.length_take, List.length_drop, List.length_singleton]; omega))
  rw [hset] at e5
  exact pure_ret (f := ⟨3, 4, b23, true, false⟩) (n := n) rfl rfl rfl ((ss_nx s1).trans (ss_ret (ret_ev e5))) rfl
theorem wor_ev {N : Nat} {env : Env} {e1 e2 : E} {i d : Nat} {h0 : Heap} (hs : s < 4) (q : Sch s h a) (hi : i ≤ 900) (hd : d ≤ 10) (h0' : env[0]? = some (some (.ref a))) (k1 : (ev (pC P (N + 3) h0 false) e1).v env h = .ok (.int (i : Int)) h) (k2 : (ev (pC P (N + 3) h0 false) e2).v env h = .ok (.str [cd d]) h) :
    (ev (pC P (N + 3) h0 false) (.mth 1 (.var 0) [e1, e2])).v env h = .ok (.int ((wor s i d : Nat) : Int)) h :=
  mth_ev (P := P) (N := N + 3) (b := h0.length) (k := worI s) (var_ev h0') q (mt1 s hs) (args_cons k1 (args1 k2)) (wor_call (n := N) hs q hi hd)
theorem cun_call {i d o : Nat} (hs : s < 4) (q : Sch s h a) (hi : i ≤ 900) (hd : d ≤ 10) (ho : o ≤ 10) : callF P (n + 5) b 24 [.ref a, .int (i : Int), .str [cd d], .str [cd o]] h = .ok (.bl (cun s i d o)) h := by
  have c1 : (ev (pC P (n + 3) h false) (.cmp .Eq (.var 2) (.var 3))).t [some (.ref a), iv i, some (.str [cd d]), some (.str [cd o])] h = .ok (decide (d = o)) h := by
    rw [← eqL_cd hd ho]
    exact tru_v ((cmp_ev (x := .str [cd d]) (y := .str [cd o]) (h1 := h) (h2 := h) rfl rfl).trans eqS_f) rfl
  unfold cun
  by_cases h0 : d = o
  · rw [decide_eq_true h0] at c1
    rw [decide_eq_false (fun e => e h0)]
    exact pure_ret (f := ⟨4, 4, b24, true, false⟩) (n := n + 3) rfl rfl rfl (ss_ret ((ite_t c1).trans (ss_ret (ret_ev rfl)))) rfl
  · rw [decide_eq_false h0] at c1
    rw [decide_eq_true h0, Bool.true_and]
    have k1 : (ev (pC P (n + 3) h false) (.mth 1 (.var 0) [.var 1, .var 2])).v [some (.ref a), iv i, some (.str [cd d]), some (.str [cd o])] h = .ok (.int ((wor s i d : Nat) : Int)) h := wor_ev (N := n) hs q hi hd rfl rfl rfl
    have k2 : (ev (pC P (n + 3) h false) (.mth 1 (.var 0) [.var 1, .var 3])).v [some (.ref a), iv i, some (.str [cd d]), some (.str [cd o])] h = .ok (.int ((wor s i o : Nat) : Int)) h := wor_ev (N := n) hs q hi ho rfl rfl rfl
    have k3 : (ev (pC P (n + 3) h false) (.bin .Sub (.mth 1 (.var 0) [.var 1, .var 2]) (.mth 1 (.var 0) [.var 1, .var 3]))).v [some (.ref a), iv i, some (.str [cd d]), some (.str [cd o])] h = .ok (.int ((wor s i d : Int) - (wor s i o : Int))) h := (bin_ev k1 k2).trans rfl
    have k4 := (bin_ev (op := .Mod) (e2 := .attr (.var 0) 0) (y := .int (bs s : Int)) k3 (base_ev rfl q)).trans (mod_f (bs_pos s))
    have k5 := (cmp_ev (op := .Eq) (e2 := .cint 0) (y := .int 0) k4 rfl).trans (eqF_int _ _ _)
    exact pure_ret (f := ⟨4, 4, b24, true, false⟩) (n := n + 3) rfl rfl rfl ((ss_nx ((ite_f c1).trans rfl)).trans (ss_ret (ret_ev k5))) rfl
theorem pw_call {i d o : Nat} (hs : s < 4) (q : Sch s h a) (hi : i < 900) (hd : d ≤ 10) (ho : o ≤ 10) : callF P (n + 5) b 25 [.ref a, .int (i : Int), .str [cd d], .str [cd o]] h = .ok (.int ((pw s i d o : Nat) : Int)) h := by
  have k1 : (ev (pC P (n + 3) h false) (.mth 1 (.var 0) [.var 1, .var 2])).v [some (.ref a), iv i, some (.str [cd d]), some (.str [cd o])] h = .ok (.int ((wor s i d : Nat) : Int)) h := wor_ev (N := n) hs q (by omega) hd rfl rfl rfl
  have k0 : (ev (pC P (n + 3) h false) (.bin .Add (.var 1) (.cint 1))).v [some (.ref a), iv i, some (.str [cd d]), some (.str [cd o])] h = .ok (.int ((i + 1 : Nat) : Int)) h := addN_ev (h1 := h) rfl one_ev
  have k2 : (ev (pC P (n + 3) h false) (.mth 1 (.var 0) [.bin .Add (.var 1) (.cint 1), .var 3])).v [some (.ref a), iv i, some (.str [cd d]), some (.str [cd o])] h = .ok (.int ((wor s (i + 1) o : Nat) : Int)) h := wor_ev (N := n) hs q (by omega) ho rfl k0 rfl
  exact pure_ret (f := ⟨4, 4, b25, true, false⟩) (n := n + 3) rfl rfl rfl (ss_ret (ret_ev (addN_ev k1 k2))) rfl
theorem may_call {i d o : Nat} (hs : s < 4) (q : Sch s h a) (hd : d ≤ 10) (ho : o ≤ 10) : callF P (n + 5) b 26 [.ref a, .int (i : Int), .str [cd d], .str [cd o]] h = .ok (.bl (mayx s i d o)) h := by
  have c1 : (ev (pC P (n + 3) h false) (.cmp .Eq (.var 2) (.var 3))).t [some (.ref a), iv i, some (.str [cd d]), some (.str [cd o])] h = .ok (decide (d = o)) h := by
    rw [← eqL_cd hd ho]
    exact tru_v ((cmp_ev (x := .str [cd d]) (y := .str [cd o]) (h1 := h) (h2 := h) rfl rfl).trans eqS_f) rfl
  unfold mayx
  by_cases h0 : d = o
  · rw [decide_eq_true h0] at c1
    rw [decide_eq_false (fun e => e h0)]
    exact pure_ret (f := ⟨4, 4, b26, true, false⟩) (n := n + 3) rfl rfl rfl (ss_ret ((ite_t c1).trans (ss_ret (ret_ev rfl)))) rfl
  · rw [decide_eq_false h0] at c1
    rw [decide_eq_true h0, Bool.true_and]
    have k0 : (ev (pC P (n + 3) h false) (.bin .Add (.var 1) (.cint 1))).v [some (.ref a), iv i, some (.str [cd d]), some (.str [cd o])] h = .ok (.int ((i + 1 : Nat) : Int)) h := addN_ev (h1 := h) rfl one_ev
    have k1 : (ev (pC P (n + 3) h false) (.mth 3 (.var 0) [.bin .Add (.var 1) (.cint 1)])).v [some (.ref a), iv i, some (.str [cd d]), some (.str [cd o])] h = .ok (.str (NS (sg s (i + 1)))) h :=
      mth_ev (P := P) (N := n + 3) (b := h.length) (k := 9) rfl q (mt3 s hs) (args1 k0) (sgs_call (n := n + 2) q)
    have k2 : (ev (pC P (n + 3) h false) (.mth 3 (.var 0) [.var 1])).v [some (.ref a), iv i, some (.str [cd d]), some (.str [cd o])] h = .ok (.str (NS (sg s i))) h :=
      mth_ev (P := P) (N := n + 3) (b := h.length) (k := 9) rfl q (mt3 s hs) (args1 (d := .int (i : Int)) (h1 := h) rfl) (sgs_call (n := n + 2) q)
    have e1 : (ev (pC P (n + 3) h false) (.cmp .In (.var 2) (.mth 3 (.var 0) [.bin .Add (.var 1) (.cint 1)]))).v [some (.ref a), iv i, some (.str [cd d]), some (.str [cd o])] h = .ok (.bl (decide (d < sg s (i + 1)))) h :=
      (cmp_ev (x := .str [cd d]) (h1 := h) rfl k1).trans (in_NS (sg_or _ _) hd)
    have e2 : (ev (pC P (n + 3) h false) (.cmp .In (.var 3) (.mth 3 (.var 0) [.var 1]))).v [some (.ref a), iv i, some (.str [cd d]), some (.str [cd o])] h = .ok (.bl (decide (o < sg s i))) h :=
      (cmp_ev (x := .str [cd o]) (h1 := h) rfl k2).trans (in_NS (sg_or _ _) ho)
    cases hb : decide (d < sg s (i + 1)) with
    | true =>
      rw [hb] at e1
      rw [Bool.true_and]
      exact pure_ret (f := ⟨4, 4, b26, true, false⟩) (n := n + 3) rfl rfl rfl ((ss_nx ((ite_f c1).trans rfl)).trans (ss_ret (ret_ev (and_v e1 e2)))) rfl
    | false =>
      rw [hb] at e1
      rw [Bool.false_and]
      exact pure_ret (f := ⟨4, 4, b26, true, false⟩) (n := n + 3) rfl rfl rfl ((ss_nx ((ite_f c1).trans rfl)).trans (ss_ret (ret_ev (and_vf e1)))) rfl
theorem xun_call {i d o : Nat} (hs : s < 4) (q : Sch s h a) (hi : i < 900) (hd : d ≤ 10) (ho : o ≤ 10) : callF P (n + 8) b 27 [.ref a, .int (i : Int), .str [cd d], .str [cd o]] h = .ok (.bl (xun s i d o)) h := by
  have k1 : (ev (pC P (n + 6) h false) (.call 26 [.var 0, .var 1, .var 2, .var 3])).v [some (.ref a), iv i, some (.str [cd d]), some (.str [cd o]), none] h = .ok (.bl (mayx s i d o)) h :=
    callP (k := 26) (args_cons (d := .ref a) (h1 := h) rfl (args_cons (d := .int (i : Int)) (h1 := h) rfl (args_cons (d := .str [cd d]) (h1 := h) rfl (args1 (d := .str [cd o]) (h1 := h) rfl)))) (may_call (n := n + 2) hs q hd ho)
  have c1 := not_t (tru_v k1 rfl)
  unfold xun
  cases hm : mayx s i d o with
  | false =>
    rw [hm] at c1
    exact pure_ret (f := ⟨4, 5, b27, true, false⟩) (n := n + 6) rfl rfl rfl (ss_ret ((ite_t c1).trans (ss_ret (ret_ev rfl)))) rfl
  | true =>
    rw [hm] at c1
    rw [Bool.true_and]
    have k2 : (ev (pC P (n + 6) h false) (.call 25 [.var 0, .var 1, .var 2, .var 3])).v [some (.ref a), iv i, some (.str [cd d]), some (.str [cd o]), none] h = .ok (.int ((pw s i d o : Nat) : Int)) h :=
      callP (k := 25) (args_cons (d := .ref a) (h1 := h) rfl (args_cons (d := .int (i : Int)) (h1 := h) rfl (args_cons (d := .str [cd d]) (h1 := h) rfl (args1 (d := .str [cd o]) (h1 := h) rfl)))) (pw_call (n := n + 2) hs q hi hd ho)
    have s1 : execS (pC P (n + 6) h false) (.set 4 (.call 25 [.var 0, .var 1, .var 2, .var 3])) [some (.ref a), iv i, some (.str [cd d]), some (.str [cd o]), none] h = .nx [some (.ref a), iv i, some (.str [cd d]), some (.str [cd o]), iv (pw s i d o)] h := set_ev k2
    generalize pw s i d o = p at *
    have k3 : (ev (pC P (n + 6) h false) (.call 25 [.var 0, .var 1, .var 3, .var 2])).v [some (.ref a), iv i, some (.str [cd d]), some (.str [cd o]), iv p] h = .ok (.int ((pw s i o d : Nat) : Int)) h :=
      callP (k := 25) (args_cons (d := .ref a) (h1 := h) rfl (args_cons (d := .int (i : Int)) (h1 := h) rfl (args_cons (d := .str [cd o]) (h1 := h) rfl (args1 (d := .str [cd d]) (h1 := h) rfl)))) (pw_call (n := n + 2) hs q hi ho hd)
    have k4 : (ev (pC P (n + 6) h false) (.bin .Sub (.var 4) (.call 25 [.var 0, .var 1, .var 3, .var 2]))).v [some (.ref a), iv i, some (.str [cd d]), some (.str [cd o]), iv p] h = .ok (.int ((p : Int) - (pw s i o d : Int))) h := (bin_ev (x := .int (p : Int)) (h1 := h) rfl k3).trans rfl
    have k5 := (bin_ev (op := .Mod) (e2 := .attr (.var 0) 0) (y := .int (bs s : Int)) k4 (base_ev rfl q)).trans (mod_f (bs_pos s))
    have k6 := (cmp_ev (op := .Eq) (e2 := .cint 0) (y := .int 0) k5 rfl).trans (eqF_int _ _ _)
    exact pure_ret (f := ⟨4, 5, b27, true, false⟩) (n := n + 6) rfl rfl rfl ((ss_nx ((ite_f c1).trans rfl)).trans ((ss_nx s1).trans (ss_ret (ret_ev k6)))) rfl
end
theorem fm_snoc {α β : Type} (f : α → List β) (l : List α) (x : α) : (l ++ [x]).flatMap f = l.flatMap f ++ f x := by
  rw [List.flatMap_append, List.flatMap_cons, List.flatMap_nil, List.append_nil]
theorem filt_snoc {α : Type} (p : α → Bool) (l : List α) (x : α) : (l ++ [x]).filter p = l.filter p ++ if p x then [x] else [] := by
  rw [List.filter_append, List.filter_cons, List.filter_nil]
section
variable {n b s : Nat} {h : Heap} {a : Nat}
theorem chg_call {r : List Nat} (hs : s < 4) (q : Sch s h a) (hd : Dg r) (hl : r.length ≤ 100) : callF P (n + 9) b 28 [.ref a, .str (txr r)] h = .ok (.ref h.length) (h ++ [HV.lst (sD ((chg s r).map txr))]) := by
  have hfu : 4000 ≤ P.fuel := hf
  have s1 : execS (pC P (n + 7) h false) (.set 2 (.lst [])) [some (.ref a), some (.str (txr r)), none, none, none, none] h = .nx [some (.ref a), some (.str (txr r)), some (.ref h.length), none, none, none] (h ++ [HV.lst []]) := set_ev (lst_ev (ds := []) args_nil (by show 0 ≤ 1000; omega))
  have k1 : (ev (pC P (n + 7) h false) (.bi .len [.var 1])).v [some (.ref a), some (.str (txr r)), some (.ref h.length), none, none, none] (h ++ [HV.lst []]) = .ok (.int (r.length : Int)) (h ++ [HV.lst []]) := by
    rw [← txr_len]
    exact lenS_ev rfl
  have hr := rng1_ev k1 (rs_of (by omega) (by omega))
  rw [Int.toNat_natCast] at hr
  have hW := walks_rng (h := h) (lo := 0) (n := r.length)
  obtain ⟨e2, s3, q1, x3, x4, x5, L, rfl, rfl, rfl, _⟩ := for_rule (C := pC P (n + 7) h false) (tg := .nm 3) (it := .rng1 (.bi .len [.var 1])) (n := r.length) (w := .rng 0 r.length 1) (b := [.set 4 (.call 22 [.var 1, .var 3]), .for_ (.nm 5) (.mth 3 (.var 0) [.var 3]) [.ite (.call 24 [.var 0, .var 3, .var 4, .var 5]) [.expr (.bm .append (.var 2) [.call 23 [.var 1, .var 3, .var 5]])] []]]) (env := [some (.ref a), some (.str (txr r)), some (.ref h.length), none, none, none]) (h := h ++ [HV.lst []]) (h1 := h ++ [HV.lst []])
    (I := fun i e t => ∃ x3 x4 x5 L, e = [some (.ref a), some (.str (txr r)), some (.ref h.length), x3, x4, x5] ∧ t = h ++ [HV.lst (sD (L.map txr))] ∧ L = (List.range i).flatMap (chgF s r) ∧ L.length ≤ 11 * i)
    hr ⟨none, none, none, [], rfl, rfl, rfl, Nat.le_refl _⟩
    (fun i e s' hi ⟨x3, x4, x5, L, e1, e2, e3, e4⟩ => by
      subst e1 e2
      have n1 := (hW [HV.lst (sD (L.map txr))]).1 i (by rw [intsD_len]; exact hi)
      rw [intsD_get, show (0 : Int) + (i : Int) = (i : Int) by omega] at n1
      have hg := hd.gd (i := i)
      have k2 : (ev (pC P (n + 7) h false) (.call 22 [.var 1, .var 3])).v [some (.ref a), some (.str (txr r)), some (.ref h.length), iv i, x4, x5] (h ++ [HV.lst (sD (L.map txr))]) = .ok (.str [cd (gd r i)]) (h ++ [HV.lst (sD (L.map txr))]) :=
        callP (k := 22) (args_cons (d := .str (txr r)) (h1 := h ++ [HV.lst (sD (L.map txr))]) rfl (args1 (d := .int (i : Int)) (h1 := h ++ [HV.lst (sD (L.map txr))]) rfl)) (signIn_call (n := n + 6) hi)
      have s2 : execS (pC P (n + 7) h false) (.set 4 (.call 22 [.var 1, .var 3])) [some (.ref a), some (.str (txr r)), some (.ref h.length), iv i, x4, x5] (h ++ [HV.lst (sD (L.map txr))]) = .nx [some (.ref a), some (.str (txr r)), some (.ref h.length), iv i, some (.str [cd (gd r i)]), x5] (h ++ [HV.lst (sD (L.map txr))]) := set_ev k2
      have k3 : (ev (pC P (n + 7) h false) (.mth 3 (.var 0) [.var 3])).v [some (.ref a), some (.str (txr r)), some (.ref h.length), iv i, some (.str [cd (gd r i)]), x5] (h ++ [HV.lst (sD (L.map txr))]) = .ok (.str (NS (sg s i))) (h ++ [HV.lst (sD (L.map txr))]) :=
        mth_ev (P := P) (N := n + 7) (b := h.length) (k := 9) rfl (Sch.app q) (mt3 s hs) (args1 (d := .int (i : Int)) (h1 := h ++ [HV.lst (sD (L.map txr))]) rfl) (sgs_call (n := n + 6) (Sch.app q))
      have hW2 := walks_str (h := h) (s := NS (sg s i))
      have hml : ((NS (sg s i)).map fun c => D.str [c]).length = sg s i := by rw [List.length_map, NS_len]
      have hsg := sg_le s i
      generalize hde : gd r i = d at *
      obtain ⟨e5, s5, q2, y5, L2, rfl, rfl, rfl, l2⟩ := for_rule (C := pC P (n + 7) h false) (tg := .nm 5) (it := .mth 3 (.var 0) [.var 3]) (n := sg s i) (w := .str (NS (sg s i))) (b := [.ite (.call 24 [.var 0, .var 3, .var 4, .var 5]) [.expr (.bm .append (.var 2) [.call 23 [.var 1, .var 3, .var 5]])] []]) (env := [some (.ref a), some (.str (txr r)), some (.ref h.length), iv i, some (.str [cd d]), x5]) (h := h ++ [HV.lst (sD (L.map txr))]) (h1 := h ++ [HV.lst (sD (L.map txr))])
        (I := fun j e t => ∃ y5 L2, e = [some (.ref a), some (.str (txr r)), some (.ref h.length), iv i, some (.str [cd d]), y5] ∧ t = h ++ [HV.lst (sD (L2.map txr))] ∧ L2 = L ++ ((List.range j).filter (cun s i d)).map (fun o => r.set i o) ∧ L2.length ≤ 11 * i + j)
        (iter_v k3 rfl rfl) ⟨x5, L, rfl, rfl, (by simp), e4⟩
        (fun j e s' hj ⟨y5, L2, e1, e2, e3, e4⟩ => by
          subst e1 e2
          have n2 := (hW2 [HV.lst (sD (L2.map txr))]).1 j (by rw [hml]; exact hj)
          rw [NS_get] at n2
          have qq : Sch s (h ++ [HV.lst (sD (L2.map txr))]) a := Sch.app q
          have c0 : (ev (pC P (n + 7) h false) (.call 24 [.var 0, .var 3, .var 4, .var 5])).v [some (.ref a), some (.str (txr r)), some (.ref h.length), iv i, some (.str [cd d]), some (.str [cd j])] (h ++ [HV.lst (sD (L2.map txr))]) = .ok (.bl (cun s i d j)) (h ++ [HV.lst (sD (L2.map txr))]) :=
            callP (k := 24) (args_cons (d := .ref a) (h1 := h ++ [HV.lst (sD (L2.map txr))]) rfl (args_cons (d := .int (i : Int)) (h1 := h ++ [HV.lst (sD (L2.map txr))]) rfl (args_cons (d := .str [cd d]) (h1 := h ++ [HV.lst (sD (L2.map txr))]) rfl (args1 (d := .str [cd j]) (h1 := h ++ [HV.lst (sD (L2.map txr))]) rfl)))) (cun_call (n := n + 3) hs qq (by omega) hg (by omega))
          have c1 := tru_v c0 rfl
          refine ⟨.str [cd j], [some (.ref a), some (.str (txr r)), some (.ref h.length), iv i, some (.str [cd d]), some (.str [cd j])], ?_⟩
          cases hc : cun s i d j with
          | true =>
            rw [hc] at c1
            have k4 : (ev (pC P (n + 7) h false) (.call 23 [.var 1, .var 3, .var 5])).v [some (.ref a), some (.str (txr r)), some (.ref h.length), iv i, some (.str [cd d]), some (.str [cd j])] (h ++ [HV.lst (sD (L2.map txr))]) = .ok (.str (txr (r.set i j))) (h ++ [HV.lst (sD (L2.map txr))]) :=
              callP (k := 23) (args_cons (d := .str (txr r)) (h1 := h ++ [HV.lst (sD (L2.map txr))]) rfl (args_cons (d := .int (i : Int)) (h1 := h ++ [HV.lst (sD (L2.map txr))]) rfl (args1 (d := .str [cd j]) (h1 := h ++ [HV.lst (sD (L2.map txr))]) rfl))) (with_call (n := n + 6) hi (by omega))
            have k5 := app_ev0 (C := pC P (n + 7) h false) (o := .var 2) (q := h.length) (h1 := h) (xs := sD (L2.map txr)) rfl rfl (Nat.le_refl _) k4 (by rw [sD_len, List.length_map]; omega)
            refine ⟨_, _, n2, rfl, (ss_nx ((ite_t c1).trans ((ss_nx k5).trans rfl))).trans rfl, some (.str [cd j]), L2 ++ [r.set i j], rfl, ?_, ?_, ?_⟩
            · unfold sD
              rw [List.map_append, List.map_append]
              rfl
            · rw [List.range_succ, filt_snoc, hc, if_pos rfl, List.map_append, ← List.append_assoc, ← e3]
              rfl
            · rw [List.length_append, List.length_singleton]; omega
          | false =>
            rw [hc] at c1
            refine ⟨_, _, n2, rfl, (ss_nx ((ite_f c1).trans rfl)).trans rfl, some (.str [cd j]), L2, rfl, rfl, ?_, by omega⟩
            rw [List.range_succ, filt_snoc, hc, if_neg Bool.false_ne_true, List.append_nil]
            exact e3)
        (fun e s' ⟨y5, L2, e1, e2, _⟩ => by
          subst e2
          have := (hW2 [HV.lst (sD (L2.map txr))]).2
          rw [hml] at this
          exact this) (by show sg s i < P.fuel; omega)
      refine ⟨.int (i : Int), _, _, _, n1, rfl, (ss_nx s2).trans ((ss_nx q2).trans rfl), iv i, some (.str [cd d]), y5, _, rfl, rfl, ?_, by omega⟩
      rw [List.range_succ, fm_snoc, ← e3]
      unfold chgF
      rw [hde])
    (fun e s' ⟨x3, x4, x5, L, e1, e2, _⟩ => by
      subst e2
      have := (hW [HV.lst (sD (L.map txr))]).2
      rw [intsD_len] at this
      exact this) (by show r.length < P.fuel; omega)
  exact pure_lst (f := ⟨2, 6, b28, true, false⟩) (n := n + 7) (a := h.length) rfl rfl rfl ((ss_nx s1).trans ((ss_nx q1).trans (ss_ret (ret_ev rfl)))) at_mid (Nat.le_refl _) (sD_under _ _)
theorem exg_call {r : List Nat} (hs : s < 4) (q : Sch s h a) (hd : Dg r) (h1 : 1 ≤ r.length) (hl : r.length ≤ 100) : callF P (n + 11) b 29 [.ref a, .str (txr r)] h = .ok (.ref h.length) (h ++ [HV.lst (sD ((exg s r).map txr))]) := by
  have hfu : 4000 ≤ P.fuel := hf
  have s1 : execS (pC P (n + 9) h false) (.set 2 (.lst [])) [some (.ref a), some (.str (txr r)), none, none, none, none] h = .nx [some (.ref a), some (.str (txr r)), some (.ref h.length), none, none, none] (h ++ [HV.lst []]) := set_ev (lst_ev (ds := []) args_nil (by show 0 ≤ 1000; omega))
  have k1 : (ev (pC P (n + 9) h false) (.bi .len [.var 1])).v [some (.ref a), some (.str (txr r)), some (.ref h.length), none, none, none] (h ++ [HV.lst []]) = .ok (.int (r.length : Int)) (h ++ [HV.lst []]) := by
    rw [← txr_len]
    exact lenS_ev rfl
  have hr := rng1_ev (subN_ev (c := 1) h1 k1 one_ev) (rs_of (by omega) (by omega))
  rw [Int.toNat_natCast] at hr
  have hW := walks_rng (h := h) (lo := 0) (n := r.length - 1)
  obtain ⟨e2, s3, q1, x3, x4, x5, L, rfl, rfl, rfl, _⟩ := for_rule (C := pC P (n + 9) h false) (tg := .nm 3) (it := .rng1 (.bin .Sub (.bi .len [.var 1]) (.cint 1))) (n := r.length - 1) (w := .rng 0 (r.length - 1) 1) (b := [.set 4 (.call 22 [.var 1, .var 3]), .set 5 (.call 22 [.var 1, .bin .Add (.var 3) (.cint 1)]), .ite (.call 27 [.var 0, .var 3, .var 4, .var 5]) [.expr (.bm .append (.var 2) [.call 23 [.call 23 [.var 1, .var 3, .var 5], .bin .Add (.var 3) (.cint 1), .var 4]])] []]) (env := [some (.ref a), some (.str (txr r)), some (.ref h.length), none, none, none]) (h := h ++ [HV.lst []]) (h1 := h ++ [HV.lst []])
    (I := fun i e t => ∃ x3 x4 x5 L, e = [some (.ref a), some (.str (txr r)), some (.ref h.length), x3, x4, x5] ∧ t = h ++ [HV.lst (sD (L.map txr))] ∧ L = ((List.range i).filter fun i => xun s i (gd r i) (gd r (i + 1))).map (swp r) ∧ L.length ≤ i)
    hr ⟨none, none, none, [], rfl, rfl, rfl, Nat.le_refl _⟩
    (fun i e s' hi ⟨x3, x4, x5, L, e1, e2, e3, e4⟩ => by
      subst e1 e2
      have n1 := (hW [HV.lst (sD (L.map txr))]).1 i (by rw [intsD_len]; exact hi)
      rw [intsD_get, show (0 : Int) + (i : Int) = (i : Int) by omega] at n1
      have g1 := hd.gd (i := i)
      have g2 := hd.gd (i := i + 1)
      have k2 : (ev (pC P (n + 9) h false) (.call 22 [.var 1, .var 3])).v [some (.ref a), some (.str (txr r)), some (.ref h.length), iv i, x4, x5] (h ++ [HV.lst (sD (L.map txr))]) = .ok (.str [cd (gd r i)]) (h ++ [HV.lst (sD (L.map txr))]) :=
        callP (k := 22) (args_cons (d := .str (txr r)) (h1 := h ++ [HV.lst (sD (L.map txr))]) rfl (args1 (d := .int (i : Int)) (h1 := h ++ [HV.lst (sD (L.map txr))]) rfl)) (signIn_call (n := n + 8) (by omega))
      have s2 : execS (pC P (n + 9) h false) (.set 4 (.call 22 [.var 1, .var 3])) [some (.ref a), some (.str (txr r)), some (.ref h.length), iv i, x4, x5] (h ++ [HV.lst (sD (L.map txr))]) = .nx [some (.ref a), some (.str (txr r)), some (.ref h.length), iv i, some (.str [cd (gd r i)]), x5] (h ++ [HV.lst (sD (L.map txr))]) := set_ev k2
      have a3 : (ev (pC P (n + 9) h false) (.bin .Add (.var 3) (.cint 1))).v [some (.ref a), some (.str (txr r)), some (.ref h.length), iv i, some (.str [cd (gd r i)]), x5] (h ++ [HV.lst (sD (L.map txr))]) = .ok (.int ((i + 1 : Nat) : Int)) (h ++ [HV.lst (sD (L.map txr))]) := addN_ev (h1 := h ++ [HV.lst (sD (L.map txr))]) rfl one_ev
      have k3 : (ev (pC P (n + 9) h false) (.call 22 [.var 1, .bin .Add (.var 3) (.cint 1)])).v [some (.ref a), some (.str (txr r)), some (.ref h.length), iv i, some (.str [cd (gd r i)]), x5] (h ++ [HV.lst (sD (L.map txr))]) = .ok (.str [cd (gd r (i + 1))]) (h ++ [HV.lst (sD (L.map txr))]) :=
        callP (k := 22) (args_cons (d := .str (txr r)) (h1 := h ++ [HV.lst (sD (L.map txr))]) rfl (args1 a3)) (signIn_call (n := n + 8) (by omega))
      have s3 : execS (pC P (n + 9) h false) (.set 5 (.call 22 [.var 1, .bin .Add (.var 3) (.cint 1)])) [some (.ref a), some (.str (txr r)), some (.ref h.length), iv i, some (.str [cd (gd r i)]), x5] (h ++ [HV.lst (sD (L.map txr))]) = .nx [some (.ref a), some (.str (txr r)), some (.ref h.length), iv i, some (.str [cd (gd r i)]), some (.str [cd (gd r (i + 1))])] (h ++ [HV.lst (sD (L.map txr))]) := set_ev k3
      have hsw : swp r i = (r.set i (gd r (i + 1))).set (i + 1) (gd r i) := rfl
      have hxn : xun s i (gd r i) (gd r (i + 1)) = true ∨ xun s i (gd r i) (gd r (i + 1)) = false := by cases xun s i (gd r i) (gd r (i + 1)) <;> simp
      have hL2 : (xun s i (gd r i) (gd r (i + 1)) = true → L ++ [swp r i] = ((List.range (i + 1)).filter fun i => xun s i (gd r i) (gd r (i + 1))).map (swp r)) ∧ (xun s i (gd r i) (gd r (i + 1)) = false → L = ((List.range (i + 1)).filter fun i => xun s i (gd r i) (gd r (i + 1))).map (swp r)) := by
        rw [List.range_succ, filt_snoc]
        constructor
        · intro e
          rw [e, if_pos rfl, List.map_append, ← e3]
          rfl
        · intro e
          rw [e, if_neg Bool.false_ne_true, List.append_nil]
          exact e3
      have qq : Sch s (h ++ [HV.lst (sD (L.map txr))]) a := Sch.app q
      have c0 : (ev (pC P (n + 9) h false) (.call 27 [.var 0, .var 3, .var 4, .var 5])).v [some (.ref a), some (.str (txr r)), some (.ref h.length), iv i, some (.str [cd (gd r i)]), some (.str [cd (gd r (i + 1))])] (h ++ [HV.lst (sD (L.map txr))]) = .ok (.bl (xun s i (gd r i) (gd r (i + 1)))) (h ++ [HV.lst (sD (L.map txr))]) :=
        callP (k := 27) (args_cons (d := .ref a) (h1 := h ++ [HV.lst (sD (L.map txr))]) rfl (args_cons (d := .int (i : Int)) (h1 := h ++ [HV.lst (sD (L.map txr))]) rfl (args_cons (d := .str [cd (gd r i)]) (h1 := h ++ [HV.lst (sD (L.map txr))]) rfl (args1 (d := .str [cd (gd r (i + 1))]) (h1 := h ++ [HV.lst (sD (L.map txr))]) rfl)))) (xun_call (n := n + 2) hs qq (by omega) g1 g2)
      have c1 := tru_v c0 rfl
      rcases hxn with hc | hc
      · rw [hc] at c1
        have w1 := with_call (n := n + 8) (b := h.length) (h := h ++ [HV.lst (sD (L.map txr))]) (r := r) (i := i) (o := gd r (i + 1)) (by omega) (by omega)
        have w2 := with_call (n := n + 8) (b := h.length) (h := h ++ [HV.lst (sD (L.map txr))]) (r := r.set i (gd r (i + 1))) (i := i + 1) (o := gd r i) (by rw [List.length_set]; omega) (by rw [List.length_set]; omega)
        rw [← hsw] at w2
        have k4 : (ev (pC P (n + 9) h false) (.call 23 [.var 1, .var 3, .var 5])).v [some (.ref a), some (.str (txr r)), some (.ref h.length), iv i, some (.str [cd (gd r i)]), some (.str [cd (gd r (i + 1))])] (h ++ [HV.lst (sD (L.map txr))]) = .ok (.str (txr (r.set i (gd r (i + 1))))) (h ++ [HV.lst (sD (L.map txr))]) :=
          callP (k := 23) (args_cons (d := .str (txr r)) (h1 := h ++ [HV.lst (sD (L.map txr))]) rfl (args_cons (d := .int (i : Int)) (h1 := h ++ [HV.lst (sD (L.map txr))]) rfl (args1 (d := .str [cd (gd r (i + 1))]) (h1 := h ++ [HV.lst (sD (L.map txr))]) rfl))) w1
        have a4 : (ev (pC P (n + 9) h false) (.bin .Add (.var 3) (.cint 1))).v [some (.ref a), some (.str (txr r)), some (.ref h.length), iv i, some (.str [cd (gd r i)]), some (.str [cd (gd r (i + 1))])] (h ++ [HV.lst (sD (L.map txr))]) = .ok (.int ((i + 1 : Nat) : Int)) (h ++ [HV.lst (sD (L.map txr))]) := addN_ev (h1 := h ++ [HV.lst (sD (L.map txr))]) rfl one_ev
        have k5 : (ev (pC P (n + 9) h false) (.call 23 [.call 23 [.var 1, .var 3, .var 5], .bin .Add (.var 3) (.cint 1), .var 4])).v [some (.ref a), some (.str (txr r)), some (.ref h.length), iv i, some (.str [cd (gd r i)]), some (.str [cd (gd r (i + 1))])] (h ++ [HV.lst (sD (L.map txr))]) = .ok (.str (txr (swp r i))) (h ++ [HV.lst (sD (L.map txr))]) :=
          callP (k := 23) (args_cons k4 (args_cons a4 (args1 (d := .str [cd (gd r i)]) (h1 := h ++ [HV.lst (sD (L.map txr))]) rfl))) w2
        have k6 := app_ev0 (C := pC P (n + 9) h false) (o := .var 2) (q := h.length) (h1 := h) (xs := sD (L.map txr)) rfl rfl (Nat.le_refl _) k5 (by rw [sD_len, List.length_map]; omega)
        refine ⟨.int (i : Int), _, _, _, n1, rfl, (ss_nx s2).trans ((ss_nx s3).trans ((ss_nx ((ite_t c1).trans ((ss_nx k6).trans rfl))).trans rfl)), iv i, some (.str [cd (gd r i)]), some (.str [cd (gd r (i + 1))]), L ++ [swp r i], rfl, ?_, hL2.1 hc, ?_⟩
        · unfold sD
          rw [List.map_append, List.map_append]
          rfl
        · rw [List.length_append, List.length_singleton]; omega
      · rw [hc] at c1
        exact ⟨.int (i : Int), _, _, _, n1, rfl, (ss_nx s2).trans ((ss_nx s3).trans ((ss_nx ((ite_f c1).trans rfl)).trans rfl)), iv i, some (.str [cd (gd r i)]), some (.str [cd (gd r (i + 1))]), L, rfl, rfl, hL2.2 hc, by omega⟩)
    (fun e s' ⟨x3, x4, x5, L, e1, e2, _⟩ => by
      subst e2
      have := (hW [HV.lst (sD (L.map txr))]).2
      rw [intsD_len] at this
      exact this) (by show r.length - 1 < P.fuel; omega)
  exact pure_lst (f := ⟨2, 6, b29, true, false⟩) (n := n + 9) (a := h.length) rfl rfl rfl ((ss_nx s1).trans ((ss_nx q1).trans (ss_ret (ret_ev rfl)))) at_mid (Nat.le_refl _) (sD_under _ _)
theorem chgF_len {r : List Nat} {i : Nat} : (chgF s r i).length ≤ 11 := by
  unfold chgF
  rw [List.length_map]
  have := List.length_filter_le (cun s i (gd r i)) (List.range (sg s i))
  rw [List.length_range] at this
  have := (sg_le s i).2
  omega
theorem mss_len {r : List Nat} (hl : r.length ≤ 12) : (chg s r).length ≤ 132 ∧ (exg s r).length ≤ 12 := by
  constructor
  · have : ∀ l : List Nat, (l.flatMap (chgF s r)).length ≤ 11 * l.length := by
      intro l
      induction l with
      | nil => exact Nat.le_refl _
      | cons x l ih =>
        rw [List.flatMap_cons, List.length_append, List.length_cons]
        have := chgF_len (s := s) (r := r) (i := x)
        omega
    have h1 := this (List.range r.length)
    rw [List.length_range] at h1
    unfold chg
    omega
  · unfold exg
    rw [List.length_map]
    have := List.length_filter_le (fun i => xun s i (gd r i) (gd r (i + 1))) (List.range (r.length - 1))
    rw [List.length_range] at this
    omega
theorem mss_call {r : List Nat} (hs : s < 4) (q : Sch s h a) (hd : Dg r) (h1 : 1 ≤ r.length) (hl : r.length ≤ 12) : callF P (n + 13) b 30 [.ref a, .str (txr r)] h = .ok (.tup (sD (srt ((mss s r).map txr)))) h := by
  obtain ⟨l1, l2⟩ := mss_len (s := s) hl
  have k1 : (ev (pC P (n + 11) h false) (.call 28 [.var 0, .var 1])).v [some (.ref a), some (.str (txr r))] h = .ok (.ref h.length) (h ++ [HV.lst (sD ((chg s r).map txr))]) :=
    callP (k := 28) (args_cons (d := .ref a) (h1 := h) rfl (args1 (d := .str (txr r)) (h1 := h) rfl)) (chg_call (n := n + 3) hs q hd (by omega))
  generalize hG : h ++ [HV.lst (sD ((chg s r).map txr))] = G at k1
  have qG : Sch s G a := by rw [← hG]; exact q.app
  have a1 : G.at h.length = some (.lst (sD ((chg s r).map txr))) := by rw [← hG]; exact at_mid
  have k2 : (ev (pC P (n + 11) h false) (.call 29 [.var 0, .var 1])).v [some (.ref a), some (.str (txr r))] G = .ok (.ref G.length) (G ++ [HV.lst (sD ((exg s r).map txr))]) :=
    callP (k := 29) (args_cons (d := .ref a) (h1 := G) rfl (args1 (d := .str (txr r)) (h1 := G) rfl)) (exg_call (n := n + 1) hs qG hd h1 (by omega))
  have k3 := (bin_ev (op := .Add) k1 k2).trans (add_f (at_app a1) at_mid (by rw [sD_len, sD_len, List.length_map, List.length_map]; omega))
  have hj : sD ((chg s r).map txr) ++ sD ((exg s r).map txr) = sD ((mss s r).map txr) := by unfold mss sD; rw [List.map_append, List.map_append]
  rw [hj] at k3
  have k4 := (bi_ev (b := .sorted) k3).trans (sorted_sD (ref_items at_mid) (by
    rw [List.length_map]
    unfold mss
    rw [List.length_append]
    omega))
  have k5 := (bi_ev (b := .tuple) k4).trans (tuple_f (ref_items at_mid))
  exact pure_ret (f := ⟨2, 2, b30, true, false⟩) (n := n + 11) rfl rfl rfl (ss_ret (ret_ev k5)) (sD_under _ _)
end
theorem ss_exc {C : Ctx} {st : S} {ss : List S} {env : Env} {h h1 : Heap} {c : Nat} {ds : List D} (e : execS C st env h = .exc c ds h1) : execSs C (st :: ss) env h = .exc c ds h1 := by
  show seqS (execS C st) (execSs C ss) env h = _
  unfold seqS
  rw [e]
theorem raise_ev {C : Ctx} {e : E} {env : Env} {h h1 : Heap} {c : Nat} {d : D} (he : (ev C e).v env h = .ok d h1) (hx : C.P.xtup c = false) : execS C (.raise c e) env h = .exc c [d] h1 := by
  unfold execS evalE
  rw [he]
  show raiseF C.P c d h1 = _
  unfold raiseF
  rw [hx]
  rfl
theorem pure_exc {P : Prog} {n b k c : Nat} {f : Fn} {ds es : List D} {h h' : Heap} (hk : P.fns[k]? = some f) (hp : f.pure = true) (hl : ds.length = f.np)
    (hx : execSs (pC P n h f.lam) f.body (ds.map some ++ List.replicate (f.ns - f.np) none) h = .exc c es h') (hd : D.unders h.length es = true) :
    callF P (n + 2) b k ds h = .exc c es h := by
  show bodyF P (callF P (n + 1)) (callF P n) true b k ds h = _
  unfold bodyF
  rw [hk]
  dsimp only
  rw [if_pos hl, hp, if_pos rfl]
  have := hx
  unfold pC at this
  rw [Bool.true_and, this]
  dsimp only
  rw [if_pos rfl, if_pos hd]
theorem expr_exc {C : Ctx} {e : E} {env : Env} {h h1 : Heap} {c : Nat} {ds : List D} (he : (ev C e).v env h = .exc c ds h1) : execS C (.expr e) env h = .exc c ds h1 := by
  unfold execS evalE
  rw [he]
  rfl
section
variable {n b s : Nat} {h : Heap} {a : Nat}
theorem scm_ev {env : Env} {G : Heap} (hs : s < 4) (h0 : env[0]? = some (some (.str (nmS s)))) : (ev (pC P (n + 5) h false) (.call 18 [.var 0])).v env G = .ok (.ref G.length) (G ++ [HV.ins (9 + s) (schF s)]) :=
  callP (n := n + 5) (k := 18) (args1 (var_ev h0)) (scheme_call (n := n) hs)
theorem dem_num {r : List Nat} {d : Nat} {env : Env} (hs : s < 4) (ok : Ok s (d :: r)) (h1 : 1 ≤ r.length) (h2 : r.length ≤ 11) (e0 : env[0]? = some (some (.str (nmS s)))) (e1 : env[1]? = some (some (.str (txr (d :: r))))) :
    execS (pC P (n + 7) h false) (.expr (.call 0 [.lst [.call 19 [.var 0], .call 21 [.var 1, .var 0]]])) env h = .nx env (h ++ [HV.lst [.bl true, .bl true]]) :=
  dem2_ev (n := n + 6) (callP (n := n + 7) (k := 19) (args1 (var_ev e0)) (isS_call (n := n + 6) hs)) (callP (n := n + 7) (k := 21) (args_cons (var_ev e1) (args1 (var_ev e0))) (num_call (n := n + 1) hs ok h1 h2))
theorem digok_call {r : List Nat} {d : Nat} (hs : s < 4) (ok : Ok s (d :: r)) (h1 : 1 ≤ r.length) (h2 : r.length ≤ 11) : callF P (n + 10) b 31 [.str (nmS s), .str (txr (d :: r))] h = .ok (.bl (decide (Rt s (d :: r)))) h := by
  have s1 := dem_num (n := n + 1) (h := h) (env := [some (.str (nmS s)), some (.str (txr (d :: r)))]) hs ok h1 h2 rfl rfl
  generalize h ++ [HV.lst [.bl true, .bl true]] = G at s1
  have k1 := scm_ev (n := n + 3) (h := h) (env := [some (.str (nmS s)), some (.str (txr (d :: r)))]) (G := G) hs rfl
  have qG : Sch s (G ++ [HV.ins (9 + s) (schF s)]) G.length := at_mid
  have k2 : (ev (pC P (n + 8) h false) (.mth 4 (.call 18 [.var 0]) [.var 1])).v [some (.str (nmS s)), some (.str (txr (d :: r)))] G = .ok (.bl (decide (Rt s (d :: r)))) (G ++ [HV.ins (9 + s) (schF s)]) :=
    mth_ev (P := P) (N := n + 8) (b := h.length) (k := 11) k1 qG (mt4 s hs) (args1 (d := .str (txr (d :: r))) (h1 := G ++ [HV.ins (9 + s) (schF s)]) rfl) (right_call (n := n + 1) hs qG ok.dg (by rw [List.length_cons]; omega))
  exact pure_ret (f := ⟨2, 2, b31, true, false⟩) (n := n + 8) rfl rfl rfl ((ss_nx s1).trans (ss_ret (ret_ev k2))) rfl
theorem withd_call {r : List Nat} (hs : s < 4) (hb : Bare r) (h1 : 1 ≤ r.length) (h2 : r.length ≤ 11) : callF P (n + 10) b 32 [.str (nmS s), .str (txr r)] h = .ok (.str (txr (ckd s r :: r))) h := by
  have s1 : execS (pC P (n + 8) h false) (.expr (.call 0 [.lst [.call 19 [.var 0], .call 20 [.var 1]]])) [some (.str (nmS s)), some (.str (txr r))] h = .nx [some (.str (nmS s)), some (.str (txr r))] (h ++ [HV.lst [.bl true, .bl true]]) :=
    dem2_ev (n := n + 7) (callP (n := n + 8) (k := 19) (args1 (d := .str (nmS s)) (h1 := h) rfl) (isS_call (n := n + 7) hs)) (callP (n := n + 8) (k := 20) (args1 (d := .str (txr r)) (h1 := h) rfl) (bare_call (n := n + 4) hb h1 h2))
  generalize h ++ [HV.lst [.bl true, .bl true]] = G at s1
  have k1 := scm_ev (n := n + 3) (h := h) (env := [some (.str (nmS s)), some (.str (txr r))]) (G := G) hs rfl
  have qG : Sch s (G ++ [HV.ins (9 + s) (schF s)]) G.length := at_mid
  have k2 : (ev (pC P (n + 8) h false) (.mth 5 (.call 18 [.var 0]) [.var 1])).v [some (.str (nmS s)), some (.str (txr r))] G = .ok (.str [cd (ckd s r)]) (G ++ [HV.ins (9 + s) (schF s)]) :=
    mth_ev (P := P) (N := n + 8) (b := h.length) (k := 12) k1 qG (mt5 s hs) (args1 (d := .str (txr r)) (h1 := G ++ [HV.ins (9 + s) (schF s)]) rfl) (sign_call (n := n + 1) hs qG hb.dg (by omega))
  have k3 : (ev (pC P (n + 8) h false) (.bin .Add (.var 1) (.mth 5 (.call 18 [.var 0]) [.var 1]))).v [some (.str (nmS s)), some (.str (txr r))] G = .ok (.str (txr r ++ [cd (ckd s r)])) (G ++ [HV.ins (9 + s) (schF s)]) :=
    (bin_ev (x := .str (txr r)) (h1 := G) rfl k2).trans (cat_f (by rw [txr_len, List.length_singleton]; omega))
  rw [← txr_cons] at k3
  exact pure_ret (f := ⟨2, 2, b32, true, false⟩) (n := n + 8) rfl rfl rfl ((ss_nx s1).trans (ss_ret (ret_ev k3))) rfl
theorem missed_call {r : List Nat} {d : Nat} (hs : s < 4) (ok : Ok s (d :: r)) (h1 : 1 ≤ r.length) (h2 : r.length ≤ 11) :
    callF P (n + 16) b 33 [.str (nmS s), .str (txr (d :: r))] h = if Rt s (d :: r) then .ok (.tup (sD (srt ((mss s (d :: r)).map txr)))) h else .exc 0 [.int 1] h := by
  have s1 := dem_num (n := n + 7) (h := h) (env := [some (.str (nmS s)), some (.str (txr (d :: r))), none]) hs ok h1 h2 rfl rfl
  generalize h ++ [HV.lst [.bl true, .bl true]] = G at s1
  have k1 := scm_ev (n := n + 9) (h := h) (env := [some (.str (nmS s)), some (.str (txr (d :: r))), none]) (G := G) hs rfl
  have qG : Sch s (G ++ [HV.ins (9 + s) (schF s)]) G.length := at_mid
  have s2 : execS (pC P (n + 14) h false) (.set 2 (.call 18 [.var 0])) [some (.str (nmS s)), some (.str (txr (d :: r))), none] G = .nx [some (.str (nmS s)), some (.str (txr (d :: r))), some (.ref G.length)] (G ++ [HV.ins (9 + s) (schF s)]) := set_ev k1
  generalize G ++ [HV.ins (9 + s) (schF s)] = H at *
  generalize G.length = q at *
  have k2 : (ev (pC P (n + 14) h false) (.mth 4 (.var 2) [.var 1])).v [some (.str (nmS s)), some (.str (txr (d :: r))), some (.ref q)] H = .ok (.bl (decide (Rt s (d :: r)))) H :=
    mth_ev (P := P) (N := n + 14) (b := h.length) (k := 11) rfl qG (mt4 s hs) (args1 (d := .str (txr (d :: r))) (h1 := H) rfl) (right_call (n := n + 7) hs qG ok.dg (by rw [List.length_cons]; omega))
  by_cases hr : Rt s (d :: r)
  · rw [decide_eq_true hr] at k2
    rw [if_pos hr]
    have s3 : execS (pC P (n + 14) h false) (.expr (.call 1 [.mth 4 (.var 2) [.var 1], .cint 1])) [some (.str (nmS s)), some (.str (txr (d :: r))), some (.ref q)] H = .nx [some (.str (nmS s)), some (.str (txr (d :: r))), some (.ref q)] H :=
      expr_ev (callP (P := P) (n := n + 14) (h0 := h) (tl := false) (k := 1) (args_cons k2 (args1 (d := .int 1) (h1 := H) rfl)) (demAt_call (P := P) (k := 1) (n := n + 13) rfl))
    have k3 : (ev (pC P (n + 14) h false) (.call 30 [.var 2, .var 1])).v [some (.str (nmS s)), some (.str (txr (d :: r))), some (.ref q)] H = .ok (.tup (sD (srt ((mss s (d :: r)).map txr)))) H :=
      callP (n := n + 14) (k := 30) (args_cons (d := .ref q) (h1 := H) rfl (args1 (d := .str (txr (d :: r))) (h1 := H) rfl)) (mss_call (n := n + 2) hs qG ok.dg (by rw [List.length_cons]; omega) (by rw [List.length_cons]; omega))
    exact pure_ret (f := ⟨2, 3, b33, true, false⟩) (n := n + 14) rfl rfl rfl ((ss_nx s1).trans ((ss_nx s2).trans ((ss_nx s3).trans (ss_ret (ret_ev k3))))) (sD_under _ _)
  · rw [decide_eq_false hr] at k2
    rw [if_neg hr]
    have c1 : (ev (pC P (n + 13) H false) (.notv (.var 0))).t [some (.bl false), some (.int 1)] H = .ok true H := rfl
    have s4 : execS (pC P (n + 13) H false) (.raise 0 (.var 1)) [some (.bl false), some (.int 1)] H = .exc 0 [.int 1] H := raise_ev rfl rfl
    have k3 : callF P (n + 15) h.length 1 [.bl false, .int 1] H = .exc 0 [.int 1] H :=
      pure_exc (f := ⟨2, 2, b1, true, false⟩) (n := n + 13) rfl rfl rfl (ss_exc ((ite_t c1).trans (ss_exc s4))) rfl
    have s3 : execS (pC P (n + 14) h false) (.expr (.call 1 [.mth 4 (.var 2) [.var 1], .cint 1])) [some (.str (nmS s)), some (.str (txr (d :: r))), some (.ref q)] H = .exc 0 [.int 1] H :=
      expr_exc ((call_ev (C := pC P (n + 14) h false) (k := 1) (args_cons k2 (args1 (d := .int 1) (h1 := H) rfl))).trans k3)
    exact pure_exc (f := ⟨2, 3, b33, true, false⟩) (n := n + 14) rfl rfl rfl ((ss_nx s1).trans ((ss_nx s2).trans (ss_exc s3))) rfl
end
def bSum : List S := [.set 4 (.call 41 [.idx (.var 1) (.bin .Sub (.bin .Sub (.bi .len [.var 1]) (.cint 1)) (.var 3))]), .ite (.cmp .Eq (.var 0) (.cstr [115, 117, 109])) [.set 2 (.bin .Add (.var 2) (.var 4))] [.ite (.cmp .Eq (.var 0) (.cstr [116, 104, 114, 101, 101])) [.set 2 (.bin .Add (.var 2) (.bin .Mult (.var 4) (.idx (.lst [.cint 1, .cint 3]) (.bin .Mod (.bi .int [.var 3]) (.cint 2)))))] [.ite (.cmp .Eq (.var 0) (.cstr [108, 117, 104, 110])) [.set 5 (.bin .Mult (.var 4) (.idx (.lst [.cint 1, .cint 2]) (.bin .Mod (.bi .int [.var 3]) (.cint 2)))), .set 2 (.bin .Add (.var 2) (.ife (.cmp .Gt (.var 5) (.cint 9)) (.bin .Sub (.var 5) (.cint 9)) (.var 5)))] [.set 2 (.bin .Add (.var 2) (.bin .Mult (.var 4) (.bin .Add (.var 3) (.cint 1))))]]]]
theorem cat_assoc (h t : Heap) (u : Heap) : (h ++ t) ++ u = h ++ (t ++ u) := List.append_assoc _ _ _
section
variable {n b s : Nat} {h : Heap}
theorem sgn_call {d : Nat} (hd : d ≤ 10) : callF P (n + 2) b 41 [.str [cd d]] h = .ok (.int (d : Int)) h := by
  have c1 : (ev (pC P n h false) (.cmp .Eq (.var 0) (.cstr [120]))).t [some (.str [cd d])] h = .ok (eqL [cd d] [120]) h := tru_v ((cmp_ev (x := .str [cd d]) (y := .str [120]) (h1 := h) (h2 := h) rfl rfl).trans eqS_f) rfl
  by_cases h0 : d = 10
  · subst h0
    exact pure_ret (f := ⟨1, 1, b41, true, false⟩) (n := n) rfl rfl rfl (ss_ret (ret_ev ((ife_t c1).trans rfl))) rfl
  · have hc : cd d = 48 + d := by unfold cd; rw [if_neg h0]
    rw [hc] at c1 ⊢
    rw [eqL_one, decide_eq_false (by omega)] at c1
    have e1 := (bi_ev (C := pC P n h false) (b := .int) (e := .var 0) (d := .str [48 + d]) (env := [some (.str [48 + d])]) (h := h) (h1 := h) rfl).trans (int_f (by omega))
    exact pure_ret (f := ⟨1, 1, b41, true, false⟩) (n := n) rfl rfl rfl (ss_ret (ret_ev ((ife_f c1).trans e1))) rfl
/-- one of two weights -/
theorem wt_ev {C : Ctx} {env : Env} {G : Heap} {k x y : Nat} (h3 : env[3]? = some (iv k)) : (ev C (.idx (.lst [.cint (x : Int), .cint (y : Int)]) (.bin .Mod (.bi .int [.var 3]) (.cint 2)))).v env G = .ok (.int ((if k % 2 = 1 then y else x : Nat) : Int)) (G ++ [HV.lst [.int (x : Int), .int (y : Int)]]) := by
  have k1 : (ev C (.lst [.cint (x : Int), .cint (y : Int)])).v env G = .ok (.ref G.length) (G ++ [HV.lst [.int (x : Int), .int (y : Int)]]) := lst_ev (args_cons (d := .int (x : Int)) (h1 := G) rfl (args1 (d := .int (y : Int)) (h1 := G) rfl)) (by show 2 ≤ 1000; omega)
  generalize hG : G ++ [HV.lst [.int (x : Int), .int (y : Int)]] = H at k1 ⊢
  have k2 : (ev C (.bi .int [.var 3])).v env H = .ok (.int (k : Int)) H := (bi_ev (d := .int (k : Int)) (h1 := H) (var_ev h3)).trans rfl
  have k3 := (bin_ev (op := .Mod) (e2 := .cint 2) (y := .int 2) (h2 := H) k2 rfl).trans (mod_f (by decide))
  rw [show (k : Int) % 2 = ((k % 2 : Nat) : Int) by omega] at k3
  refine (idx_ev k1 k3).trans (idx_seq (ds := [.int (x : Int), .int (y : Int)]) (by rw [← hG]; exact ref_items at_mid) ?_)
  by_cases e : k % 2 = 1
  · rw [e]; rfl
  · rw [show k % 2 = 0 by omega]; rfl
theorem sum_step {r : List Nat} {k tot : Nat} {x4 x5 : Option D} {G : Heap} (hs : s < 4) (hd : Dg r) (hk : k < r.length) (hl : r.length ≤ 900) :
    ∃ x4' x5' t, execSs (pC P (n + 2) h false) bSum [some (.str (nmS s)), some (.str (txr r)), iv tot, iv k, x4, x5] G = .nx [some (.str (nmS s)), some (.str (txr r)), iv (tot + wor s k (gd r k)), iv k, x4', x5'] (G ++ t) := by
  have k1 : (ev (pC P (n + 2) h false) (.bi .len [.var 1])).v [some (.str (nmS s)), some (.str (txr r)), iv tot, iv k, x4, x5] G = .ok (.int (r.length : Int)) G := by
    rw [← txr_len]
    exact lenS_ev rfl
  have k2 := subN_ev (c := 1) (by omega) k1 one_ev
  have k3 := subN_ev (c := k) (e := .var 3) (h2 := G) (by omega) k2 rfl
  have k4 := (idx_ev (e := .var 1) (x := .str (txr r)) (h1 := G) rfl k3).trans (idxS_f (by rw [txr_len]; omega))
  rw [txr_at hk] at k4
  have hg := hd.gd (i := k)
  have hwe : ∀ d, wor s k d = wor s k d := fun _ => rfl
  generalize gd r k = d at *
  have k5 : (ev (pC P (n + 2) h false) (.call 41 [.idx (.var 1) (.bin .Sub (.bin .Sub (.bi .len [.var 1]) (.cint 1)) (.var 3))])).v [some (.str (nmS s)), some (.str (txr r)), iv tot, iv k, x4, x5] G = .ok (.int (d : Int)) G := callP (n := n + 2) (k := 41) (args1 k4) (sgn_call (n := n + 1) hg)
  have s1 : execS (pC P (n + 2) h false) (.set 4 (.call 41 [.idx (.var 1) (.bin .Sub (.bin .Sub (.bi .len [.var 1]) (.cint 1)) (.var 3))])) [some (.str (nmS s)), some (.str (txr r)), iv tot, iv k, x4, x5] G = .nx [some (.str (nmS s)), some (.str (txr r)), iv tot, iv k, iv d, x5] G := set_ev k5
  have hfl := fct_lt (s := s) (k := k) (by omega)
  generalize txr r = T at *
  clear k1 k2 k3 k4 k5 hwe
  have sm : small64 (d : Int) = true := small_n (by omega)
  revert s1 hfl
  revert s
  refine @(four ?_ ?_ ?_ ?_)
  · intro hfl s1
    have e1 : (ev (pC P (n + 2) h false) (.bin .Add (.var 2) (.var 4))).v [some (.str (nmS 0)), some (.str T), iv tot, iv k, iv d, x5] G = .ok (.int ((tot + d : Nat) : Int)) G := addN_ev (h1 := G) rfl rfl
    have s2 : execS (pC P (n + 2) h false) (.set 2 (.bin .Add (.var 2) (.var 4))) [some (.str (nmS 0)), some (.str T), iv tot, iv k, iv d, x5] G = .nx [some (.str (nmS 0)), some (.str T), iv (tot + d), iv k, iv d, x5] G := set_ev e1
    have hw : wor 0 k d = d := by show 1 * d = d; omega
    rw [hw]
    refine ⟨iv d, x5, [], ?_⟩
    rw [List.append_nil]
    exact (ss_nx s1).trans ((ss_nx ((ite_t (h1 := G) rfl).trans ((ss_nx s2).trans rfl))).trans rfl)
  · intro hfl s1
    have w1 := wt_ev (C := pC P (n + 2) h false) (env := [some (.str (nmS 1)), some (.str T), iv tot, iv k, iv d, x5]) (G := G) (k := k) (x := 1) (y := 3) rfl
    have e1 := (bin_ev (op := .Mult) (e := .var 4) (x := .int (d : Int)) (h1 := G) rfl w1).trans (mul_f sm)
    rw [← Int.natCast_mul] at e1
    have e2 := addN_ev (e1 := .var 2) (k := tot) (h1 := G) rfl e1
    have hw : wor 1 k d = d * (if k % 2 = 1 then 3 else 1) := by
      show (if k % 2 = 1 then 3 else 1) * d = _
      rw [Nat.mul_comm]
    rw [hw]
    generalize d * (if k % 2 = 1 then 3 else 1) = p at *
    have s2 : execS (pC P (n + 2) h false) (.set 2 (.bin .Add (.var 2) (.bin .Mult (.var 4) (.idx (.lst [.cint 1, .cint 3]) (.bin .Mod (.bi .int [.var 3]) (.cint 2)))))) [some (.str (nmS 1)), some (.str T), iv tot, iv k, iv d, x5] G = .nx [some (.str (nmS 1)), some (.str T), iv (tot + p), iv k, iv d, x5] (G ++ [HV.lst [.int ((1 : Nat) : Int), .int ((3 : Nat) : Int)]]) := set_ev e2
    exact ⟨iv d, x5, _, (ss_nx s1).trans ((ss_nx ((ite_f (h1 := G) rfl).trans ((ss_nx ((ite_t (h1 := G) rfl).trans ((ss_nx s2).trans rfl))).trans rfl))).trans rfl)⟩
  · intro hfl s1
    have w1 := wt_ev (C := pC P (n + 2) h false) (env := [some (.str (nmS 2)), some (.str T), iv tot, iv k, iv d, x5]) (G := G) (k := k) (x := 1) (y := 2) rfl
    have e1 := (bin_ev (op := .Mult) (e := .var 4) (x := .int (d : Int)) (h1 := G) rfl w1).trans (mul_f sm)
    rw [← Int.natCast_mul] at e1
    have hw : wor 2 k d = if 9 < d * (if k % 2 = 1 then 2 else 1) then d * (if k % 2 = 1 then 2 else 1) - 9 else d * (if k % 2 = 1 then 2 else 1) := by
      have : fct 2 k * d = d * (if k % 2 = 1 then 2 else 1) := by
        show (if k % 2 = 1 then 2 else 1) * d = _
        rw [Nat.mul_comm]
      unfold wor
      rw [this]
      by_cases h9 : 9 < d * (if k % 2 = 1 then 2 else 1)
      · rw [if_pos ⟨rfl, h9⟩, if_pos h9]
      · rw [if_neg (fun e => h9 e.2), if_neg h9]
    rw [hw]
    generalize d * (if k % 2 = 1 then 2 else 1) = p at *
    generalize hH : G ++ [HV.lst [.int ((1 : Nat) : Int), .int ((2 : Nat) : Int)]] = H at e1
    have s2 : execS (pC P (n + 2) h false) (.set 5 (.bin .Mult (.var 4) (.idx (.lst [.cint 1, .cint 2]) (.bin .Mod (.bi .int [.var 3]) (.cint 2))))) [some (.str (nmS 2)), some (.str T), iv tot, iv k, iv d, x5] G = .nx [some (.str (nmS 2)), some (.str T), iv tot, iv k, iv d, iv p] H := set_ev e1
    have c1 : (ev (pC P (n + 2) h false) (.cmp .Gt (.var 5) (.cint 9))).t [some (.str (nmS 2)), some (.str T), iv tot, iv k, iv d, iv p] H = .ok (decide ((9 : Int) < (p : Int))) H :=
      tru_v ((cmp_ev (x := .int (p : Int)) (y := .int 9) (h1 := H) (h2 := H) rfl rfl).trans gt_f) rfl
    have e3 : (ev (pC P (n + 2) h false) (.ife (.cmp .Gt (.var 5) (.cint 9)) (.bin .Sub (.var 5) (.cint 9)) (.var 5))).v [some (.str (nmS 2)), some (.str T), iv tot, iv k, iv d, iv p] H = .ok (.int ((if 9 < p then p - 9 else p : Nat) : Int)) H := by
      by_cases h9 : 9 < p
      · rw [decide_eq_true (by omega)] at c1
        rw [if_pos h9, ife_t c1]
        exact subN_ev (k := p) (c := 9) (h1 := H) (h2 := H) (by omega) rfl rfl
      · rw [decide_eq_false (by omega)] at c1
        rw [if_neg h9, ife_f c1]
        rfl
    have e4 := addN_ev (e1 := .var 2) (k := tot) (h1 := H) rfl e3
    generalize (if 9 < p then p - 9 else p) = z at *
    have s3 : execS (pC P (n + 2) h false) (.set 2 (.bin .Add (.var 2) (.ife (.cmp .Gt (.var 5) (.cint 9)) (.bin .Sub (.var 5) (.cint 9)) (.var 5)))) [some (.str (nmS 2)), some (.str T), iv tot, iv k, iv d, iv p] H = .nx [some (.str (nmS 2)), some (.str T), iv (tot + z), iv k, iv d, iv p] H := set_ev e4
    refine ⟨iv d, iv p, [HV.lst [.int ((1 : Nat) : Int), .int ((2 : Nat) : Int)]], ?_⟩
    rw [hH]
    exact (ss_nx s1).trans ((ss_nx ((ite_f (h1 := G) rfl).trans ((ss_nx ((ite_f (h1 := G) rfl).trans ((ss_nx ((ite_t (h1 := G) rfl).trans ((ss_nx s2).trans ((ss_nx s3).trans rfl)))).trans rfl))).trans rfl))).trans rfl)
  · intro hfl s1
    have e0 : (ev (pC P (n + 2) h false) (.bin .Add (.var 3) (.cint 1))).v [some (.str (nmS 3)), some (.str T), iv tot, iv k, iv d, x5] G = .ok (.int ((k + 1 : Nat) : Int)) G := addN_ev (h1 := G) rfl one_ev
    have e1 := (bin_ev (op := .Mult) (e := .var 4) (x := .int (d : Int)) (h1 := G) rfl e0).trans (mul_f sm)
    rw [← Int.natCast_mul] at e1
    have e2 := addN_ev (e1 := .var 2) (k := tot) (h1 := G) rfl e1
    have hw : wor 3 k d = d * (k + 1) := by
      show (k + 1) * d = _
      rw [Nat.mul_comm]
    rw [hw]
    generalize d * (k + 1) = p at *
    have s2 : execS (pC P (n + 2) h false) (.set 2 (.bin .Add (.var 2) (.bin .Mult (.var 4) (.bin .Add (.var 3) (.cint 1))))) [some (.str (nmS 3)), some (.str T), iv tot, iv k, iv d, x5] G = .nx [some (.str (nmS 3)), some (.str T), iv (tot + p), iv k, iv d, x5] G := set_ev e2
    refine ⟨iv d, x5, [], ?_⟩
    rw [List.append_nil]
    exact (ss_nx s1).trans ((ss_nx ((ite_f (h1 := G) rfl).trans ((ss_nx ((ite_f (h1 := G) rfl).trans ((ss_nx ((ite_f (h1 := G) rfl).trans ((ss_nx s2).trans rfl))).trans rfl))).trans rfl))).trans rfl)
theorem lsum_call {r : List Nat} (hs : s < 4) (hd : Dg r) (hl : r.length ≤ 900) : callF P (n + 4) b 42 [.str (nmS s), .str (txr r)] h = .ok (.int (wsum s 0 r : Int)) h := by
  have hfu : 4000 ≤ P.fuel := hf
  have s1 : execS (pC P (n + 2) h false) (.set 2 (.cint 0)) [some (.str (nmS s)), some (.str (txr r)), none, none, none, none] h = .nx [some (.str (nmS s)), some (.str (txr r)), iv 0, none, none, none] h := set_ev rfl
  have k1 : (ev (pC P (n + 2) h false) (.bi .len [.var 1])).v [some (.str (nmS s)), some (.str (txr r)), iv 0, none, none, none] h = .ok (.int (r.length : Int)) h := by
    rw [← txr_len]
    exact lenS_ev rfl
  have hr := rng1_ev k1 (rs_of (by omega) (by omega))
  rw [Int.toNat_natCast] at hr
  have hW := walks_rng (h := h) (lo := 0) (n := r.length)
  obtain ⟨e2, s3, q1, x3, x4, x5, t, rfl, rfl⟩ := for_rule (C := pC P (n + 2) h false) (tg := .nm 3) (it := .rng1 (.bi .len [.var 1])) (n := r.length) (w := .rng 0 r.length 1) (b := bSum) (env := [some (.str (nmS s)), some (.str (txr r)), iv 0, none, none, none]) (h := h) (h1 := h)
    (I := fun i e s' => ∃ x3 x4 x5 t, e = [some (.str (nmS s)), some (.str (txr r)), iv (wsum s 0 (r.take i)), x3, x4, x5] ∧ s' = h ++ t)
    hr ⟨none, none, none, [], rfl, (List.append_nil h).symm⟩
    (fun i e s' hi ⟨x3, x4, x5, t, e1, e2⟩ => by
      subst e1 e2
      have n1 := (hW t).1 i (by rw [intsD_len]; exact hi)
      rw [intsD_get, show (0 : Int) + (i : Int) = (i : Int) by omega] at n1
      obtain ⟨x4', x5', t2, st⟩ := sum_step (n := n) (h := h) (x4 := x4) (x5 := x5) (tot := wsum s 0 (r.take i)) (G := h ++ t) hs hd hi hl
      have htk := List.take_succ_eq_append_getElem hi
      have hlt : (r.take i).length = i := by rw [List.length_take]; omega
      have hw := wsum_app (s := s) (r.take i) 0 r[i]
      rw [hlt, Nat.zero_add, ← htk, ← g_get hi] at hw
      rw [← hw] at st
      exact ⟨.int (i : Int), _, _, _, n1, rfl, st, iv i, x4', x5', t ++ t2, rfl, List.append_assoc _ _ _⟩)
    (fun e s' ⟨x3, x4, x5, t, e1, e2⟩ => by
      subst e2
      have := (hW t).2
      rw [intsD_len] at this
      exact this) (by show r.length < P.fuel; omega)
  rw [List.take_length] at q1
  exact pure_ret (f := ⟨2, 6, b42, true, false⟩) (n := n + 2) rfl rfl rfl ((ss_nx s1).trans ((ss_nx q1).trans (ss_ret (ret_ev rfl)))) rfl
theorem lok_call {r : List Nat} (hs : s < 4) (hd : Dg r) (hl : r.length ≤ 900) : callF P (n + 6) b 43 [.str (nmS s), .str (txr r)] h = .ok (.bl (decide (Rt s r))) h := by
  have k1 : (ev (pC P (n + 4) h false) (.call 42 [.var 0, .var 1])).v [some (.str (nmS s)), some (.str (txr r))] h = .ok (.int (wsum s 0 r : Int)) h :=
    callP (n := n + 4) (k := 42) (args_cons (d := .str (nmS s)) (h1 := h) rfl (args1 (d := .str (txr r)) (h1 := h) rfl)) (lsum_call (n := n + 1) hs hd hl)
  have k2 : (ev (pC P (n + 4) h false) (.bi .int [.call 42 [.var 0, .var 1]])).v [some (.str (nmS s)), some (.str (txr r))] h = .ok (.int (wsum s 0 r : Int)) h := (bi_ev k1).trans rfl
  have ce : ∀ s, s < 4 → cmpF .Eq (.str (nmS s)) (.str [101, 108, 101, 118, 101, 110]) h = .ok (.bl (decide (s = 3))) h := four (eqS_f.trans rfl) (eqS_f.trans rfl) (eqS_f.trans rfl) (eqS_f.trans rfl)
  have c1 : (ev (pC P (n + 4) h false) (.cmp .Eq (.var 0) (.cstr [101, 108, 101, 118, 101, 110]))).t [some (.str (nmS s)), some (.str (txr r))] h = .ok (decide (s = 3)) h :=
    tru_v ((cmp_ev (x := .str (nmS s)) (y := .str [101, 108, 101, 118, 101, 110]) (h1 := h) (h2 := h) rfl rfl).trans (ce s hs)) rfl
  have k3 : (ev (pC P (n + 4) h false) (.ife (.cmp .Eq (.var 0) (.cstr [101, 108, 101, 118, 101, 110])) (.cint 11) (.cint 10))).v [some (.str (nmS s)), some (.str (txr r))] h = .ok (.int (bs s : Int)) h := by
    unfold bs
    by_cases h3 : s = 3
    · rw [decide_eq_true h3] at c1
      rw [if_pos h3, ife_t c1]
      rfl
    · rw [decide_eq_false h3] at c1
      rw [if_neg h3, ife_f c1]
      rfl
  have k4 := (bin_ev (op := .Mod) k2 k3).trans (mod_f (bs_pos s))
  have k5 := (cmp_ev (op := .Eq) (e2 := .cint 0) (y := .int 0) k4 rfl).trans (eqF_int _ _ _)
  rw [show decide ((wsum s 0 r : Int) % (bs s : Int) = 0) = decide (Rt s r) from decide_eq_decide.mpr (by unfold Rt; omega)] at k5
  exact pure_ret (f := ⟨2, 2, b43, true, false⟩) (n := n + 4) rfl rfl rfl (ss_ret (ret_ev k5)) rfl
end
theorem txr_swp {r : List Nat} {i : Nat} (hi : i + 1 < r.length) : (txr r).take (r.length - 2 - i) ++ [cd (gd r i)] ++ [cd (gd r (i + 1))] ++ (txr r).drop (r.length - 2 - i + 2) = txr (swp r i) := by
  have h1 := txr_set (r := r) (o := gd r (i + 1)) (show i < r.length by omega)
  have h2 := txr_set (r := r.set i (gd r (i + 1))) (o := gd r i) (show i + 1 < (r.set i (gd r (i + 1))).length by rw [List.length_set]; exact hi)
  rw [List.length_set, ← h1] at h2
  unfold swp
  rw [← h2]
  rw [show r.length - 1 - (i + 1) = r.length - 2 - i by omega, show r.length - 1 - i = r.length - 2 - i + 1 by omega]
  have hl : (txr r).length = r.length := txr_len
  have hj : r.length - 2 - i + 1 ≤ (txr r).length := by rw [hl]; omega
  generalize r.length - 2 - i = j at *
  generalize txr r = T at *
  have e1 : (List.take (j + 1) T ++ [cd (gd r (i + 1))] ++ List.drop (j + 1 + 1) T).take j = T.take j := by
    rw [List.append_assoc, List.take_append_of_le_length (by rw [List.length_take]; omega), List.take_take, Nat.min_eq_left (by omega)]
  have e2 : (List.take (j + 1) T ++ [cd (gd r (i + 1))] ++ List.drop (j + 1 + 1) T).drop (j + 1) = [cd (gd r (i + 1))] ++ List.drop (j + 1 + 1) T := by
    rw [List.append_assoc, List.drop_left' (by rw [List.length_take]; omega)]
  rw [e1, e2]
  simp
def sl1 (s : Nat) (r : List Nat) (m : Nat) : List (List Nat) := (List.range m).flatMap fun k => (List.range (lsg s r.length k)).map fun o => r.set (r.length - 1 - k) o
def sl2 (r : List Nat) (m : Nat) : List (List Nat) := ((List.range m).filter fun k => decide (k + 1 < r.length - 1) || decide (gd r 0 ≠ 10)).map fun k => swp r (r.length - 2 - k)
theorem slp_eq {s : Nat} {r : List Nat} : slp s r = sl1 s r r.length ++ sl2 r (r.length - 1) := rfl
theorem sD_app {a b : List (List Nat)} : sD (a ++ b) = sD a ++ sD b := by unfold sD; rw [List.map_append]
theorem lsg_le {s n k : Nat} : lsg s n k ≤ 11 ∧ 10 ≤ lsg s n k := by unfold lsg; split <;> omega
def bSw : List S := [.ite (.orv (.cmp .Lt (.bin .Add (.var 4) (.cint 1)) (.var 3)) (.cmp .NotEq (.idx (.var 1) (.var 3)) (.cstr [120]))) [.expr (.bm .append (.var 2) [.bin .Add (.bin .Add (.bin .Add (.slc (.var 1) .cnon (.var 4)) (.idx (.var 1) (.bin .Add (.var 4) (.cint 1)))) (.idx (.var 1) (.var 4))) (.slc (.var 1) (.bin .Add (.var 4) (.cint 2)) .cnon)])] []]
section
variable {n b s : Nat} {h : Heap}
theorem signs_ev {C : Ctx} {T : List Nat} {G : Heap} {k m : Nat} {x2 x5 : Option D} (hs : s < 4) (hm : 1 ≤ m) :
    (ev C (.bin .Add (.cstr [48, 49, 50, 51, 52, 53, 54, 55, 56, 57]) (.ife (.andv (.cmp .Eq (.var 0) (.cstr [101, 108, 101, 118, 101, 110])) (.cmp .Eq (.var 4) (.var 3))) (.cstr [120]) (.cstr [])))).v [some (.str (nmS s)), some (.str T), x2, iv (m - 1), iv k, x5] G = .ok (.str (NS (lsg s m k))) G := by
  have ce : ∀ s, s < 4 → cmpF .Eq (.str (nmS s)) (.str [101, 108, 101, 118, 101, 110]) G = .ok (.bl (decide (s = 3))) G := four (eqS_f.trans rfl) (eqS_f.trans rfl) (eqS_f.trans rfl) (eqS_f.trans rfl)
  have c1 : (ev C (.cmp .Eq (.var 0) (.cstr [101, 108, 101, 118, 101, 110]))).t [some (.str (nmS s)), some (.str T), x2, iv (m - 1), iv k, x5] G = .ok (decide (s = 3)) G :=
    tru_v ((cmp_ev (x := .str (nmS s)) (y := .str [101, 108, 101, 118, 101, 110]) (h1 := G) (h2 := G) rfl rfl).trans (ce s hs)) rfl
  have c2 : (ev C (.cmp .Eq (.var 4) (.var 3))).t [some (.str (nmS s)), some (.str T), x2, iv (m - 1), iv k, x5] G = .ok (decide ((k : Int) = ((m - 1 : Nat) : Int))) G :=
    tru_v ((cmp_ev (x := .int (k : Int)) (y := .int ((m - 1 : Nat) : Int)) (h1 := G) (h2 := G) rfl rfl).trans (eqF_int _ _ _)) rfl
  have n11 : NS 11 = [48, 49, 50, 51, 52, 53, 54, 55, 56, 57] ++ [120] := rfl
  have n10 : NS 10 = [48, 49, 50, 51, 52, 53, 54, 55, 56, 57] ++ [] := rfl
  unfold lsg
  by_cases h3 : s = 3
  · rw [decide_eq_true h3] at c1
    by_cases hk : k + 1 = m
    · rw [decide_eq_true (by omega)] at c2
      rw [if_pos ⟨h3, hk⟩, n11]
      exact (bin_ev (h1 := G) (h2 := G) (x := .str [48, 49, 50, 51, 52, 53, 54, 55, 56, 57]) (y := .str [120]) rfl ((ife_t (and_tt c1 c2)).trans rfl)).trans (cat_f (by decide))
    · rw [decide_eq_false (by omega)] at c2
      rw [if_neg (fun e => hk e.2), n10]
      exact (bin_ev (h1 := G) (h2 := G) (x := .str [48, 49, 50, 51, 52, 53, 54, 55, 56, 57]) (y := .str []) rfl ((ife_f (and_tt c1 c2)).trans rfl)).trans (cat_f (by decide))
  · rw [decide_eq_false h3] at c1
    rw [if_neg (fun e => h3 e.1), n10]
    exact (bin_ev (h1 := G) (h2 := G) (x := .str [48, 49, 50, 51, 52, 53, 54, 55, 56, 57]) (y := .str []) rfl ((ife_f (and_tf c1)).trans rfl)).trans (cat_f (by decide))
theorem slips_call {r : List Nat} (hs : s < 4) (hd : Dg r) (h1 : 1 ≤ r.length) (hl : r.length ≤ 100) : callF P (n + 4) b 44 [.str (nmS s), .str (txr r)] h = .ok (.ref h.length) (h ++ [HV.lst (sD ((slp s r).map txr))]) := by
  have hfu : 4000 ≤ P.fuel := hf
  have hTl : (txr r).length = r.length := txr_len
  have s1 : execS (pC P (n + 2) h false) (.set 2 (.lst [])) [some (.str (nmS s)), some (.str (txr r)), none, none, none, none] h = .nx [some (.str (nmS s)), some (.str (txr r)), some (.ref h.length), none, none, none] (h ++ [HV.lst []]) := set_ev (lst_ev (ds := []) args_nil (by show 0 ≤ 1000; omega))
  have k1 : (ev (pC P (n + 2) h false) (.bi .len [.var 1])).v [some (.str (nmS s)), some (.str (txr r)), some (.ref h.length), none, none, none] (h ++ [HV.lst []]) = .ok (.int (r.length : Int)) (h ++ [HV.lst []]) := by
    rw [← txr_len]
    exact lenS_ev rfl
  have k2 := subN_ev (c := 1) h1 k1 one_ev
  have s2 : execS (pC P (n + 2) h false) (.set 3 (.bin .Sub (.bi .len [.var 1]) (.cint 1))) [some (.str (nmS s)), some (.str (txr r)), some (.ref h.length), none, none, none] (h ++ [HV.lst []]) = .nx [some (.str (nmS s)), some (.str (txr r)), some (.ref h.length), iv (r.length - 1), none, none] (h ++ [HV.lst []]) := set_ev k2
  have k3 : (ev (pC P (n + 2) h false) (.bi .len [.var 1])).v [some (.str (nmS s)), some (.str (txr r)), some (.ref h.length), iv (r.length - 1), none, none] (h ++ [HV.lst []]) = .ok (.int (r.length : Int)) (h ++ [HV.lst []]) := by
    rw [← txr_len (r := r)]
    exact lenS_ev rfl
  have hr := rng1_ev k3 (rs_of (by omega) (by omega))
  rw [Int.toNat_natCast] at hr
  have hW := walks_rng (h := h) (lo := 0) (n := r.length)
  obtain ⟨e2, s3, q1, x4, x5, L, rfl, rfl, rfl, hL⟩ := for_rule (C := pC P (n + 2) h false) (tg := .nm 4) (it := .rng1 (.bi .len [.var 1])) (n := r.length) (w := .rng 0 r.length 1) (b := [.for_ (.nm 5) (.bin .Add (.cstr [48, 49, 50, 51, 52, 53, 54, 55, 56, 57]) (.ife (.andv (.cmp .Eq (.var 0) (.cstr [101, 108, 101, 118, 101, 110])) (.cmp .Eq (.var 4) (.var 3))) (.cstr [120]) (.cstr []))) [.expr (.bm .append (.var 2) [.bin .Add (.bin .Add (.slc (.var 1) .cnon (.var 4)) (.var 5)) (.slc (.var 1) (.bin .Add (.var 4) (.cint 1)) .cnon)])]]) (env := [some (.str (nmS s)), some (.str (txr r)), some (.ref h.length), iv (r.length - 1), none, none]) (h := h ++ [HV.lst []]) (h1 := h ++ [HV.lst []])
    (I := fun i e t => ∃ x4 x5 L, e = [some (.str (nmS s)), some (.str (txr r)), some (.ref h.length), iv (r.length - 1), x4, x5] ∧ t = h ++ [HV.lst (sD (L.map txr))] ∧ L = sl1 s r i ∧ L.length ≤ 11 * i)
    hr ⟨none, none, [], rfl, rfl, rfl, Nat.le_refl _⟩
    (fun i e s' hi ⟨x4, x5, L, e1, e2, e3, e4⟩ => by
      subst e1 e2
      have n1 := (hW [HV.lst (sD (L.map txr))]).1 i (by rw [intsD_len]; exact hi)
      rw [intsD_get, show (0 : Int) + (i : Int) = (i : Int) by omega] at n1
      have itv := signs_ev (C := pC P (n + 2) h false) (T := txr r) (G := h ++ [HV.lst (sD (L.map txr))]) (k := i) (m := r.length) (x2 := some (.ref h.length)) (x5 := x5) hs h1
      have hW2 := walks_str (h := h) (s := NS (lsg s r.length i))
      have hml : ((NS (lsg s r.length i)).map fun c => D.str [c]).length = lsg s r.length i := by rw [List.length_map, NS_len]
      have hlg := lsg_le (s := s) (n := r.length) (k := i)
      have hset : ∀ o, (txr r).take i ++ [cd o] ++ (txr r).drop (i + 1) = txr (r.set (r.length - 1 - i) o) := fun o => by
        have := txr_set (r := r) (o := o) (i := r.length - 1 - i) (by omega)
        rw [show r.length - 1 - (r.length - 1 - i) = i by omega] at this
        exact this
      obtain ⟨e5, s5, q2, y5, L2, rfl, rfl, rfl, l2⟩ := for_rule (C := pC P (n + 2) h false) (tg := .nm 5) (it := .bin .Add (.cstr [48, 49, 50, 51, 52, 53, 54, 55, 56, 57]) (.ife (.andv (.cmp .Eq (.var 0) (.cstr [101, 108, 101, 118, 101, 110])) (.cmp .Eq (.var 4) (.var 3))) (.cstr [120]) (.cstr []))) (n := lsg s r.length i) (w := .str (NS (lsg s r.length i))) (b := [.expr (.bm .append (.var 2) [.bin .Add (.bin .Add (.slc (.var 1) .cnon (.var 4)) (.var 5)) (.slc (.var 1) (.bin .Add (.var 4) (.cint 1)) .cnon)])]) (env := [some (.str (nmS s)), some (.str (txr r)), some (.ref h.length), iv (r.length - 1), iv i, x5]) (h := h ++ [HV.lst (sD (L.map txr))]) (h1 := h ++ [HV.lst (sD (L.map txr))])
        (I := fun j e t => ∃ y5 L2, e = [some (.str (nmS s)), some (.str (txr r)), some (.ref h.length), iv (r.length - 1), iv i, y5] ∧ t = h ++ [HV.lst (sD (L2.map txr))] ∧ L2 = L ++ (List.range j).map (fun o => r.set (r.length - 1 - i) o) ∧ L2.length ≤ 11 * i + j)
        (iter_v itv rfl rfl) ⟨x5, L, rfl, rfl, (by simp), e4⟩
        (fun j e s' hj ⟨y5, L2, e1, e2, e3, e4⟩ => by
          subst e1 e2
          have n2 := (hW2 [HV.lst (sD (L2.map txr))]).1 j (by rw [hml]; exact hj)
          rw [NS_get] at n2
          generalize hG : h ++ [HV.lst (sD (L2.map txr))] = G at n2
          have a1 : (ev (pC P (n + 2) h false) (.slc (.var 1) .cnon (.var 4))).v [some (.str (nmS s)), some (.str (txr r)), some (.ref h.length), iv (r.length - 1), iv i, some (.str [cd j])] G = .ok (.str ((txr r).take i)) G := slcS_to (h1 := G) rfl rfl rfl (by omega)
          have a2 : (ev (pC P (n + 2) h false) (.bin .Add (.slc (.var 1) .cnon (.var 4)) (.var 5))).v [some (.str (nmS s)), some (.str (txr r)), some (.ref h.length), iv (r.length - 1), iv i, some (.str [cd j])] G = .ok (.str ((txr r).take i ++ [cd j])) G := (bin_ev (y := .str [cd j]) (h2 := G) a1 rfl).trans (cat_f (by rw [List.length_take, List.length_singleton]; omega))
          have a3 : (ev (pC P (n + 2) h false) (.bin .Add (.var 4) (.cint 1))).v [some (.str (nmS s)), some (.str (txr r)), some (.ref h.length), iv (r.length - 1), iv i, some (.str [cd j])] G = .ok (.int ((i + 1 : Nat) : Int)) G := addN_ev (h1 := G) rfl one_ev
          have a4 : (ev (pC P (n + 2) h false) (.slc (.var 1) (.bin .Add (.var 4) (.cint 1)) .cnon)).v [some (.str (nmS s)), some (.str (txr r)), some (.ref h.length), iv (r.length - 1), iv i, some (.str [cd j])] G = .ok (.str ((txr r).drop (i + 1))) G := slcS_from (h1 := G) rfl a3 rfl (by omega)
          have a5 := (bin_ev (op := .Add) a2 a4).trans (cat_f (by rw [List.length_append, List.length_take, List.length_drop, List.length_singleton]; omega))
          rw [hset j] at a5
          rw [← hG] at a5 n2 ⊢
          have k5 := app_ev0 (C := pC P (n + 2) h false) (o := .var 2) (q := h.length) (h1 := h) (xs := sD (L2.map txr)) rfl rfl (Nat.le_refl _) a5 (by rw [sD_len, List.length_map]; omega)
          refine ⟨.str [cd j], _, _, _, n2, rfl, (ss_nx k5).trans rfl, some (.str [cd j]), L2 ++ [r.set (r.length - 1 - i) j], rfl, ?_, ?_, ?_⟩
          · rw [List.map_append, sD_app]
            rfl
          · rw [List.range_succ, List.map_append, ← List.append_assoc, ← e3]
            rfl
          · rw [List.length_append, List.length_singleton]; omega)
        (fun e s' ⟨y5, L2, e1, e2, _⟩ => by
          subst e2
          have := (hW2 [HV.lst (sD (L2.map txr))]).2
          rw [hml] at this
          exact this) (by show lsg s r.length i < P.fuel; omega)
      refine ⟨.int (i : Int), _, _, _, n1, rfl, (ss_nx q2).trans rfl, iv i, y5, _, rfl, rfl, ?_, by omega⟩
      unfold sl1
      rw [List.range_succ, fm_snoc, e3]
      rfl)
    (fun e s' ⟨x4, x5, L, e1, e2, _⟩ => by
      subst e2
      have := (hW [HV.lst (sD (L.map txr))]).2
      rw [intsD_len] at this
      exact this) (by show r.length < P.fuel; omega)
  have hr2 := rng1_ev (C := pC P (n + 2) h false) (e := .var 3) (env := [some (.str (nmS s)), some (.str (txr r)), some (.ref h.length), iv (r.length - 1), x4, x5]) (h := h ++ [HV.lst (sD ((sl1 s r r.length).map txr))]) (h1 := h ++ [HV.lst (sD ((sl1 s r r.length).map txr))]) (j := ((r.length - 1 : Nat) : Int)) rfl (rs_of (by omega) (by omega))
  rw [Int.toNat_natCast] at hr2
  have hW3 := walks_rng (h := h) (lo := 0) (n := r.length - 1)
  obtain ⟨e3, s4, q3, y4, y5, L, rfl, rfl, rfl, _⟩ := for_rule (C := pC P (n + 2) h false) (tg := .nm 4) (it := .rng1 (.var 3)) (n := r.length - 1) (w := .rng 0 (r.length - 1) 1) (b := bSw) (env := [some (.str (nmS s)), some (.str (txr r)), some (.ref h.length), iv (r.length - 1), x4, x5]) (h := h ++ [HV.lst (sD ((sl1 s r r.length).map txr))]) (h1 := h ++ [HV.lst (sD ((sl1 s r r.length).map txr))])
    (I := fun i e t => ∃ y4 y5 L, e = [some (.str (nmS s)), some (.str (txr r)), some (.ref h.length), iv (r.length - 1), y4, y5] ∧ t = h ++ [HV.lst (sD (L.map txr))] ∧ L = sl1 s r r.length ++ sl2 r i ∧ L.length ≤ 11 * r.length + i)
    hr2 ⟨x4, x5, sl1 s r r.length, rfl, rfl, (List.append_nil _).symm, hL⟩
    (fun i e s' hi ⟨y4, y5, L, e1, e2, e3, e4⟩ => by
      subst e1 e2
      have n1 := (hW3 [HV.lst (sD (L.map txr))]).1 i (by rw [intsD_len]; exact hi)
      rw [intsD_get, show (0 : Int) + (i : Int) = (i : Int) by omega] at n1
      generalize hG : h ++ [HV.lst (sD (L.map txr))] = G at n1
      have a1 : (ev (pC P (n + 2) h false) (.bin .Add (.var 4) (.cint 1))).v [some (.str (nmS s)), some (.str (txr r)), some (.ref h.length), iv (r.length - 1), iv i, y5] G = .ok (.int ((i + 1 : Nat) : Int)) G := addN_ev (h1 := G) rfl one_ev
      have c1 := tru_v ((cmp_ev (op := .Lt) (e2 := .var 3) (y := .int ((r.length - 1 : Nat) : Int)) (h2 := G) a1 rfl).trans lt_f) rfl
      have a2 : (ev (pC P (n + 2) h false) (.idx (.var 1) (.var 3))).v [some (.str (nmS s)), some (.str (txr r)), some (.ref h.length), iv (r.length - 1), iv i, y5] G = .ok (.str [cd (gd r 0)]) G := by
        have := (idx_ev (C := pC P (n + 2) h false) (e := .var 1) (e2 := .var 3) (env := [some (.str (nmS s)), some (.str (txr r)), some (.ref h.length), iv (r.length - 1), iv i, y5]) (h := G) (x := .str (txr r)) (y := .int ((r.length - 1 : Nat) : Int)) (h1 := G) (h2 := G) rfl rfl).trans (idxS_f (by rw [txr_len]; omega))
        have e := txr_at (r := r) (i := 0) (by omega) (by rw [txr_len]; omega)
        simp only [Nat.sub_zero] at e
        rw [e] at this
        exact this
      have c2 : (ev (pC P (n + 2) h false) (.cmp .NotEq (.idx (.var 1) (.var 3)) (.cstr [120]))).t [some (.str (nmS s)), some (.str (txr r)), some (.ref h.length), iv (r.length - 1), iv i, y5] G = .ok (decide (gd r 0 ≠ 10)) G := by
        have := tru_v ((cmp_ev (op := .NotEq) (e2 := .cstr [120]) (y := .str [120]) (h2 := G) a2 rfl).trans neS_f) rfl
        have e : eqL [cd (gd r 0)] [120] = decide (gd r 0 = 10) := eqL_cd (o := 10) hd.gd (Nat.le_refl _)
        rw [e] at this
        rw [this]
        by_cases h0 : gd r 0 = 10
        · rw [decide_eq_true h0, decide_eq_false (fun e => e h0)]; rfl
        · rw [decide_eq_false h0, decide_eq_true h0]; rfl
      have c3 : (ev (pC P (n + 2) h false) (.orv (.cmp .Lt (.bin .Add (.var 4) (.cint 1)) (.var 3)) (.cmp .NotEq (.idx (.var 1) (.var 3)) (.cstr [120])))).t [some (.str (nmS s)), some (.str (txr r)), some (.ref h.length), iv (r.length - 1), iv i, y5] G = .ok (decide (i + 1 < r.length - 1) || decide (gd r 0 ≠ 10)) G := by
        by_cases h0 : i + 1 < r.length - 1
        · rw [decide_eq_true (show ((i + 1 : Nat) : Int) < ((r.length - 1 : Nat) : Int) by omega)] at c1
          rw [decide_eq_true h0, Bool.true_or]
          exact or_tt c1
        · rw [decide_eq_false (show ¬ ((i + 1 : Nat) : Int) < ((r.length - 1 : Nat) : Int) by omega)] at c1
          rw [decide_eq_false h0, Bool.false_or]
          exact or_tf c1 c2
      have hsl : sl2 r (i + 1) = sl2 r i ++ (if decide (i + 1 < r.length - 1) || decide (gd r 0 ≠ 10) then [swp r (r.length - 2 - i)] else []) := by
        unfold sl2
        rw [List.range_succ, filt_snoc, List.map_append]
        cases (decide (i + 1 < r.length - 1) || decide (gd r 0 ≠ 10)) with
        | true => rw [if_pos rfl, if_pos rfl, List.map_cons, List.map_nil]
        | false => rw [if_neg Bool.false_ne_true, if_neg Bool.false_ne_true, List.map_nil]
      cases hc : (decide (i + 1 < r.length - 1) || decide (gd r 0 ≠ 10)) with
      | true =>
        rw [hc] at c3 hsl
        rw [if_pos rfl] at hsl
        have b1 : (ev (pC P (n + 2) h false) (.slc (.var 1) .cnon (.var 4))).v [some (.str (nmS s)), some (.str (txr r)), some (.ref h.length), iv (r.length - 1), iv i, y5] G = .ok (.str ((txr r).take i)) G := slcS_to (h1 := G) rfl rfl rfl (by omega)
        have g1 : (ev (pC P (n + 2) h false) (.idx (.var 1) (.bin .Add (.var 4) (.cint 1)))).v [some (.str (nmS s)), some (.str (txr r)), some (.ref h.length), iv (r.length - 1), iv i, y5] G = .ok (.str [cd (gd r (r.length - 2 - i))]) G := by
          have := (idx_ev (e := .var 1) (x := .str (txr r)) (h1 := G) rfl a1).trans (idxS_f (by rw [txr_len]; omega))
          have e := txr_at (r := r) (i := r.length - 2 - i) (by omega) (by rw [txr_len]; omega)
          simp only [show r.length - 1 - (r.length - 2 - i) = i + 1 by omega] at e
          rw [e] at this
          exact this
        have g2 : (ev (pC P (n + 2) h false) (.idx (.var 1) (.var 4))).v [some (.str (nmS s)), some (.str (txr r)), some (.ref h.length), iv (r.length - 1), iv i, y5] G = .ok (.str [cd (gd r (r.length - 2 - i + 1))]) G := by
          have := (idx_ev (C := pC P (n + 2) h false) (e := .var 1) (e2 := .var 4) (env := [some (.str (nmS s)), some (.str (txr r)), some (.ref h.length), iv (r.length - 1), iv i, y5]) (h := G) (x := .str (txr r)) (y := .int (i : Int)) (h1 := G) (h2 := G) rfl rfl).trans (idxS_f (by rw [txr_len]; omega))
          have e := txr_at (r := r) (i := r.length - 2 - i + 1) (by omega) (by rw [txr_len]; omega)
          simp only [show r.length - 1 - (r.length - 2 - i + 1) = i by omega] at e
          rw [e] at this
          exact this
        have b2 := (bin_ev (op := .Add) b1 g1).trans (cat_f (by rw [List.length_take, List.length_singleton]; omega))
        have b3 := (bin_ev (op := .Add) b2 g2).trans (cat_f (by rw [List.length_append, List.length_take, List.length_singleton, List.length_singleton]; omega))
        have a3 : (ev (pC P (n + 2) h false) (.bin .Add (.var 4) (.cint 2))).v [some (.str (nmS s)), some (.str (txr r)), some (.ref h.length), iv (r.length - 1), iv i, y5] G = .ok (.int ((i + 2 : Nat) : Int)) G := addN_ev (c := 2) (h1 := G) rfl rfl
        have b4 : (ev (pC P (n + 2) h false) (.slc (.var 1) (.bin .Add (.var 4) (.cint 2)) .cnon)).v [some (.str (nmS s)), some (.str (txr r)), some (.ref h.length), iv (r.length - 1), iv i, y5] G = .ok (.str ((txr r).drop (i + 2))) G := slcS_from (h1 := G) rfl a3 rfl (by omega)
        have b5 := (bin_ev (op := .Add) b3 b4).trans (cat_f (by rw [List.length_append, List.length_append, List.length_take, List.length_drop, List.length_singleton, List.length_singleton]; omega))
        have hsw := txr_swp (r := r) (i := r.length - 2 - i) (by omega)
        rw [show r.length - 2 - (r.length - 2 - i) = i by omega] at hsw
        rw [hsw] at b5
        rw [← hG] at b5 n1 c3 ⊢
        have k5 := app_ev0 (C := pC P (n + 2) h false) (o := .var 2) (q := h.length) (h1 := h) (xs := sD (L.map txr)) rfl rfl (Nat.le_refl _) b5 (by rw [sD_len, List.length_map]; omega)
        have st : execSs (pC P (n + 2) h false) bSw [some (.str (nmS s)), some (.str (txr r)), some (.ref h.length), iv (r.length - 1), iv i, y5] (h ++ [HV.lst (sD (L.map txr))]) = .nx [some (.str (nmS s)), some (.str (txr r)), some (.ref h.length), iv (r.length - 1), iv i, y5] (h ++ [HV.lst (sD (L.map txr) ++ [.str (txr (swp r (r.length - 2 - i)))])]) := (ss_nx ((ite_t c3).trans ((ss_nx k5).trans rfl))).trans rfl
        have z1 : h ++ [HV.lst (sD (L.map txr) ++ [.str (txr (swp r (r.length - 2 - i)))])] = h ++ [HV.lst (sD ((L ++ [swp r (r.length - 2 - i)]).map txr))] := by
          rw [List.map_append, sD_app]
          rfl
        have z2 : L ++ [swp r (r.length - 2 - i)] = sl1 s r r.length ++ sl2 r (i + 1) := by rw [hsl, e3, List.append_assoc]
        have z3 : (L ++ [swp r (r.length - 2 - i)]).length ≤ 11 * r.length + (i + 1) := by rw [List.length_append, List.length_singleton]; omega
        exact ⟨.int (i : Int), [some (.str (nmS s)), some (.str (txr r)), some (.ref h.length), iv (r.length - 1), iv i, y5], _, _, n1, rfl, st, iv i, y5, L ++ [swp r (r.length - 2 - i)], rfl, z1, z2, z3⟩
      | false =>
        rw [hc] at c3 hsl
        rw [if_neg Bool.false_ne_true, List.append_nil] at hsl
        rw [← hG] at n1 c3 ⊢
        exact ⟨.int (i : Int), _, _, _, n1, rfl, (ss_nx ((ite_f c3).trans rfl)).trans rfl, iv i, y5, L, rfl, rfl, by rw [hsl]; exact e3, by omega⟩)
    (fun e s' ⟨y4, y5, L, e1, e2, _⟩ => by
      subst e2
      have := (hW3 [HV.lst (sD (L.map txr))]).2
      rw [intsD_len] at this
      exact this) (by show r.length - 1 < P.fuel; omega)
  rw [slp_eq]
  exact pure_lst (f := ⟨2, 6, b44, true, false⟩) (n := n + 2) (a := h.length) rfl rfl rfl ((ss_nx s1).trans ((ss_nx s2).trans ((ss_nx q1).trans ((ss_nx q3).trans (ss_ret (ret_ev rfl)))))) at_mid (Nat.le_refl _) (sD_under _ _)
end
theorem isIn_sD (x : List Nat) : ∀ ws : List (List Nat), isIn (.str x) (sD ws) = some (decide (x ∈ ws))
  | [] => rfl
  | y :: ws => by
    show (match eqW (.str y) (.str x), isIn (.str x) (sD ws) with | some a, some b => some (a || b) | _, _ => none) = _
    rw [isIn_sD x ws]
    show some (eqL y x || decide (x ∈ ws)) = _
    rw [eqL_iff]
    congr 1
    rw [← Bool.decide_or]
    exact decide_eq_decide.mpr (by rw [List.mem_cons]; exact ⟨fun h => h.imp (fun e => e.symm) id, fun h => h.imp (fun e => e.symm) id⟩)
theorem inop_sD {h : Heap} {y : D} {ws : List (List Nat)} (hy : items? h y = some (sD ws)) (x : List Nat) : inop (.str x) y h = some (decide (x ∈ ws)) := by
  cases y <;> first | (cases hy; done) | skip
  · cases hy; exact isIn_sD x ws
  · have e := items_ref hy
    show (match h.at _ with | some (.lst ds) => isIn (.str x) ds | some (.dic kvs) => if (D.str x).keyK then some (lookD (.str x) kvs).isSome else none | _ => none) = _
    rw [e]
    exact isIn_sD x ws
theorem notin_sD {h : Heap} {y : D} {ws : List (List Nat)} (hy : items? h y = some (sD ws)) (x : List Nat) : cmpF .NotIn (.str x) y h = .ok (.bl (!decide (x ∈ ws))) h := by
  show optR (((inop (.str x) y h).map not).map D.bl) h = _
  rw [inop_sD hy]
  rfl
theorem seq_next {s : Heap} {a i : Nat} {ds : List D} (e : s.at a = some (.lst ds)) (hi : i < ds.length) : (It.seq a).next i s = .item ds[i] := by
  have := (walks_seq e []).1 i hi
  rw [List.append_nil] at this
  exact this
theorem seq_stop {s : Heap} {a : Nat} {ds : List D} (e : s.at a = some (.lst ds)) : (It.seq a).next ds.length s = .stop := by
  have := (walks_seq e []).2
  rw [List.append_nil] at this
  exact this
theorem ded_snoc : ∀ (l acc : List (List Nat)) (x : List Nat), ded acc (l ++ [x]) = if x ∈ ded acc l then ded acc l else ded acc l ++ [x]
  | [], acc, x => rfl
  | y :: l, acc, x => ded_snoc l _ x
theorem ded_len : ∀ (l acc : List (List Nat)), (ded acc l).length ≤ acc.length + l.length
  | [], acc => Nat.le_refl _
  | x :: l, acc => by
    have := ded_len l (if x ∈ acc then acc else acc ++ [x])
    unfold ded
    have h2 : (if x ∈ acc then acc else acc ++ [x]).length ≤ acc.length + 1 := by
      split
      · omega
      · rw [List.length_append, List.length_singleton]; omega
    rw [List.length_cons]
    omega
theorem ded_sub {l : List (List Nat)} {y : List Nat} (h : y ∈ ded [] l) : y ∈ l := by
  rcases ((ded_spec l [] List.nodup_nil).2 y).mp h with h | h
  · cases h
  · exact h
def mdi (s : Nat) (r : List Nat) (i : Nat) : List (List Nat) := ded [] (((slp s r).take i).filter (fnd s r))
theorem slp_dg {s : Nat} {r : List Nat} (hd : Dg r) : ∀ y ∈ slp s r, Dg y ∧ y.length = r.length := fun y hy => by
  rw [slp_eq] at hy
  rcases List.mem_append.mp hy with hy | hy
  · unfold sl1 at hy
    obtain ⟨k, _, hy⟩ := List.mem_flatMap.mp hy
    obtain ⟨o, ho, rfl⟩ := List.mem_map.mp hy
    have := List.mem_range.mp ho
    have := (lsg_le (s := s) (n := r.length) (k := k)).1
    exact ⟨hd.set (by omega), List.length_set⟩
  · unfold sl2 at hy
    obtain ⟨k, _, rfl⟩ := List.mem_map.mp hy
    exact ⟨(hd.set hd.gd).set hd.gd, swp_len⟩
theorem slp_len {s : Nat} {r : List Nat} : (slp s r).length ≤ 12 * r.length := by
  rw [slp_eq, List.length_append]
  have h1 : ∀ m, (sl1 s r m).length ≤ 11 * m := by
    intro m
    induction m with
    | zero => exact Nat.le_refl _
    | succ m ih =>
      unfold sl1 at ih ⊢
      rw [List.range_succ, fm_snoc, List.length_append, List.length_map, List.length_range]
      have := (lsg_le (s := s) (n := r.length) (k := m)).1
      omega
  have h2 : (sl2 r (r.length - 1)).length ≤ r.length - 1 := by
    unfold sl2
    rw [List.length_map]
    have := List.length_filter_le (fun k => decide (k + 1 < r.length - 1) || decide (gd r 0 ≠ 10)) (List.range (r.length - 1))
    rw [List.length_range] at this
    exact this
  have := h1 r.length
  omega
theorem mem_txr {l : List (List Nat)} {y : List Nat} (h1 : ∀ x ∈ l, Dg x) (hy : Dg y) : txr y ∈ l.map txr ↔ y ∈ l := by
  rw [List.mem_map]
  constructor
  · rintro ⟨x, hx, e⟩
    rw [← txr_inj (h1 x hx) hy e]
    exact hx
  · exact fun h => ⟨y, h, rfl⟩
theorem app_evg {C : Ctx} {c o : E} {env : Env} {h h1 g : Heap} {xs : List D} {x : D} (ho : (ev C o).v env h = .ok (.ref h1.length) (h1 ++ HV.lst xs :: g)) (hb : C.base ≤ h1.length) (he : (ev C c).v env (h1 ++ HV.lst xs :: g) = .ok x (h1 ++ HV.lst xs :: g)) (hl : xs.length < 100000) :
    execS C (.expr (.bm .append o [c])) env h = .nx env (h1 ++ HV.lst (xs ++ [x]) :: g) := by
  refine expr_ev ((bm_ev (m := .append) ho ?_ (args1 he)).trans (app_f hb rfl hl))
  show (match (h1 ++ HV.lst xs :: g).at h1.length with | some (.lst _) => true | _ => false) = true
  rw [at_mid]
def bMis : List S := [.ite (.andv (.cmp .NotEq (.var 3) (.var 1)) (.andv (.call 43 [.var 0, .var 3]) (.cmp .NotIn (.var 3) (.var 2)))) [.expr (.bm .append (.var 2) [.var 3])] []]
section
variable {n b s : Nat} {h : Heap}
theorem mis_step {r y : List Nat} {A : List (List Nat)} {U : List D} (hs : s < 4) (hd : Dg r) (hy : Dg y) (hl : y.length ≤ 900) (hA : ∀ x ∈ A, Dg x) (hAl : A.length ≤ 1000) :
    execSs (pC P (n + 6) h false) bMis [some (.str (nmS s)), some (.str (txr r)), some (.ref h.length), some (.str (txr y))] (h ++ HV.lst (sD (A.map txr)) :: [HV.lst U]) = .nx [some (.str (nmS s)), some (.str (txr r)), some (.ref h.length), some (.str (txr y))] (h ++ HV.lst (sD ((if fnd s r y = true ∧ y ∉ A then A ++ [y] else A).map txr)) :: [HV.lst U]) := by
  generalize hG : h ++ HV.lst (sD (A.map txr)) :: [HV.lst U] = G
  have aG : G.at h.length = some (HV.lst (sD (A.map txr))) := by rw [← hG]; exact at_mid
  have c1 : (ev (pC P (n + 6) h false) (.cmp .NotEq (.var 3) (.var 1))).t [some (.str (nmS s)), some (.str (txr r)), some (.ref h.length), some (.str (txr y))] G = .ok (decide (y ≠ r)) G := by
    have := tru_v ((cmp_ev (C := pC P (n + 6) h false) (op := .NotEq) (e := .var 3) (e2 := .var 1) (x := .str (txr y)) (y := .str (txr r)) (env := [some (.str (nmS s)), some (.str (txr r)), some (.ref h.length), some (.str (txr y))]) (h := G) (h1 := G) (h2 := G) rfl rfl).trans neS_f) rfl
    rw [this, eqL_iff]
    by_cases e : y = r
    · rw [decide_eq_true (by rw [e]), decide_eq_false (fun z => z e)]; rfl
    · rw [decide_eq_false (fun z => e (txr_inj hy hd z)), decide_eq_true e]; rfl
  have c2 : (ev (pC P (n + 6) h false) (.call 43 [.var 0, .var 3])).t [some (.str (nmS s)), some (.str (txr r)), some (.ref h.length), some (.str (txr y))] G = .ok (decide (Rt s y)) G :=
    tru_v (callP (n := n + 6) (k := 43) (args_cons (d := .str (nmS s)) (h1 := G) rfl (args1 (d := .str (txr y)) (h1 := G) rfl)) (lok_call (n := n + 1) hs hy hl)) rfl
  have c3 : (ev (pC P (n + 6) h false) (.cmp .NotIn (.var 3) (.var 2))).t [some (.str (nmS s)), some (.str (txr r)), some (.ref h.length), some (.str (txr y))] G = .ok (!decide (y ∈ A)) G := by
    have := tru_v ((cmp_ev (C := pC P (n + 6) h false) (op := .NotIn) (e := .var 3) (e2 := .var 2) (x := .str (txr y)) (y := .ref h.length) (env := [some (.str (nmS s)), some (.str (txr r)), some (.ref h.length), some (.str (txr y))]) (h := G) (h1 := G) (h2 := G) rfl rfl).trans (notin_sD (ref_items aG) (txr y))) rfl
    rw [this, show decide (txr y ∈ A.map txr) = decide (y ∈ A) from decide_eq_decide.mpr (mem_txr hA hy)]
  have ap : execS (pC P (n + 6) h false) (.expr (.bm .append (.var 2) [.var 3])) [some (.str (nmS s)), some (.str (txr r)), some (.ref h.length), some (.str (txr y))] G = .nx [some (.str (nmS s)), some (.str (txr r)), some (.ref h.length), some (.str (txr y))] (h ++ HV.lst (sD (A.map txr) ++ [.str (txr y)]) :: [HV.lst U]) :=
    app_evg (C := pC P (n + 6) h false) (c := .var 3) (o := .var 2) (h := G) (h1 := h) (g := [HV.lst U]) (xs := sD (A.map txr)) (x := .str (txr y)) (by rw [hG]; rfl) (Nat.le_refl _) rfl (by rw [sD_len, List.length_map]; omega)
  have hap : sD (A.map txr) ++ [.str (txr y)] = sD ((A ++ [y]).map txr) := by
    rw [List.map_append, sD_app]
    rfl
  rw [hap] at ap
  unfold fnd bMis
  by_cases h1 : y = r
  · rw [decide_eq_false (fun e => e h1)] at c1
    rw [decide_eq_false (fun e => e h1), Bool.false_and, if_neg (fun e => Bool.false_ne_true e.1), hG]
    exact (ss_nx ((ite_f (and_tf c1)).trans rfl)).trans rfl
  · rw [decide_eq_true h1] at c1
    rw [decide_eq_true h1, Bool.true_and]
    by_cases h2 : Rt s y
    · rw [decide_eq_true h2] at c2
      rw [decide_eq_true h2]
      by_cases h3 : y ∈ A
      · rw [decide_eq_true h3] at c3
        rw [if_neg (fun e => e.2 h3), hG]
        exact (ss_nx ((ite_f (and_tt c1 (and_tt c2 c3))).trans rfl)).trans rfl
      · rw [decide_eq_false h3] at c3
        rw [if_pos ⟨rfl, h3⟩]
        exact (ss_nx ((ite_t (and_tt c1 (and_tt c2 c3))).trans ((ss_nx ap).trans rfl))).trans rfl
    · rw [decide_eq_false h2] at c2
      rw [decide_eq_false h2, if_neg (fun e => Bool.false_ne_true e.1), hG]
      exact (ss_nx ((ite_f (and_tt c1 (and_tf c2))).trans rfl)).trans rfl
theorem mdi_succ {r : List Nat} {i : Nat} (hi : i < (slp s r).length) : mdi s r (i + 1) = if fnd s r (slp s r)[i] = true ∧ (slp s r)[i] ∉ mdi s r i then mdi s r i ++ [(slp s r)[i]] else mdi s r i := by
  unfold mdi
  rw [List.take_succ_eq_append_getElem hi, filt_snoc]
  cases hf : fnd s r (slp s r)[i] with
  | false => rw [if_neg Bool.false_ne_true, List.append_nil, if_neg (fun e => Bool.false_ne_true e.1)]
  | true =>
    rw [if_pos rfl, ded_snoc]
    by_cases h3 : (slp s r)[i] ∈ ded [] (((slp s r).take i).filter (fnd s r))
    · rw [if_pos h3, if_neg (fun e => e.2 h3)]
    · rw [if_neg h3, if_pos ⟨rfl, h3⟩]
theorem mdi_sub {r : List Nat} {i : Nat} : ∀ x ∈ mdi s r i, x ∈ slp s r := fun x hx => List.mem_of_mem_take (List.mem_filter.mp (ded_sub hx)).1
theorem mdi_len {r : List Nat} {i : Nat} : (mdi s r i).length ≤ (slp s r).length := by
  unfold mdi
  have h1 := ded_len (((slp s r).take i).filter (fnd s r)) []
  have h2 := List.length_filter_le (fnd s r) ((slp s r).take i)
  rw [List.length_take] at h2
  rw [List.length_nil] at h1
  omega
theorem lmis_call {r : List Nat} (hs : s < 4) (hd : Dg r) (h1 : 1 ≤ r.length) (hl : r.length ≤ 12) : callF P (n + 8) b 45 [.str (nmS s), .str (txr r)] h = .ok (.tup (sD (srt ((mde s r).map txr)))) h := by
  have hfu : 4000 ≤ P.fuel := hf
  have hsl := slp_len (s := s) (r := r)
  have s1 : execS (pC P (n + 6) h false) (.set 2 (.lst [])) [some (.str (nmS s)), some (.str (txr r)), none, none] h = .nx [some (.str (nmS s)), some (.str (txr r)), some (.ref h.length), none] (h ++ [HV.lst []]) := set_ev (lst_ev (ds := []) args_nil (by show 0 ≤ 1000; omega))
  have k1 : (ev (pC P (n + 6) h false) (.call 44 [.var 0, .var 1])).v [some (.str (nmS s)), some (.str (txr r)), some (.ref h.length), none] (h ++ [HV.lst []]) = .ok (.ref (h ++ [HV.lst []]).length) (h ++ [HV.lst []] ++ [HV.lst (sD ((slp s r).map txr))]) :=
    callP (n := n + 6) (k := 44) (args_cons (d := .str (nmS s)) (h1 := h ++ [HV.lst []]) rfl (args1 (d := .str (txr r)) (h1 := h ++ [HV.lst []]) rfl)) (slips_call (n := n + 3) hs hd h1 (by omega))
  have hh : h ++ [HV.lst []] ++ [HV.lst (sD ((slp s r).map txr))] = h ++ HV.lst (sD ([].map txr)) :: [HV.lst (sD ((slp s r).map txr))] := by
    rw [List.append_assoc]; rfl
  have hq : (h ++ [HV.lst []]).length = h.length + 1 := by rw [List.length_append, List.length_singleton]
  rw [hh, hq] at k1
  have at1 : ∀ A, Heap.at (h ++ HV.lst A :: [HV.lst (sD ((slp s r).map txr))]) (h.length + 1) = some (.lst (sD ((slp s r).map txr))) := fun A => by
    have := at_mid (h := h ++ [HV.lst A]) (t := []) (o := HV.lst (sD ((slp s r).map txr)))
    rw [List.append_assoc, List.length_append, List.length_singleton] at this
    exact this
  have hit := iter_v (w := .seq (h.length + 1)) k1 (by
    show (match Heap.at (h ++ HV.lst (sD ([].map txr)) :: [HV.lst (sD ((slp s r).map txr))]) (h.length + 1) with | some (.lst _) => some (It.seq (h.length + 1)) | _ => none) = _
    rw [at1]) rfl
  have hlen : (sD ((slp s r).map txr)).length = (slp s r).length := by rw [sD_len, List.length_map]
  obtain ⟨e2, s3, q1, x3, rfl, rfl⟩ := for_rule (C := pC P (n + 6) h false) (tg := .nm 3) (it := .call 44 [.var 0, .var 1]) (n := (slp s r).length) (w := .seq (h.length + 1)) (b := bMis) (env := [some (.str (nmS s)), some (.str (txr r)), some (.ref h.length), none]) (h := h ++ [HV.lst []]) (h1 := h ++ HV.lst (sD ([].map txr)) :: [HV.lst (sD ((slp s r).map txr))])
    (I := fun i e t => ∃ x3, e = [some (.str (nmS s)), some (.str (txr r)), some (.ref h.length), x3] ∧ t = h ++ HV.lst (sD ((mdi s r i).map txr)) :: [HV.lst (sD ((slp s r).map txr))])
    hit ⟨none, rfl, rfl⟩
    (fun i e s' hi ⟨x3, e1, e2⟩ => by
      subst e1 e2
      have n1 := seq_next (at1 (sD ((mdi s r i).map txr))) (i := i) (by rw [hlen]; exact hi)
      have hgv : (sD ((slp s r).map txr))[i]'(by rw [hlen]; exact hi) = .str (txr (slp s r)[i]) := by
        unfold sD
        rw [List.getElem_map, List.getElem_map]
      rw [hgv] at n1
      have hy := slp_dg (s := s) hd _ (List.getElem_mem hi)
      have st := mis_step (n := n) (h := h) (U := sD ((slp s r).map txr)) (A := mdi s r i) hs hd hy.1 (by rw [hy.2]; omega) (fun x hx => (slp_dg hd x (mdi_sub x hx)).1) (by have := mdi_len (s := s) (r := r) (i := i); omega)
      rw [← mdi_succ hi] at st
      exact ⟨.str (txr (slp s r)[i]), [some (.str (nmS s)), some (.str (txr r)), some (.ref h.length), some (.str (txr (slp s r)[i]))], _, _, n1, rfl, st, some (.str (txr (slp s r)[i])), rfl, rfl⟩)
    (fun e s' ⟨x3, e1, e2⟩ => by
      subst e2
      have := seq_stop (at1 (sD ((mdi s r (slp s r).length).map txr)))
      rw [hlen] at this
      exact this) (by show (slp s r).length < P.fuel; omega)
  have hm : mdi s r (slp s r).length = mde s r := by unfold mdi mde; rw [List.take_length]
  rw [hm] at q1
  have hml : (mde s r).length ≤ 1000 := by
    have := mdi_len (s := s) (r := r) (i := (slp s r).length)
    rw [hm] at this
    omega
  have k4 := (bi_ev (C := pC P (n + 6) h false) (b := .sorted) (e := .var 2) (d := .ref h.length) (env := [some (.str (nmS s)), some (.str (txr r)), some (.ref h.length), x3]) (h := h ++ HV.lst (sD ((mde s r).map txr)) :: [HV.lst (sD ((slp s r).map txr))]) (h1 := h ++ HV.lst (sD ((mde s r).map txr)) :: [HV.lst (sD ((slp s r).map txr))]) rfl).trans (sorted_sD (ref_items at_mid) (by rw [List.length_map]; exact hml))
  have k5 := (bi_ev (b := .tuple) k4).trans (tuple_f (ref_items at_mid))
  exact pure_ret (f := ⟨2, 4, b45, true, false⟩) (n := n + 6) rfl rfl rfl ((ss_nx s1).trans ((ss_nx q1).trans (ss_ret (ret_ev k5)))) (sD_under _ _)
end
def CL : Ctx := { P := prog, call := callF prog 30, base := 0, low := callF prog 29, tl := true }
theorem callL {k : Nat} {h h1 h2 : Heap} {es : List E} {ds : List D} {env : Env} {d : D} (ha : cArgs (evs CL es) env h = .ok ds h1) (hc : callF prog 30 0 k ds h1 = .ok d h2) : (ev CL (.call k es)).v env h = .ok d h2 :=
  (call_ev ha).trans hc
theorem NUM_at {v : Nat} (h1 : v < 10) (h : Heap) : idxF (.str [48, 49, 50, 51, 52, 53, 54, 55, 56, 57]) (.int (v : Int)) h = .ok (.str [cd v]) h := by
  have e := idxS_f (s := NS 10) (i := v) (h := h) (by rw [NS_len]; exact h1)
  have : (NS 10)[v]'(by rw [NS_len]; exact h1) = cd v := by
    unfold NS
    rw [List.getElem_map, List.getElem_range]
  rw [this] at e
  exact e
def dC (n : Nat) : Ctx := { P := P, call := callF P (n + 2), base := 0, low := callF P (n + 1), tl := false }
theorem draws_call {n m : Nat} {row : List D} {t : Int} {g : Heap} (dw : Dw prog 37 36 row) (hm : m < 100) (ht : 0 ≤ t) :
    ∃ (r : List Nat) (t' : Int), 0 ≤ t' ∧ r.length = m ∧ Bare r ∧ callF P (n + 3) 0 40 [.ref 0, .ref 1, .int (m : Int)] (H2 row t g) = .ok (.str (txr r)) (H2 row t' g) := by
  have hfu : 4000 ≤ P.fuel := hf
  have s1 : execS (dC n) (.set 3 (.cstr [])) [some (.ref 0), some (.ref 1), iv m, none, none] (H2 row t g) = .nx [some (.ref 0), some (.ref 1), iv m, some (.str (txr [])), none] (H2 row t g) := set_ev rfl
  obtain ⟨e2, s2, q1, r, x, t', ht', hs, hd, rfl, rfl⟩ := for_rule (C := dC n) (tg := .nm 4) (it := .rng1 (.var 2)) (b := [.set 3 (.bin .Add (.var 3) (.idx (.cstr [48, 49, 50, 51, 52, 53, 54, 55, 56, 57]) (.call 37 [.var 0, .var 1, .cint 10])))]) (env := [some (.ref 0), some (.ref 1), iv m, some (.str (txr [])), none]) (h := H2 row t g) (h1 := H2 row t g) (w := .rng 0 m 1) (n := m)
    (I := fun i e s2 => ∃ r x t', 0 ≤ t' ∧ r.length = i ∧ Bare r ∧ e = [some (.ref 0), some (.ref 1), iv m, some (.str (txr r)), x] ∧ s2 = H2 row t' g)
    (rng1_ev (j := (m : Int)) rfl (rng_small (by omega))) ⟨[], none, t, ht, rfl, fun c hc => (by cases hc), rfl, rfl⟩
    (fun i e s2 hi ⟨r, x, t', ht', hs, hd, e1, e2⟩ => by
      subst e1 e2
      obtain ⟨v, v0, v1, e3⟩ := draw_c (C := dC n) (n := n) (e := .cint 10) (env := [some (.ref 0), some (.ref 1), iv m, some (.str (txr r)), iv i]) (i := 0) (j := 1) (g := g) dw rfl rfl rfl rfl rfl ht' (by decide)
      obtain ⟨c, rfl⟩ := Int.eq_ofNat_of_zero_le v0
      have hc : c < 10 := by omega
      have e4 := (idx_ev (e := .cstr [48, 49, 50, 51, 52, 53, 54, 55, 56, 57]) (x := .str [48, 49, 50, 51, 52, 53, 54, 55, 56, 57]) (h1 := H2 row t' g) rfl e3).trans (NUM_at hc _)
      have e5 := (bin_ev (op := .Add) (e := .var 3) (x := .str (txr r)) (h1 := H2 row t' g) rfl e4).trans (cat_f (by rw [txr_len]; show r.length + 1 ≤ _; omega))
      rw [← txr_cons] at e5
      have e6 : execS (dC n) (.set 3 (.bin .Add (.var 3) (.idx (.cstr [48, 49, 50, 51, 52, 53, 54, 55, 56, 57]) (.call 37 [.var 0, .var 1, .cint 10])))) [some (.ref 0), some (.ref 1), iv m, some (.str (txr r)), iv i] (H2 row t' g) = .nx [some (.ref 0), some (.ref 1), iv m, some (.str (txr (c :: r))), iv i] (H2 row (t' + 1) g) := set_ev e5
      refine ⟨.int i, _, _, _, rng_next hi, rfl, (ss_nx e6).trans rfl, c :: r, iv i, t' + 1, by omega, by rw [List.length_cons, hs], fun q hq => ?_, rfl, rfl⟩
      rcases List.mem_cons.mp hq with rfl | hq
      · omega
      · exact hd q hq)
    (fun e s2 _ => rng_stop) (by show m < P.fuel; omega)
  exact ⟨r, t', ht', hs, hd, call_ret (f := ⟨3, 5, b40, false, false⟩) (n := n + 1) rfl rfl rfl ((ss_nx s1).trans ((ss_nx q1).trans (ss_ret (ret_ev rfl))))⟩
def BV : List Nat := [66, 97, 100, 86, 97, 108, 117, 101]
theorem told_ex {e : E} {env : Env} {h : Heap} (he : (ev CL.dn e).v env h = .exc 0 [.int 1] h) : (ev CL (.told e)).v env h = .ok (.tup [.str BV, .int 1]) h := by
  show (if CL.tl then toldN CL ((ev CL.dn e).v env h) else .err) = _
  rw [he]
  rfl
def isck (c : Nat) (d : D) : Bool := match d with | .str [x] => decide (x = c) | _ => false
theorem good_one {n k : Nat} (hn : n = 10 ∨ n = 11) (hk : k < n) : ((((NS n).map fun c => D.str [c]).filter (isck (cd k))).map id) = [.str [cd k]] := by
  have key : ((List.range 10).all fun k => decide ((List.range 10).filter (fun i => decide (cd i = cd k)) = [k])) = true ∧ ((List.range 11).all fun k => decide ((List.range 11).filter (fun i => decide (cd i = cd k)) = [k])) = true := by decide
  have key2 : (List.range n).filter (fun i => decide (cd i = cd k)) = [k] := by
    rcases hn with rfl | rfl
    · exact of_decide_eq_true (List.all_eq_true.mp key.1 k (List.mem_range.mpr hk))
    · exact of_decide_eq_true (List.all_eq_true.mp key.2 k (List.mem_range.mpr hk))
  unfold NS
  rw [List.map_id, List.map_map, List.filter_map]
  have : (isck (cd k) ∘ ((fun c => D.str [c]) ∘ cd)) = fun i => decide (cd i = cd k) := rfl
  rw [this, key2]
  rfl
def eL (a3 a4 a5 a6 a7 a8 : Option D) : Env := [none, some (.ref 0), some (.ref 1), a3, a4, a5, a6, a7, a8, none]
def tN (r : List Nat) : Option D := some (.str (txr r))
def nN (s : Nat) : Option D := some (.str (nmS s))
def GDs : E := .lc [9] (.nm 9) (.var 5) [.call 43 [.var 3, .bin .Add (.var 4) (.var 9)]] (.var 9)
def ALs : E := .lc [9] (.nm 9) (.var 5) [] (.var 9)
def bA : List S := [.set 4 (.call 40 [.var 1, .var 2, .bin .Add (.cint 1) (.call 37 [.var 1, .var 2, .cint 11])]), .set 5 (.ife (.cmp .Eq (.var 3) (.cstr [101, 108, 101, 118, 101, 110])) (.cstr [48, 49, 50, 51, 52, 53, 54, 55, 56, 57, 120]) (.cstr [48, 49, 50, 51, 52, 53, 54, 55, 56, 57])), .set 6 GDs, .set 7 (.call 32 [.var 3, .var 4])]
def bB : List S := [.ite (.orv (.cmp .NotEq (.bi .len [.var 6]) (.cint 1)) (.orv (.notv (.call 34 [.var 7, .bin .Add (.var 4) (.idx (.var 6) (.cint 0))])) (.notv (.call 34 [.call 31 [.var 3, .var 7], .cbl true])))) [.ret (.cbl false)] [], .set 8 (.bin .Add (.var 4) (.call 38 [.var 1, .var 2, ALs]))]
def bC : List S := [.ite (.notv (.call 34 [.call 31 [.var 3, .var 8], .call 43 [.var 3, .var 8]])) [.ret (.cbl false)] [], .ite (.notv (.call 34 [.call 33 [.var 3, .var 7], .call 45 [.var 3, .var 7]])) [.ret (.cbl false)] [], .ite (.andv (.notv (.call 43 [.var 3, .var 8])) (.cmp .NotEq (.told (.call 33 [.var 3, .var 8])) (.tup [.cstr [66, 97, 100, 86, 97, 108, 117, 101], .cint 1]))) [.ret (.cbl false)] []]
theorem sD_pl (m : Nat) : ∀ ws, pls m (sD ws) = true
  | [] => by cases m <;> rfl
  | w :: ws => by
    have ih := sD_pl m ws
    cases m <;> exact ih
section
variable {rw' : List D} {t : Int} {g : Heap} {s : Nat}
theorem runA (dw : Dw prog 37 36 rw') (ht : 0 ≤ t) (hs : s < 4) (a4 a5 a6 a7 a8 : Option D) :
    ∃ (r : List Nat) (t' : Int), 0 ≤ t' ∧ Bare r ∧ 1 ≤ r.length ∧ r.length ≤ 11 ∧ execSs CL bA (eL (nN s) a4 a5 a6 a7 a8) (H2 rw' t g) = .nx (eL (nN s) (tN r) (some (.str (NS (bs s)))) (some (.ref (g.length + 2))) (tN (ckd s r :: r)) a8) (H2 rw' t' (g ++ [HV.lst [.str [cd (ckd s r)]]])) := by
  have hfu : 4000 ≤ prog.fuel := hf
  obtain ⟨v, v0, v1, e1⟩ := draw_c (C := CL) (n := 28) (e := .cint 11) (env := eL (nN s) a4 a5 a6 a7 a8) (i := 1) (j := 2) (g := g) (t := t) dw rfl rfl rfl rfl rfl ht (by decide)
  obtain ⟨m, rfl⟩ := Int.eq_ofNat_of_zero_le v0
  have hm : m < 11 := by omega
  have e2 := addN_ev (C := CL) (e1 := .cint 1) (k := 1) (h1 := H2 rw' t g) rfl e1
  obtain ⟨r, t', ht', hrl, hb, e3⟩ := draws_call (n := 27) (m := 1 + m) (t := t + 1) (g := g) dw (by omega) (by omega)
  have ar := args_cons (C := CL) (e := .var 1) (d := .ref 0) (env := eL (nN s) a4 a5 a6 a7 a8) (h := H2 rw' t g) (h1 := H2 rw' t g) rfl (args_cons (e := .var 2) (d := .ref 1) (h1 := H2 rw' t g) rfl (args1 e2))
  have k1 := callL (k := 40) ar e3
  have h1 : 1 ≤ r.length := by omega
  have h2 : r.length ≤ 11 := by omega
  have t1 : execS CL (.set 4 (.call 40 [.var 1, .var 2, .bin .Add (.cint 1) (.call 37 [.var 1, .var 2, .cint 11])])) (eL (nN s) a4 a5 a6 a7 a8) (H2 rw' t g) = .nx (eL (nN s) (tN r) a5 a6 a7 a8) (H2 rw' t' g) := set_ev k1
  have ce : ∀ s, s < 4 → cmpF .Eq (.str (nmS s)) (.str [101, 108, 101, 118, 101, 110]) (H2 rw' t' g) = .ok (.bl (decide (s = 3))) (H2 rw' t' g) := four (eqS_f.trans rfl) (eqS_f.trans rfl) (eqS_f.trans rfl) (eqS_f.trans rfl)
  have c1 : (ev CL (.cmp .Eq (.var 3) (.cstr [101, 108, 101, 118, 101, 110]))).t (eL (nN s) (tN r) a5 a6 a7 a8) (H2 rw' t' g) = .ok (decide (s = 3)) (H2 rw' t' g) :=
    tru_v ((cmp_ev (x := .str (nmS s)) (y := .str [101, 108, 101, 118, 101, 110]) (h1 := H2 rw' t' g) (h2 := H2 rw' t' g) rfl rfl).trans (ce s hs)) rfl
  have k2 : (ev CL (.ife (.cmp .Eq (.var 3) (.cstr [101, 108, 101, 118, 101, 110])) (.cstr [48, 49, 50, 51, 52, 53, 54, 55, 56, 57, 120]) (.cstr [48, 49, 50, 51, 52, 53, 54, 55, 56, 57]))).v (eL (nN s) (tN r) a5 a6 a7 a8) (H2 rw' t' g) = .ok (.str (NS (bs s))) (H2 rw' t' g) := by
    unfold bs
    by_cases h3 : s = 3
    · rw [decide_eq_true h3] at c1
      rw [if_pos h3, ife_t c1]
      rfl
    · rw [decide_eq_false h3] at c1
      rw [if_neg h3, ife_f c1]
      rfl
  have t2 : execS CL (.set 5 (.ife (.cmp .Eq (.var 3) (.cstr [101, 108, 101, 118, 101, 110])) (.cstr [48, 49, 50, 51, 52, 53, 54, 55, 56, 57, 120]) (.cstr [48, 49, 50, 51, 52, 53, 54, 55, 56, 57]))) (eL (nN s) (tN r) a5 a6 a7 a8) (H2 rw' t' g) = .nx (eL (nN s) (tN r) (some (.str (NS (bs s)))) a6 a7 a8) (H2 rw' t' g) := set_ev k2
  have hbs := bs_or s
  have hml : ((NS (bs s)).map fun c => D.str [c]).length = bs s := by rw [List.length_map, NS_len]
  have k3 := lc_filt (C := CL) (own := [9]) (tg := .nm 9) (it := .var 5) (c := .call 43 [.var 3, .bin .Add (.var 4) (.var 9)]) (elt := .var 9) (env := eL (nN s) (tN r) (some (.str (NS (bs s)))) a6 a7 a8) (h := H2 rw' t' g) (h1 := H2 rw' t' g) (w := .str (NS (bs s))) (ds := (NS (bs s)).map fun c => D.str [c]) (f := id) (p := isck (cd (ckd s r))) (E' := fun d => [none, some (.ref 0), some (.ref 1), nN s, tN r, some (.str (NS (bs s))), a6, a7, a8, some d])
    (iter_ev (x := .str (NS (bs s))) (h1 := H2 rw' t' g) rfl rfl rfl) walks_str (fun d _ z => rfl)
    (fun d hd z => by
      obtain ⟨c, hc, rfl⟩ := List.mem_map.mp hd
      unfold NS at hc
      obtain ⟨i, hi, rfl⟩ := List.mem_map.mp hc
      have hi := List.mem_range.mp hi
      have ok := cons_ok (s := s) hi hb
      have b1 : (ev CL (.bin .Add (.var 4) (.var 9))).v [none, some (.ref 0), some (.ref 1), nN s, tN r, some (.str (NS (bs s))), a6, a7, a8, some (.str [cd i])] (H2 rw' t' g ++ z) = .ok (.str (txr (i :: r))) (H2 rw' t' g ++ z) := by
        rw [txr_cons]
        exact (bin_ev (x := .str (txr r)) (y := .str [cd i]) (h1 := H2 rw' t' g ++ z) (h2 := H2 rw' t' g ++ z) rfl rfl).trans (cat_f (by rw [txr_len, List.length_singleton]; omega))
      have lk := lok_call (n := 24) (b := 0) (h := H2 rw' t' g ++ z) (s := s) (r := i :: r) hs ok.dg (by rw [List.length_cons]; omega)
      have hp : isck (cd (ckd s r)) (.str [cd i]) = decide (Rt s (i :: r)) := by
        show decide (cd i = cd (ckd s r)) = _
        have hck := ckd_lt s r
        exact decide_eq_decide.mpr ⟨fun e => (rt_ckd hi).mpr (cd_inj (by omega) (by omega) e), fun e => by rw [(rt_ckd hi).mp e]⟩
      rw [hp]
      exact tru_v (callL (k := 43) (args_cons (d := .str (nmS s)) (h1 := H2 rw' t' g ++ z) rfl (args1 b1)) lk) rfl)
    (fun d _ _ z => rfl) (by rw [hml]; show bs s < prog.fuel; omega) (by rw [hml]; unfold sizeLine; omega)
  rw [good_one hbs (ckd_lt s r), H2_len] at k3
  have t3 : execS CL (.set 6 GDs) (eL (nN s) (tN r) (some (.str (NS (bs s)))) a6 a7 a8) (H2 rw' t' g) = .nx (eL (nN s) (tN r) (some (.str (NS (bs s)))) (some (.ref (g.length + 2))) a7 a8) (H2 rw' t' (g ++ [HV.lst [.str [cd (ckd s r)]]])) := set_ev k3
  have wc := withd_call (n := 20) (b := 0) (h := H2 rw' t' (g ++ [HV.lst [.str [cd (ckd s r)]]])) hs hb h1 h2
  have k4 : (ev CL (.call 32 [.var 3, .var 4])).v (eL (nN s) (tN r) (some (.str (NS (bs s)))) (some (.ref (g.length + 2))) a7 a8) (H2 rw' t' (g ++ [HV.lst [.str [cd (ckd s r)]]])) = .ok (.str (txr (ckd s r :: r))) (H2 rw' t' (g ++ [HV.lst [.str [cd (ckd s r)]]])) :=
    callL (k := 32) (args_cons (d := .str (nmS s)) (h1 := H2 rw' t' (g ++ [HV.lst [.str [cd (ckd s r)]]])) rfl (args1 (d := .str (txr r)) (h1 := H2 rw' t' (g ++ [HV.lst [.str [cd (ckd s r)]]])) rfl)) wc
  have t4 : execS CL (.set 7 (.call 32 [.var 3, .var 4])) (eL (nN s) (tN r) (some (.str (NS (bs s)))) (some (.ref (g.length + 2))) a7 a8) (H2 rw' t' (g ++ [HV.lst [.str [cd (ckd s r)]]])) = .nx (eL (nN s) (tN r) (some (.str (NS (bs s)))) (some (.ref (g.length + 2))) (tN (ckd s r :: r)) a8) (H2 rw' t' (g ++ [HV.lst [.str [cd (ckd s r)]]])) := set_ev k4
  exact ⟨r, t', ht', hb, h1, h2, (ss_nx t1).trans ((ss_nx t2).trans ((ss_nx t3).trans ((ss_nx t4).trans rfl)))⟩
theorem so_str {n : Nat} {h : Heap} {w : List Nat} : callF prog 30 0 34 [.str w, .str w] h = .ok (.bl true) h := so_ok (P := prog) (k := 34) rfl hf 1 27 h 0 (.str w) rfl
theorem so_bool {h : Heap} {w : Bool} : callF prog 30 0 34 [.bl w, .bl w] h = .ok (.bl true) h := so_ok (P := prog) (k := 34) rfl hf 1 27 h 0 (.bl w) rfl
theorem runB (dw : Dw prog 37 36 rw') (ht : 0 ≤ t) (hs : s < 4) {r : List Nat} (hb : Bare r) (h1 : 1 ≤ r.length) (h2 : r.length ≤ 11) (a8 : Option D) :
    ∃ d, d < bs s ∧ execSs CL bB (eL (nN s) (tN r) (some (.str (NS (bs s)))) (some (.ref (g.length + 2))) (tN (ckd s r :: r)) a8) (H2 rw' t (g ++ [HV.lst [.str [cd (ckd s r)]]])) = .nx (eL (nN s) (tN r) (some (.str (NS (bs s)))) (some (.ref (g.length + 2))) (tN (ckd s r :: r)) (tN (d :: r))) (H2 rw' (t + 1) (g ++ [HV.lst [.str [cd (ckd s r)]]] ++ [HV.lst ((NS (bs s)).map fun c => D.str [c])])) := by
  have hfu : 4000 ≤ prog.fuel := hf
  have hck := ckd_lt s r
  have okc := cons_ok (s := s) hck hb
  have hat : Heap.at (H2 rw' t (g ++ [HV.lst [.str [cd (ckd s r)]]])) (g.length + 2) = some (.lst [.str [cd (ckd s r)]]) := H2_mid
  generalize hc : ckd s r = c at *
  generalize hG : g ++ [HV.lst [.str [cd c]]] = G at *
  have l1 := len_ev (C := CL) (e := .var 6) (x := .ref (g.length + 2)) (xs := [.str [cd c]]) (env := eL (nN s) (tN r) (some (.str (NS (bs s)))) (some (.ref (g.length + 2))) (tN (c :: r)) a8) (h := H2 rw' t G) (h1 := H2 rw' t G) rfl (ref_items hat)
  have c1 := tru_v ((cmp_ev (op := .NotEq) (e2 := .cint 1) (y := .int 1) (h2 := H2 rw' t G) l1 rfl).trans ne_f) rfl
  have i1 : (ev CL (.idx (.var 6) (.cint 0))).v (eL (nN s) (tN r) (some (.str (NS (bs s)))) (some (.ref (g.length + 2))) (tN (c :: r)) a8) (H2 rw' t G) = .ok (.str [cd c]) (H2 rw' t G) :=
    (idx_ev (x := .ref (g.length + 2)) (y := .int ((0 : Nat) : Int)) (h1 := H2 rw' t G) (h2 := H2 rw' t G) rfl rfl).trans (idx_seq (ds := [.str [cd c]]) (ref_items hat) rfl)
  have i2 : (ev CL (.bin .Add (.var 4) (.idx (.var 6) (.cint 0)))).v (eL (nN s) (tN r) (some (.str (NS (bs s)))) (some (.ref (g.length + 2))) (tN (c :: r)) a8) (H2 rw' t G) = .ok (.str (txr (c :: r))) (H2 rw' t G) := by
    rw [txr_cons]
    exact (bin_ev (x := .str (txr r)) (h1 := H2 rw' t G) rfl i1).trans (cat_f (by rw [txr_len, List.length_singleton]; omega))
  have k1 : (ev CL (.call 34 [.var 7, .bin .Add (.var 4) (.idx (.var 6) (.cint 0))])).v (eL (nN s) (tN r) (some (.str (NS (bs s)))) (some (.ref (g.length + 2))) (tN (c :: r)) a8) (H2 rw' t G) = .ok (.bl true) (H2 rw' t G) := callL (k := 34) (args_cons (d := .str (txr (c :: r))) (h1 := H2 rw' t G) rfl (args1 i2)) (so_str (n := 0))
  have dk := digok_call (n := 20) (b := 0) (h := H2 rw' t G) (s := s) (d := c) (r := r) hs okc h1 h2
  have hrt : Rt s (c :: r) := (rt_ckd hck).mpr hc.symm
  rw [decide_eq_true hrt] at dk
  have k2 : (ev CL (.call 31 [.var 3, .var 7])).v (eL (nN s) (tN r) (some (.str (NS (bs s)))) (some (.ref (g.length + 2))) (tN (c :: r)) a8) (H2 rw' t G) = .ok (.bl true) (H2 rw' t G) := callL (k := 31) (args_cons (d := .str (nmS s)) (h1 := H2 rw' t G) rfl (args1 (d := .str (txr (c :: r))) (h1 := H2 rw' t G) rfl)) dk
  have k3 : (ev CL (.call 34 [.call 31 [.var 3, .var 7], .cbl true])).v (eL (nN s) (tN r) (some (.str (NS (bs s)))) (some (.ref (g.length + 2))) (tN (c :: r)) a8) (H2 rw' t G) = .ok (.bl true) (H2 rw' t G) := callL (k := 34) (args_cons k2 (args1 (d := .bl true) (h1 := H2 rw' t G) rfl)) so_bool
  have cf := or_tf c1 (or_tf (not_t (tru_v k1 rfl)) (not_t (tru_v k3 rfl)))
  have hml : ((NS (bs s)).map fun c => D.str [c]).length = bs s := by rw [List.length_map, NS_len]
  have hbs := bs_or s
  have k4 := lc_map0 (C := CL) (own := [9]) (tg := .nm 9) (it := .var 5) (elt := .var 9) (env := eL (nN s) (tN r) (some (.str (NS (bs s)))) (some (.ref (g.length + 2))) (tN (c :: r)) a8) (h := H2 rw' t G) (h1 := H2 rw' t G) (w := .str (NS (bs s))) (ds := (NS (bs s)).map fun c => D.str [c]) (f := id) (E' := fun d => [none, some (.ref 0), some (.ref 1), nN s, tN r, some (.str (NS (bs s))), some (.ref (g.length + 2)), tN (c :: r), a8, some d])
    (iter_ev (x := .str (NS (bs s))) (h1 := H2 rw' t G) rfl rfl rfl) walks_str (fun d _ z => rfl) (fun d _ z => rfl) (by rw [hml]; show bs s < prog.fuel; omega) (by rw [hml]; unfold sizeLine; omega)
  rw [List.map_id, H2_len] at k4
  have k4' : (ev CL ALs).v (eL (nN s) (tN r) (some (.str (NS (bs s)))) (some (.ref (g.length + 2))) (tN (c :: r)) a8) (H2 rw' t G) = .ok (.ref (G.length + 2)) (H2 rw' t (G ++ [HV.lst ((NS (bs s)).map fun c => D.str [c])])) := k4
  obtain ⟨d, hdm, pc⟩ := pick_call (P := prog) (kP := 38) (n := 27) (b := 0) (x := .ref (G.length + 2)) (xs := (NS (bs s)).map fun c => D.str [c]) (g := G ++ [HV.lst ((NS (bs s)).map fun c => D.str [c])]) (t := t) dw rfl rfl (fun t => ref_items H2_mid) (by
    intro e
    rw [e] at hml
    rw [List.length_nil] at hml
    omega) ht
  obtain ⟨z, hz, rfl⟩ := List.mem_map.mp hdm
  unfold NS at hz
  obtain ⟨i, hi, rfl⟩ := List.mem_map.mp hz
  have hi := List.mem_range.mp hi
  have k5 := callL (k := 38) (args_cons (C := CL) (e := .var 1) (d := .ref 0) (env := eL (nN s) (tN r) (some (.str (NS (bs s)))) (some (.ref (g.length + 2))) (tN (c :: r)) a8) (h := H2 rw' t G) (h1 := H2 rw' t G) rfl (args_cons (e := .var 2) (d := .ref 1) (h1 := H2 rw' t G) rfl (args1 k4'))) pc
  have k6 := (bin_ev (op := .Add) (e := .var 4) (x := .str (txr r)) (h1 := H2 rw' t G) rfl k5).trans (cat_f (by rw [txr_len, List.length_singleton]; omega))
  rw [← txr_cons] at k6
  have t2 : execS CL (.set 8 (.bin .Add (.var 4) (.call 38 [.var 1, .var 2, ALs]))) (eL (nN s) (tN r) (some (.str (NS (bs s)))) (some (.ref (g.length + 2))) (tN (c :: r)) a8) (H2 rw' t G) = .nx (eL (nN s) (tN r) (some (.str (NS (bs s)))) (some (.ref (g.length + 2))) (tN (c :: r)) (tN (i :: r))) (H2 rw' (t + 1) (G ++ [HV.lst ((NS (bs s)).map fun c => D.str [c])])) := set_ev k6
  exact ⟨i, hi, (ss_nx ((ite_f cf).trans rfl)).trans ((ss_nx t2).trans rfl)⟩
theorem runC (hs : s < 4) {r : List Nat} {d : Nat} (hb : Bare r) (h1 : 1 ≤ r.length) (h2 : r.length ≤ 11) (hd : d < bs s) (a4 a5 a6 : Option D) (h : Heap) :
    execSs CL bC (eL (nN s) a4 a5 a6 (tN (ckd s r :: r)) (tN (d :: r))) h = .nx (eL (nN s) a4 a5 a6 (tN (ckd s r :: r)) (tN (d :: r))) h := by
  have hck := ckd_lt s r
  have okc := cons_ok (s := s) hck hb
  have okd := cons_ok (s := s) hd hb
  have hrt : Rt s (ckd s r :: r) := (rt_ckd hck).mpr rfl
  generalize ckd s r = c at *
  have hlc : (c :: r).length = r.length + 1 := List.length_cons
  have hld : (d :: r).length = r.length + 1 := List.length_cons
  have dk := digok_call (n := 20) (b := 0) (h := h) (s := s) (d := d) (r := r) hs okd h1 h2
  have lk := lok_call (n := 24) (b := 0) (h := h) (s := s) (r := d :: r) hs okd.dg (by omega)
  have k1 : (ev CL (.call 31 [.var 3, .var 8])).v (eL (nN s) a4 a5 a6 (tN (c :: r)) (tN (d :: r))) h = .ok (.bl (decide (Rt s (d :: r)))) h := callL (k := 31) (args_cons (d := .str (nmS s)) (h1 := h) rfl (args1 (d := .str (txr (d :: r))) (h1 := h) rfl)) dk
  have k2 : (ev CL (.call 43 [.var 3, .var 8])).v (eL (nN s) a4 a5 a6 (tN (c :: r)) (tN (d :: r))) h = .ok (.bl (decide (Rt s (d :: r)))) h := callL (k := 43) (args_cons (d := .str (nmS s)) (h1 := h) rfl (args1 (d := .str (txr (d :: r))) (h1 := h) rfl)) lk
  have k3 : (ev CL (.call 34 [.call 31 [.var 3, .var 8], .call 43 [.var 3, .var 8]])).v (eL (nN s) a4 a5 a6 (tN (c :: r)) (tN (d :: r))) h = .ok (.bl true) h := callL (k := 34) (args_cons k1 (args1 k2)) so_bool
  have mc := missed_call (n := 14) (b := 0) (h := h) (s := s) (d := c) (r := r) hs okc h1 h2
  rw [if_pos hrt] at mc
  have ml := lmis_call (n := 22) (b := 0) (h := h) (s := s) (r := c :: r) hs okc.dg (by omega) (by omega)
  have hmm := mss_missed hs okc hrt
  have hlen : (srt ((mss s (c :: r)).map txr)).length ≤ 1000 := by
    have hdl := mdi_len (s := s) (r := c :: r) (i := (slp s (c :: r)).length)
    have hm : mdi s (c :: r) (slp s (c :: r)).length = mde s (c :: r) := by unfold mdi mde; rw [List.take_length]
    have hsl := slp_len (s := s) (r := c :: r)
    rw [hm] at hdl
    have hil : ∀ (x : List Nat) (ws : List (List Nat)), (insT x ws).length = ws.length + 1 := by
      intro x ws
      induction ws with
      | nil => rfl
      | cons y ws ih =>
        unfold insT
        split
        · rfl
        · rw [List.length_cons, ih, List.length_cons]
    have hsr : ∀ (ws acc : List (List Nat)), (ws.foldl (fun acc x => insT x acc) acc).length = acc.length + ws.length := by
      intro ws
      induction ws with
      | nil => intro acc; rfl
      | cons w ws ih =>
        intro acc
        rw [List.foldl_cons, ih, hil, List.length_cons]
        omega
    rw [hmm]
    have := hsr ((mde s (c :: r)).map txr) []
    unfold srt
    rw [this, List.length_map, List.length_nil]
    omega
  rw [← hmm] at ml
  generalize srt ((mss s (c :: r)).map txr) = W at *
  have k4 : (ev CL (.call 33 [.var 3, .var 7])).v (eL (nN s) a4 a5 a6 (tN (c :: r)) (tN (d :: r))) h = .ok (.tup (sD W)) h := callL (k := 33) (args_cons (d := .str (nmS s)) (h1 := h) rfl (args1 (d := .str (txr (c :: r))) (h1 := h) rfl)) mc
  have k5 : (ev CL (.call 45 [.var 3, .var 7])).v (eL (nN s) a4 a5 a6 (tN (c :: r)) (tN (d :: r))) h = .ok (.tup (sD W)) h := callL (k := 45) (args_cons (d := .str (nmS s)) (h1 := h) rfl (args1 (d := .str (txr (c :: r))) (h1 := h) rfl)) ml
  have hpl : pl 2 (.tup (sD W)) = true := by
    show (decide (2 ≠ 0) && decide ((sD W).length < 4000) && pls (2 - 1) (sD W)) = true
    rw [sD_pl, decide_eq_true (show (sD W).length < 4000 by rw [sD_len]; omega)]
    rfl
  have k6 : (ev CL (.call 34 [.call 33 [.var 3, .var 7], .call 45 [.var 3, .var 7]])).v (eL (nN s) a4 a5 a6 (tN (c :: r)) (tN (d :: r))) h = .ok (.bl true) h := callL (k := 34) (args_cons k4 (args1 k5)) (so_ok (P := prog) (k := 34) rfl hf 2 26 h 0 (.tup (sD W)) hpl)
  have c1 := not_t (tru_v k2 rfl)
  have c2 : (ev CL (.andv (.notv (.call 43 [.var 3, .var 8])) (.cmp .NotEq (.told (.call 33 [.var 3, .var 8])) (.tup [.cstr [66, 97, 100, 86, 97, 108, 117, 101], .cint 1])))).t (eL (nN s) a4 a5 a6 (tN (c :: r)) (tN (d :: r))) h = .ok false h := by
    by_cases hr : Rt s (d :: r)
    · rw [decide_eq_true hr] at c1
      exact and_tf c1
    · rw [decide_eq_false hr] at c1
      have md := missed_call (n := 13) (b := 0) (h := h) (s := s) (d := d) (r := r) hs okd h1 h2
      rw [if_neg hr] at md
      have r1 : (ev CL.dn (.call 33 [.var 3, .var 8])).v (eL (nN s) a4 a5 a6 (tN (c :: r)) (tN (d :: r))) h = .exc 0 [.int 1] h := (call_ev (args_cons (d := .str (nmS s)) (h1 := h) rfl (args1 (d := .str (txr (d :: r))) (h1 := h) rfl))).trans md
      have e1 : (ev CL (.cmp .NotEq (.told (.call 33 [.var 3, .var 8])) (.tup [.cstr [66, 97, 100, 86, 97, 108, 117, 101], .cint 1]))).v (eL (nN s) a4 a5 a6 (tN (c :: r)) (tN (d :: r))) h = .ok (.bl false) h :=
        (cmp_ev (y := .tup [.str BV, .int 1]) (h2 := h) (told_ex r1) rfl).trans rfl
      exact and_tt c1 (tru_v e1 rfl)
  exact (ss_nx ((ite_f (not_t (tru_v k3 rfl))).trans rfl)).trans ((ss_nx ((ite_f (not_t (tru_v k6 rfl))).trans rfl)).trans ((ss_nx ((ite_f c2).trans rfl)).trans rfl))
def nms4 : List D := [.str (nmS 0), .str (nmS 1), .str (nmS 2), .str (nmS 3)]
theorem run0 (dw : Dw prog 37 36 rw') : YRun CL b46.tail (none :: some (.ref 0) :: List.replicate 8 none) [.lst rw'] := by
  have hfu : 4000 ≤ prog.fuel := hf
  refine .step (env1 := eL none none none none none none) (h1 := H2 rw' 0 []) (set_ev rfl) ?_
  obtain ⟨e2, s3, q1, a3, a4, a5, a6, a7, a8, t, g, _, rfl, rfl⟩ := for_rule (C := CL) (tg := .nm 3) (it := .lst [.cstr [115, 117, 109], .cstr [116, 104, 114, 101, 101], .cstr [108, 117, 104, 110], .cstr [101, 108, 101, 118, 101, 110]]) (n := 4) (w := .seq 2) (b := bA ++ (bB ++ bC)) (env := eL none none none none none none) (h := H2 rw' 0 []) (h1 := H2 rw' 0 [HV.lst nms4])
    (I := fun i e s' => ∃ a3 a4 a5 a6 a7 a8 t g, (0 : Int) ≤ t ∧ e = eL a3 a4 a5 a6 a7 a8 ∧ s' = H2 rw' t (HV.lst nms4 :: g))
    (iter_v (C := CL) (x := .ref 2) rfl rfl rfl) ⟨none, none, none, none, none, none, 0, [], by omega, rfl, rfl⟩
    (fun i e s' hi ⟨a3, a4, a5, a6, a7, a8, t, g, ht, e1, e2⟩ => by
      subst e1 e2
      have n1 := seq_next (s := H2 rw' t (HV.lst nms4 :: g)) (a := 2) (ds := nms4) rfl hi
      have hn : nms4[i]'hi = .str (nmS i) := by
        have : ∀ i, i < 4 → ∀ h : i < nms4.length, nms4[i]'h = .str (nmS i) := four (fun _ => rfl) (fun _ => rfl) (fun _ => rfl) (fun _ => rfl)
        exact this i hi hi
      rw [hn] at n1
      obtain ⟨r, t1, ht1, hb, h1, h2, f1⟩ := runA (g := HV.lst nms4 :: g) (s := i) dw ht hi a4 a5 a6 a7 a8
      obtain ⟨d, hd, f2⟩ := runB (g := HV.lst nms4 :: g) (s := i) dw ht1 hi hb h1 h2 a8
      have f3 := runC (s := i) hi hb h1 h2 hd (tN r) (some (.str (NS (bs i)))) (some (.ref ((HV.lst nms4 :: g).length + 2))) (H2 rw' (t1 + 1) (HV.lst nms4 :: g ++ [HV.lst [.str [cd (ckd i r)]]] ++ [HV.lst ((NS (bs i)).map fun c => D.str [c])]))
      exact ⟨.str (nmS i), eL (nN i) a4 a5 a6 a7 a8, _, _, n1, rfl, (ss_app f1).trans ((ss_app f2).trans f3), nN i, _, _, _, _, _, t1 + 1, g ++ [HV.lst [.str [cd (ckd i r)]]] ++ [HV.lst ((NS (bs i)).map fun c => D.str [c])], by omega, rfl, rfl⟩)
    (fun e s' ⟨a3, a4, a5, a6, a7, a8, t, g, ht, e1, e2⟩ => by
      subst e2
      exact seq_stop (s := H2 rw' t (HV.lst nms4 :: g)) (a := 2) (ds := nms4) rfl) (by show 4 < prog.fuel; omega)
  refine .step q1 ?_
  exact .ret (ss_ret (ret_ev rfl))
end
theorem plain : ∀ row : List Y.D, row ≠ [] → RowOk 3781 row → YRun (lawC tab 29 true) b46.tail (none :: some (.ref 0) :: List.replicate 8 none) [.lst row] := fun row ne ok => run0 ⟨rfl, rfl, ok, ne⟩
end K25
open PySem PySem.W PySem.Calls PyProof.Rows in
theorem PySem.Challenge.cw_poststead_k25_whole_check_digits_holds : PySem.Challenge.rw_poststead_k25_whole_check_digits.Holds := by
  w_on; o_law
  refine HandSHeadRun.head_any (r := OpenLaw.row PySem.Challenge.rw_poststead_k25_whole_check_digits) (q := view (OpenLaw.row PySem.Challenge.rw_poststead_k25_whole_check_digits).prog [K25.lawAt]) (H := K25.hk) (ob := K25.ob) (M := 20000) (loose := K25.loose) (d := HandSHeadRun.topDef (OpenLaw.row PySem.Challenge.rw_poststead_k25_whole_check_digits).prog K25.lawAt) (kwd := []) K25.ob_eq
    (by kernel_rfl) (fun s => by kernel_rfl) K25.run (by kernel_rfl) (by kernel_rfl) (by kernel_rfl) (by rfl) (by first | assumption | decide +kernel) (by decide +kernel) ⟨rfl, rfl, rfl, rfl, rfl, by decide +kernel⟩ ?hw ?hc
  case hw => w_witness2
  case hc =>
    refine LamX.walk_ofTsE (l := PySem.Challenge.rw_poststead_k25_whole_check_digits) (n := 63) (k := 127) (x := "script") (CX := fun w => L2.CX PySem.Challenge.pw_poststead_k25_whole_check_digits w) rfl (by decide) (by kernel_rfl) ⟨rfl, by decide, by decide⟩ ?F ?X
    case X =>
      intro w H s e s' h
      exact h.elim fun _ h => h.elim fun _ h => h.elim fun _ h => h.elim fun _ h => h.elim fun _ h => h.2.2.2.2.2.2.2
    intro w mg fa h Y G hmg0
    obtain ⟨K, KX, c⟩ := Y
    have hmg : mg ("law" : PySem.Str) = some (.ref fa) := by
      have e : (HandSHeadRun.topDef (OpenLaw.row PySem.Challenge.rw_poststead_k25_whole_check_digits).prog K25.lawAt).name = ("law" : PySem.Str) := by kernel_rfl
      rw [← e]
      exact hmg0
    exact ⟨K, KX, Y.law_at2 (D := K25.tab) (n := 29) (k := K25.lawK) (kN := 35) (m := 8) (d := K25.lawD) (rest := K25.b46.tail) (lam := true) c KX G hmg rfl rfl rfl (by decide) K25.txt (fun _ => rfl) (fun _ => rfl) (fun _ _ => rfl) rfl rfl (by decide +kernel) K25.plain⟩
